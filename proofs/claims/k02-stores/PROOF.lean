import PyProof.Rows.All
import Wide.All
import OpenK.AllK
import Wide.FinOn
import HandS.ForMost
import PyProof.ReprRoads
import HandS.TupMul
import HandS.TupAny
import PyProof.ReprBulk
import PyProof.FitsInt
import HandS.IsInst
import PyProof.EqAt
import PyProof.NeKinds
import HandS.Sort
import PyProof.Rows.SortKeyStr
import PyProof.Rows.TupMore
import PyProof.EqKinds
import PyProof.TupleCall
import HandS.Base
import HandS.Call
import HandS.List
import HandS.Style
import HandS.Star
import HandS.Defaults
import HandS.MakeKw
import HandS.SortOrd
import HandS.SortRule
import KE.KDictPairs
import PyProof.StrOps2
import HandS.Exc
import HandS.ExcInit
import HandS.ExcIs
import HandS.ExcField
import HandS.ExcValue
import HandS.HotCalls
import KE.KExcIs
import HandS.Words
import HandS.WordsExc
import HandS.ExcCtx
import HandS.TryMany
import HandS.Codes
import HandS.OwnEq
import HandS.Iter
import HandS.Walk
import PyProof.Draws
import PyProof.EnumMake
import KE.GoesMore
import HandS.ClsMeth
import HandS.ExcOwn
import PyProof.Rows.EqBoolInt
import PyProof.FactsAll.subtypes_4
import PyProof.FactsAll.dict_1
import PyProof.FactsAll.tuple
import PyProof.Rows.ReprOcc
import KE.KIntText
import HandS.SortKw
import KE.SortKeyHeap
import PySem.Challenge.RW_plugcaller_k02_stores_of_any_value
import HandS.Flow
import HandS.More
import HandS.Strs
import HandS.Zip
import HandS.Text
import HandS.Property
import HandS.NoneIn
import HandS.SortInts
import HandS.Conv
set_option Elab.async false
set_option linter.all false
set_option maxRecDepth 100000
set_option maxHeartbeats 4000000
/-! Zg: promises of defs that are called where no repr is under way (guards known to be none), and the end of a law over such a promise. -/
namespace Zg
open PySem PySem.Spec PyProof.Rows L2
/-- no repr is under way -/
abbrev Gd (A : Around) : Prop := A.guards = some []
/-- a def's promise, asked only where no repr is under way -/
structure FnG (P : Program) (w : World) (K : PySem.W.Frag) (mg : Str → Option Value) (base : Heap) (k : Nat) (f : Addr) (fd : FuncData) (ps : List Str) (sp : Sp) : Prop where
  len : ∀ vs H Q E, sp vs H Q E → vs.length = ps.length
  run : ∀ (A : Around) (outer : List Env) (s : Shared) (H : Hp) (args : Args) (us : List Value) (vs : List V) (Q : VK), Gd A → Room k A →
    Env0 P w K mg base A outer s H → BindsTo s fd args (ps.zip us) → Vals vs us → sp vs H Q E0 →
    codeAny (model P w) A (.call (.ref f) args) (CR CX0 outer P w H s Q E0) s
theorem FnG.of {P : Program} {w : World} {K : PySem.W.Frag} {mg : Str → Option Value} {base : Heap} {k : Nat} {f : Addr} {fd : FuncData} {ps : List Str} {sp : Sp}
    (F : FnOk P w K mg base CX0 k f fd ps sp) : FnG P w K mg base k f fd ps sp :=
  ⟨F.len, fun A outer s H args us vs Q _ hr e0 hb hv hs => F.run A outer s H args us vs Q E0 hr e0 hb hv hs⟩
section
variable {P : Program} {w : World} {K : PySem.W.Frag} {mg : Str → Option Value} {base : Heap}
theorem okG {x qual : Str} {st : Stmt} {f : Addr} {fd : FuncData} {N ps : List Str} {k : Nat} {sp : Sp} (F : Fun K x qual st f fd) (S : FnScope N ps (defScope st))
    (len : ∀ vs H Q E, sp vs H Q E → vs.length = ps.length)
    (hbody : ∀ (cdv : Value) (A : Around) (outer : List Env) (s : Shared) (H : Hp) (vs : List V) (Q : VK), Gd (A.deeper (envOfC qual (defScope st) s.heap.objs.size f cdv)) →
      Room k (A.deeper (envOfC qual (defScope st) s.heap.objs.size f cdv)) → sp vs H Q E0 →
      ∃ t, PSs (cxOf CX0 P w K mg base N qual (defScope st) f cdv A outer s H E0).nox (defBody st) t ∧ t { nx := fun _ H' => Q .non H', rt := Q } (start N vs) H) :
    FnG P w K mg base (k + 1) f fd ps sp := by
  obtain ⟨oc, od, kV, doc, pm, an, cdv, ct, osl, rfl, lk, hcd⟩ := F.ex
  refine ⟨len, fun A outer s H args us vs Q hgd hr e0 hb r hsp => ?_⟩
  have hl := len _ _ _ _ hsp
  have kept : ∀ b o, base.get? b = some o → s.heap.get? b = some o := fun b o e => (e0.bs b o e).1
  have known : ∀ y ∈ ps.zip us, (defScope st).names.lookup y.1 = some .local ∨
      ((defScope st).names.lookup y.1 = some .cell ∧ ((cellsFrom (s.heap.objs.size + 1) (defScope st).names []).lookup y.1).isSome = true) := fun ⟨n, v⟩ hy =>
    (S.par n (List.of_mem_zip hy).1).elim .inl fun q => .inr ⟨q, PySem.W.cellsFrom_some _ _ _ (.inl q)⟩
  refine codeAny_call_function hr.depth (e0.mod.kin.keeps kept _ _ lk) rfl S.co S.gen rfl (PySem.W.codeRec_of (e0.mod.kin.keeps kept) hcd) (hb _ _ _ _ ?_)
  refine wpAny_newFunctionEnv_cells S.kind known fun env he s1 x => ?_
  subst he
  refine ⟨(e0.mod.nolimit.keeps kept).keeps x.toInCall.keep, codeAny_func ?_⟩
  obtain ⟨t, ht, hq⟩ := hbody cdv A outer s H vs Q hgd (hr.deeper _) hsp
  refine wpAny_mono (ht.nox.run [] s1 (start N vs) H _ (inv_start S hr.hd e0 hl r x) hq) (fun fl s' hs => ?_) fun e s' hs => hs
  cases fl with
  | ret u =>
    obtain ⟨v, σ', H', J, rv, q⟩ := hs
    exact ⟨v, H', J.os, J.bare, J.base, J.hok, rv, q⟩
  | next =>
    obtain ⟨σ', H', J, q⟩ := hs
    exact ⟨V.non, H', J.os, J.bare, J.base, J.hok, rfl, q⟩
  | brk => exact hs.elim fun _ z => z.elim fun _ z => z.2.elim
  | cont => exact hs.elim fun _ z => z.elim fun _ z => z.2.elim
end
section
variable {X : Cx} {k : Nat} {f : Addr} {fd : FuncData} {ps ks : List Str} {sp : Sp} {dvs : List V} {ds : List Value} {x : Str} {p pos : Pos} {e : Expr} {es : List Expr} {kws : List Keyword} {t tk : TA}
/-- f(e, ..), f's promise asked where no repr is under way -/
theorem pe_callG (F : FnG X.prog X.w X.K X.mg X.base k f fd ps sp) (hgd : Gd X.A) (hr : Room k X.A) (hg : Gl X x) (hm : X.mg x = some (.ref f)) (hk : PySem.W.keepIn X.K (.ref f) = true) (hb : Binds X.K fd ps ds) (hd : Vals dvs ds)
    (ha : PA X (e :: es) t) (hdb : (x == ("__debug__" : Str)) = false := by decide) (he : starEach (e :: es) X.env = (false, eval e X.env) :: starEach es X.env := by rfl) (hpl : (backTo pos (starEach es X.env)).any (·.1) = false := by rfl) :
    PE X (.Call (.Name x p) (e :: es) [] pos) (tCall sp dvs E0 t) := by
  refine ⟨fun pins s σ H Q I h => wpAny_Call_Name_kw (ld_glob I hg hm ?_ hdb)⟩
  refine PySem.W.callWith_K (h₀ := X.base) I.ok.mod.kin hk (thn (ha.run pos pins s σ H _ I h) fun us s1 ⟨vs, H1, I1, r, q⟩ => ⟨I1.kIn, ?_⟩) he hpl
  have r2 : Vals (vs ++ dvs) (us ++ ds) := r.append hd
  have hl : (us ++ ds).length = ps.length := by rw [← r2.length]; exact F.len _ _ _ _ q
  refine wpAny_call (codeAny_mono (F.run X.A X.stack s1 H1 ⟨us, []⟩ (us ++ ds) (vs ++ dvs) Q hgd hr I1.env0 (hb s1 us I1.kIn hl) r2 q) fun r s' hq => ?_)
  cases r with
  | error e => exact hq.elim
  | ok fl =>
    cases fl with
    | ret u => exact I1.after hq
    | next => exact hq.elim
    | brk => exact hq.elim
    | cont => exact hq.elim
end
/-- how a call by keywords alone binds: g puts the keywords' values (names ks) in the parameters' order -/
structure KB0 (K : PySem.W.Frag) (fd : FuncData) (ps ks : List Str) (g : List Value → List Value) (gV : List V → List V) : Prop where
  to : ∀ (s : Shared) (ws : List Value), ws.length = ks.length → BindsTo s fd ⟨[], ks.zip ws⟩ (ps.zip (g ws))
  rel : ∀ {zs : List V} {ws : List Value}, Vals zs ws → Vals (gV zs) (g ws)
section
variable {X : Cx} {CX : CXT} {k : Nat} {f : Addr} {fd : FuncData} {ps ks : List Str} {sp : Sp} {E : XK} {x : Str} {p pos : Pos} {kws : List Keyword} {tk : TA} {g : List Value → List Value} {gV : List V → List V}
/-- f(k = v, ..): keywords alone -/
def tCallK0 (m : Nat) (sp : Sp) (gV : List V → List V) (E : XK) (tk : TA) : TE := fun σ H Q => tk σ H fun zs H2 => zs.length = m ∧ sp (gV zs) H2 Q E
theorem pe_callK0 (F : FnOk X.prog X.w X.K X.mg X.base CX k f fd ps sp) (hr : Room k X.A) (hg : Gl X x) (hm : X.mg x = some (.ref f)) (hk : PySem.W.keepIn X.K (.ref f) = true) (hb : KB0 X.K fd ps ks g gV) (hx : Passes CX X E)
    (hkw : PK X kws tk) (hall : (backToKw pos (keywordEach kws X.env)).all (·.1.isSome) = true := by rfl) (hks : (backToKw pos (keywordEach kws X.env)).filterMap (·.1) = ks := by rfl)
    (hdb : (x == ("__debug__" : Str)) = false := by decide) (hpl : ((backTo pos (starEach [] X.env)).any (·.1) || (backToKw pos (keywordEach kws X.env)).any (·.1.isNone)) = false := by rfl) :
    PE X (.Call (.Name x p) [] kws pos) (tCallK0 ks.length sp gV E tk) := by
  refine ⟨fun pins s σ H Q I h => wpAny_Call_Name_kw (ld_glob I hg hm ?_ hdb)⟩
  refine PySem.W.callWith_KW0 (h₀ := X.base) I.ok.mod.kin hk hall ?_ hpl
  refine thn (hkw.run pos pins s σ H _ I h) fun ws s2 ⟨zs, H2, I2, rz, l2, q2⟩ => ⟨I2.kIn, ?_⟩
  rw [hks, List.append_nil]
  have hw : ws.length = ks.length := by rw [← rz.length]; exact l2
  refine wpAny_call (codeAny_mono (F.run X.A X.stack s2 H2 ⟨[], ks.zip ws⟩ (g ws) (gV zs) Q E hr I2.env0 (hb.to s2 ws hw) (hb.rel rz) q2) fun r s' hq => ?_)
  cases r with
  | error e => exact hx pins σ H2 s2 e s' I2 hq
  | ok fl =>
    cases fl with
    | ret u => exact I2.after hq
    | next => exact hq.elim
    | brk => exact hq.elim
    | cont => exact hq.elim
end
/-- .. of a def of the text -/
theorem kb0 {K : PySem.W.Frag} {x qual : Str} {st : Stmt} {f : Addr} {fd : FuncData} {ps ks : List Str} {g : List Value → List Value} {gV : List V → List V} (F : Fun K x qual st f fd)
    (h : ∀ (kV doc pm : Value) (an : Option Addr) (cdv ct : Value) (ws : List Value), ws.length = ks.length → bindArgs (PySem.W.fnOf x qual (defArgs st) (defBody st) (defScope st) .none kV doc pm an cdv ct) ⟨[], ks.zip ws⟩ = pure (ps.zip (g ws)))
    (r : ∀ {zs : List V} {ws : List Value}, Vals zs ws → Vals (gV zs) (g ws)) : KB0 K fd ps ks g gV := by
  obtain ⟨oc, od, kV, doc, pm, an, cdv, ct, osl, rfl, lk, hcd⟩ := F.ex
  exact ⟨fun s ws hl => .of_eq (h kV doc pm an cdv ct ws hl), r⟩
/-! ### the end of a law over such a promise -/
section
variable {P : Program} {w : World} {K : PySem.W.Frag} {mg mb : Str → Option Value} {k : Nat} {fa a : Addr} {fd : FuncData} {x : Str} {sp : Sp} {s₁ : Shared} {vs : List Value} {ns : List Int}
/-- the call of the law, from an abstract heap that tracks the script at most -/
theorem enterG {H : Hp} (KX : K.In s₁.heap) (hns : s₁.heap.Ns mainGlobals mg) (hb : s₁.heap.Ns builtinsNs mb) (hbb : ∀ x : Str, x ≠ "__name__" → mb x = bootBuiltins x) (hlim : s₁.heap.NoLimit) (hg : s₁.gens = #[])
    (hscript : ∃ o : Obj, s₁.heap.get? a = some o ∧ ∀ es ep, o.data ≠ .dict es ep) (hr : Room k callerA)
    (F : ∀ base : Heap, K.In base → base.Ns mainGlobals mg → FnG P w K mg base k fa fd [x] sp) (hbind : ∀ (s : Shared) (u : Value), BindsTo s fd ⟨[u], []⟩ [(x, u)])
    (hsp : sp [.ref a] H (fun v _ => v = .bl true) E0) (hO : Only H) (hok : HOk P w H s₁.heap) (hA : ∀ b, H b ≠ none → b = a) (hK : H a ≠ none → K.lookup a = none) :
    codeAny (model P w) callerA (.call (.ref fa) ⟨[.ref a], []⟩) (fun r s' => r = .ok (.ret (.bool true)) ∧ OldK s₁.heap s'.heap ∧ s'.os = s₁.os ∧ AllBare s'.gens) s₁ := by
  obtain ⟨os, hs1, hs2⟩ := hscript
  have apart : ∀ b : Addr, H b ≠ none → (∀ o es ep, s₁.heap.get? b = some o → o.data = .dict es ep → False) := fun b hb o es ep e d => by
    rw [hA b hb, hs1] at e
    cases e
    exact hs2 es ep d
  have nsK : ∀ {b : Addr} {m : Str → Option Value}, s₁.heap.Ns b m → (hidT s₁.heap H).Ns b m := fun {b m} ⟨o, es, ep, e, d, r⟩ => by
    refine ⟨o, es, ep, hidT_get e ?_, d, r⟩
    cases q : H b with
    | none => rfl
    | some u => exact (apart b (by rw [q]; exact fun z => nomatch z) o es ep e d).elim
  have hKb : K.In (hidT s₁.heap H) := fun b o e => hidT_get (KX b o e) (by
    cases q : H b with
    | none => rfl
    | some u =>
      have e' : b = a := hA b (by rw [q]; exact fun z => nomatch z)
      rw [e'] at e q
      rw [hK (by rw [q]; exact fun z => nomatch z)] at e
      cases e)
  have hM : Mod K mg (hidT s₁.heap H) := ⟨hKb, nsK hns, ⟨mb, nsK hb, hbb⟩, let ⟨mc, h1, h2⟩ := hlim; ⟨mc, nsK h1, h2⟩⟩
  have e0 : Env0 P w K mg (hidT s₁.heap H) callerA [] s₁ H :=
    ⟨rfl, hM, fun b o e => of_hidT e, Nat.le_of_eq (hidT_size _ _), trivial, fun b hb => absurd hb List.not_mem_nil, hok, .of_eq hg⟩
  refine codeAny_mono ((F _ hKb (nsK hns)).run callerA [] s₁ H ⟨[.ref a], []⟩ [.ref a] [.ref a] _ rfl hr e0 (hbind s₁ (.ref a)) (.cons rfl .nil) hsp) fun r s' h => ?_
  cases r with
  | error e => exact h.elim
  | ok fl =>
    cases fl with
    | next => exact h.elim
    | brk => exact h.elim
    | cont => exact h.elim
    | ret u =>
      obtain ⟨v, H', os', bare, un, hok', r', q⟩ := h
      obtain rfl : v = .bl true := q
      obtain rfl : u = Value.bool true := r'
      refine ⟨rfl, OldK.of_keep fun b o e => ?_, os', bare⟩
      cases q : H b with
      | none => exact un.keep b o e q List.not_mem_nil List.not_mem_nil
      | some u =>
        rcases hO b with z | ⟨ob, xs, z⟩
        · rw [q] at z
          cases z
        · obtain ⟨e1, _⟩ := hok b _ z
          obtain ⟨e2, _⟩ := hok' b _ (un.frzs b ob _ z)
          rw [e] at e1
          cases e1
          exact e2
theorem callG (KX : K.In s₁.heap) (hns : s₁.heap.Ns mainGlobals mg) (hb : s₁.heap.Ns builtinsNs mb) (hbb : ∀ x : Str, x ≠ "__name__" → mb x = bootBuiltins x) (hlim : s₁.heap.NoLimit) (hg : s₁.gens = #[])
    (ha : s₁.heap.get? a = some { cls := .type "list", data := .seq vs.toArray }) (hi : IntsAre vs ns) (hl : ns.length ≤ sizeLine) (hr : Room k callerA)
    (F : ∀ base : Heap, K.In base → base.Ns mainGlobals mg → FnG P w K mg base k fa fd [x] sp) (hbind : ∀ (s : Shared) (u : Value), BindsTo s fd ⟨[u], []⟩ [(x, u)])
    (hsp : ∀ H : Hp, Only H → SqL K H a (ns.map V.int) → sp [.ref a] H (fun v _ => v = .bl true) E0) :
    codeAny (model P w) callerA (.call (.ref fa) ⟨[.ref a], []⟩) (fun r s' => r = .ok (.ret (.bool true)) ∧ OldK s₁.heap s'.heap ∧ s'.os = s₁.os ∧ AllBare s'.gens) s₁ := by
  have rv := vals_ints hi
  have hsc : ∃ o : Obj, s₁.heap.get? a = some o ∧ ∀ es ep, o.data ≠ .dict es ep := ⟨_, ha, fun _ _ z => nomatch z⟩
  cases hk : K.lookup a with
  | some o =>
    have e := KX a o hk
    rw [ha] at e
    cases e
    refine enterG (H := fun _ => none) KX hns hb hbb hlim hg hsc hr F hbind (hsp _ (fun _ => .inl rfl) (.inr ⟨_, vs.toArray, _, hk, rfl, rfl, rfl, by rw [List.size_toArray, hi.length]; exact hl, by simpa using rv⟩))
      (fun _ => .inl rfl) (fun b u z => nomatch (show (none : Option HO) = some u from z)) (fun b z => absurd rfl z) fun z => absurd rfl z
  | none =>
    have one : ∀ {b : Addr} {u : HO}, (if b = a then some (HO.frz { cls := .type "list", data := .seq vs.toArray } (.lst (ns.map V.int))) else none) = some u → b = a := fun {b u} z => by
      by_cases q : b = a
      · exact q
      · rw [if_neg q] at z
        cases z
    have hO : Only (fun b => if b = a then some (HO.frz { cls := .type "list", data := .seq vs.toArray } (.lst (ns.map V.int))) else none) := fun b => by
      by_cases q : b = a
      · exact .inr ⟨_, _, if_pos q⟩
      · exact .inl (if_neg q)
    refine enterG KX hns hb hbb hlim hg hsc hr F hbind (hsp _ hO (.inl (.inr ⟨_, if_pos rfl⟩))) hO (fun b u z => ?_) (fun b z => ?_) fun _ => hk
    · have q := one z
      subst q
      have z' := (if_pos rfl).symm.trans z
      cases z'
      exact ⟨ha, by rw [List.length_map]; exact hl, vs, _, rv, ha⟩
    · cases q : (if b = a then some (HO.frz { cls := .type "list", data := .seq vs.toArray } (.lst (ns.map V.int))) else none) with
      | none => exact absurd q z
      | some u => exact one q
end
/-- the goal that the head leaves, from the law's promise -/
theorem walkG {l : PySem.W.OpenLaw} {n k : Nat} {q : Program} {loose : List Str} {XP : (Str → Option Value) → Heap → Prop} {YP : World → Heap → Prop} {d : DefRec} {K : Params → PySem.W.Frag} {sp : PySem.W.Frag → Sp} {x : Str}
    (hn : l.most = some n) (hn2 : n ≤ sizeLine) (hdf : d.params.defaults = []) (hr : Room k callerA) (hY : ∀ (w : World) (h : Heap), YP w h → (K w.params).In h)
    (F : ∀ (w : World) (mg : Str → Option Value) (fa : Addr) (h : Heap), (K w.params).In h → h.Ns mainGlobals mg → mg d.name = some (.ref fa) →
      ∃ fd : FuncData, (∀ (s : Shared) (u : Value), BindsTo s fd ⟨[u], []⟩ [(x, u)]) ∧
        ∀ base : Heap, (K w.params).In base → base.Ns mainGlobals mg → FnG l.prog w (K w.params) mg base k fa fd [x] (sp (K w.params)))
    (hsp : ∀ (K : PySem.W.Frag) (H : Hp) (a : Addr) (ns : List Int), ns.length ≤ n → Only H → SqL K H a (ns.map V.int) → sp K [.ref a] H (fun v _ => v = .bl true) E0) :
    PySem.W.WalkO q loose XP YP l.row.toRowW d [] (fun f vs => PySem.call f vs) := by
  refine Att.attach_call hn hdf fun w s₀ s₁ mg mb fa o pm cd doc a vs ns G Y ho hd hcd hmg hobj hints hlen hg => ?_
  have KX := hY w _ Y
  obtain ⟨fd, hb, hF⟩ := F w mg fa _ KX G.T.g hmg
  exact callG KX G.T.g G.T.b G.T.builtins G.T.nolimit hg hobj hints (Nat.le_trans hlen hn2) hr hF hb fun H hO hS => hsp _ H a ns hlen hO hS
/-! ### repr of data -/
section
variable {X : Cx}
/-- repr(x), x an object that holds data -/
def rRepr (K : PySem.W.Frag) : List V → Hp → VK → Prop := fun xs H Q => ∃ (a : Addr) (d : PyData), xs = [.ref a] ∧ Dp K H (.ref a) d ∧ d.showable = true ∧ d.hasDict = false ∧ d.depth ≤ 60 ∧ d.shown.length ≤ sizeLine ∧ Q (.str d.shown) H
theorem cr_repr {k : Nat} (hgd : Gd X.A) (hr : Room k X.A) : CallR X (.builtin "repr") (rRepr X.K) := by
  intro pins s σ H xs us Q I r h
  obtain ⟨a, d, rfl, hd, hs, hn, hdp, hz, q⟩ := h
  obtain ⟨u, rfl, ru⟩ := Vals.one r
  cases ru
  obtain ⟨as, rd⟩ := Dp.reads I d _ _ hd rfl
  have hu := hr.un
  refine repr_of_reads' rd hs (fun z => by rw [hn] at z; cases z) hgd (by omega) (fun _ _ e => e) (fun h' u tk hk => ?_) hz
  exact ⟨.str d.shown, H, I.kept hk, ⟨u, rfl⟩, q⟩
end
end Zg
set_option Elab.async false
set_option linter.all false
set_option maxRecDepth 100000
set_option maxHeartbeats 4000000
/-! Zr: some rules of values: xs.extend(a tuple), t * 1. -/
namespace Zr
open PySem PySem.Spec PyProof.Rows L2
theorem extend_tup (l : Addr) (items : Array Value) (n : Nat) (b : Addr) (items2 : Array Value) (n2 : Nat) (dd : Option Addr) (sl : Array (Option Value)) (hs0 : ¬(!items.isEmpty && Builtin.List.listTooLong (items.size + items2.size)) = true) (hs1 : items.size ≤ sizeLine) (hs2 : items.size + items2.size ≤ sizeLine + 1) :
    Meets (Builtin.«list.extend» ⟨[.ref l, .ref b], []⟩) (fun _ R s => s.heap.get? l = some { cls := .type "list", dict := none, data := .seq items n, slots := #[] } ∧ s.heap.get? b = some { cls := .type "tuple", dict := dd, data := .seq items2 n2, slots := sl } ∧
      R (.ok (.ret Value.none)) { s with heap := s.heap.update l (Obj.mapSeq fun x => x ++ items2), toks := s.toks }) :=
  .of_wp fun prog w A R s h => by
    obtain ⟨hp, g, d, tk, os⟩ := s
    obtain ⟨hl, hb, h⟩ := h
    have f1 := AutoSeq1.idx_int
    have f2 := AutoSeq1.sub_tuple_tuple
    have f3 := AutoSeq1.sub_list_list
    have f4 := AutoSeq1.sub_tuple_list
    have f5 := AutoSeq1.sub_list_tuple
    have hz' : (items ++ items2).size ≤ sizeLine + 1 := by rw [Array.size_append]; exact hs2
    wp_walk using (wpAny_updateSeq hl rfl (hz := hs1) (_hz' := hz')), wpAny_loadPart' hl, wpAny_loadPart' hb
    exact ⟨_, rfl, h⟩
theorem tuple_mul1 (l : Addr) (items : Array Value) (n : Nat) (dd : Option Addr) (sl : Array (Option Value)) (u : Tok) :
    Meets (Builtin.«tuple.__mul__» ⟨[.ref l, .int 1 u], []⟩) (fun _ R s => s.heap.get? l = some { cls := .type "tuple", dict := dd, data := .seq items n, slots := sl } ∧ R (.ok (.ret (Value.ref l))) s) :=
  .of_wp fun prog w A R s h => by
    obtain ⟨hp, g, d, tk, os⟩ := s
    obtain ⟨hl, h⟩ := h
    have f1 := AutoSeq1.idx_int
    have c0 : (decide ((1 : Int) < -(2 ^ 63)) || decide ((1 : Int) ≥ 2 ^ 63)) = false := by decide
    have c1 : (items.isEmpty || (1 : Int) == 1) = true := by simp
    wp_walk using wpAny_loadPart' hl
    repeat (first
      | (refine wpAny_ite_false (decide_eq_false (by rw [c0]; exact Bool.false_ne_true)) ?_; wp_walk using wpAny_loadPart' hl)
      | (refine wpAny_ite_true (decide_eq_true c1) ?_; wp_walk using wpAny_loadPart' hl))
    exact ⟨_, rfl, h⟩
section
variable {X : Cx}
def rExtT (K : PySem.W.Frag) : V → List V → Hp → VK → Prop := fun x vs H Q => ∃ l b xs zs, x = .ref l ∧ vs = [.ref b] ∧ H l = some (.lst xs) ∧ SqT K H b zs ∧ xs.length + zs.length ≤ sizeLine ∧ Q .non (upd H l (.lst (xs ++ zs)))
theorem mt_extT : MtM X "list.extend" (rExtT X.K) := by
  intro pins s σ H x vs v us Q I rx rv h
  obtain ⟨l, b, xs, zs, rfl, rfl, hH, hB, hz, q⟩ := h
  cases rx
  obtain ⟨u, rfl, ru⟩ := rv.one
  cases ru
  obtain ⟨z, its, n, r, hl, e⟩ := I.lstM hH
  obtain ⟨its2, r2, ⟨⟨cls, dd, data, sl⟩, ho, hc, n2, hd⟩, _⟩ := I.tuple hB
  simp only at hc hd
  subst hc hd
  have hl2 := r2.length
  have hsz : its.toArray.size + its2.toArray.size ≤ sizeLine := by rw [List.size_toArray, List.size_toArray]; omega
  have hlong : ¬ (!its.toArray.isEmpty && Builtin.List.listTooLong (its.toArray.size + its2.toArray.size)) = true := by
    rw [notLongL hsz, Bool.and_false]
    exact Bool.false_ne_true
  refine call_meets F.slot_list_extend ⟨_, e, rfl⟩ F.entry_list_extend (F.args_list_extend_2 _ _)
    (extend_tup l its.toArray n b its2.toArray n2 dd sl hlong (by rw [List.size_toArray]; omega) (by omega)) ⟨e, ho, ?_⟩
  refine ⟨.non, _, I.lset (its' := its ++ its2) hH e (by simp) (r.append r2) ?_, rfl, q⟩
  rw [List.length_append]
  omega
/-- t * k, k from 1 on -/
def rRep1 (K : PySem.W.Frag) : R2 := fun x y H Q => ∃ l k xs, x = .ref l ∧ y = .int k ∧ SqT K H l xs ∧ xs ≠ [] ∧ 1 ≤ k ∧ k ≤ 1000 ∧ xs.length ≤ 1000 ∧ (k = 1 → Q (.ref l) H) ∧ (k ≠ 1 → ∀ p, H p = none → Q (.ref p) (upd H p (.tup (List.replicate k.toNat xs).flatten)))
theorem op_rep1 : OpR X (binaryOp .Mult) (rRep1 X.K) := by
  intro pins s σ H x y v u Q I rx ry h
  obtain ⟨l, k, xs, rfl, rfl, hT, hne, h1, h2, hz, q1, q2⟩ := h
  by_cases hk : k = 1
  · subst hk
    cases rx
    obtain ⟨t, rfl⟩ := ry
    obtain ⟨its, r, ⟨⟨cls, dd, data, sl⟩, ho, hc, n, hd⟩, hs⟩ := I.tuple hT
    simp only at hc hd
    subst hc hd
    refine wpAny_binaryOp_repeat_ref (T := "tuple") (U := "int") (by decide) ⟨_, ho, rfl⟩ (fun s' => typeIs_int s' 1 t) noFill_tuple_mul F.fills_int_mul F.slot_int_rmul repeat_tuple F.slot_int_index.lookup
      (call_meets F.slot_int_rmul (typeIs_int s 1 t) F.entry_int_rmul (F.args_int_rmul_2 _ _) (int_rmul_tuple 1 t l its.toArray n dd sl)
        ⟨ho, rfl, ⟨_, ho, rfl⟩, call_meets F.slot_tuple_mul ⟨_, ho, rfl⟩ F.entry_tuple_mul (F.args_tuple_mul_2 _ _) (tuple_mul1 l its.toArray n dd sl t) ⟨ho, ?_⟩⟩)
    exact ⟨.ref l, H, I, rfl, q1 rfl⟩
  · exact op_repT pins s σ H _ _ v u Q I rx ry ⟨l, k, xs, rfl, rfl, hT, hne, by omega, h2, hz, q2 hk⟩
end
end Zr
set_option Elab.async false
set_option linter.all false
set_option maxRecDepth 100000
set_option maxHeartbeats 4000000
/-! Zd: data whose leaves are small: they can be shown, compared. -/
namespace Zd
open PySem PySem.Spec PyProof.Rows L2
mutual
def okd : PyData → Bool
  | .none | .bool _ => true
  | .int i => decide (i.natAbs < 10 ^ 40)
  | .str x => PyData.strOk x
  | .list xs | .tuple xs => okAll xs
  | .dict _ => false
def okAll : List PyData → Bool
  | [] => true
  | x :: xs => okd x && okAll xs
end
theorem okAll_iff : ∀ {l : List PyData}, okAll l = true ↔ ∀ d ∈ l, okd d = true
  | [] => by simp [okAll]
  | x :: l => by
    rw [okAll, Bool.and_eq_true, okAll_iff (l := l)]
    simp
theorem int_log {i : Int} (h : i.natAbs < 10 ^ 40) : i.natAbs.log2 < 1920 :=
  Nat.lt_of_lt_of_le (PySem.Flt.log2_lt_of (n := i.natAbs) (k := 133) (by decide) (Nat.lt_trans h (by decide))) (by decide)
mutual
theorem okd_short : ∀ d : PyData, okd d = true → d.leavesShort 44 = true
  | .none, _ => rfl
  | .bool _, _ => rfl
  | .int i, h => by
    have h' : i.natAbs < 10 ^ 40 := of_decide_eq_true h
    have q := int_text_length_le10 (k := 40) (by decide) h'
    show decide ((PyData.shown (.int i)).length ≤ 44) = true
    refine decide_eq_true ?_
    show (PySem.Str.ofString (toString i)).length ≤ 44
    rw [PySem.ofString_length]
    omega
  | .str x, h => by
    have h' : x.cps.all (· < 0x110000) = true := h
    show x.cps.toList.all (fun c => decide (c < 16 ^ 8)) = true
    rw [List.all_eq_true]
    intro c hc
    rw [Array.all_eq_true'] at h'
    have q := h' c (by simpa using hc)
    have q' : c < 0x110000 := by simpa using q
    exact decide_eq_true (Nat.lt_trans q' (by decide))
  | .list xs, h => okAll_short xs h
  | .tuple xs, h => okAll_short xs h
  | .dict _, h => by cases h
theorem okAll_short : ∀ l : List PyData, okAll l = true → PyData.leavesShortAll 44 l = true
  | [], _ => rfl
  | x :: l, h => by
    rw [okAll, Bool.and_eq_true] at h
    show (PyData.leavesShort 44 x && PyData.leavesShortAll 44 l) = true
    rw [okd_short x h.1, okAll_short l h.2]
    rfl
end
mutual
theorem okd_show : ∀ d : PyData, okd d = true → d.showable = true ∧ d.canLay0 = true ∧ d.hasDict = false
  | .none, _ => ⟨rfl, rfl, rfl⟩
  | .bool _, _ => ⟨rfl, rfl, rfl⟩
  | .int i, h => ⟨decide_eq_true (int_log (of_decide_eq_true h)), rfl, rfl⟩
  | .str x, h => ⟨rfl, h, rfl⟩
  | .list xs, h => okAll_show xs h
  | .tuple xs, h => okAll_show xs h
  | .dict _, h => by cases h
theorem okAll_show : ∀ l : List PyData, okAll l = true → PyData.showableAll l = true ∧ PyData.canLayAll0 l = true ∧ PyData.hasDictAll l = false
  | [], _ => ⟨rfl, rfl, rfl⟩
  | x :: l, h => by
    rw [okAll, Bool.and_eq_true] at h
    obtain ⟨a1, a2, a3⟩ := okd_show x h.1
    obtain ⟨b1, b2, b3⟩ := okAll_show l h.2
    refine ⟨?_, ?_, ?_⟩
    · show (PyData.showable x && PyData.showableAll l) = true
      rw [a1, b1]; rfl
    · show (PyData.canLay0 x && PyData.canLayAll0 l) = true
      rw [a2, b2]; rfl
    · show (PyData.hasDict x || PyData.hasDictAll l) = false
      rw [a3, b3]; rfl
end
theorem okd_fits {d : PyData} (h : okd d = true) (hb : d.bulk ≤ 300000) : d.shown.length ≤ sizeLine := by
  have q := PyData.shown_le_bulk 44 (by decide) d (okd_short d h)
  rw [sizeLine_eq]
  omega
theorem shaped_of {d : PyData} (h : okd d = true) (hd : d.depth ≤ 60) : SeqAt.shaped d = true := by
  show (d.canLay0 && decide (d.depth ≤ 64)) = true
  rw [(okd_show d h).2.1, decide_eq_true (by omega)]
  rfl
/-- repr(x), x an object that holds small data -/
theorem repr_of {K : PySem.W.Frag} {a : Addr} {d : PyData} {H : Hp} {Q : VK} (hd : Dp K H (.ref a) d) (h : okd d = true) (hp : d.depth ≤ 60) (hb : d.bulk ≤ 300000) (q : Q (.str d.shown) H) : Zg.rRepr K [.ref a] H Q :=
  ⟨a, d, rfl, hd, (okd_show d h).1, (okd_show d h).2.2, hp, okd_fits h hb, q⟩
theorem dpAll_of {K : PySem.W.Frag} {H : Hp} {α : Type} (f : α → V) (g : α → PyData) : ∀ {l : List α}, (∀ x ∈ l, Dp K H (f x) (g x)) → DpAll K H (l.map f) (l.map g)
  | [], _ => .nil
  | x :: l, h => .cons (h x List.mem_cons_self) (dpAll_of f g fun y hy => h y (List.mem_cons_of_mem _ hy))
theorem dp_ints {K : PySem.W.Frag} {H : Hp} (ns : List Int) : DpAll K H (ns.map V.int) (ns.map PyData.int) := dpAll_of V.int PyData.int fun x _ => .int x
mutual
theorem dp_mono {K : PySem.W.Frag} {H H' : Hp} (k : ∀ a o, H a = some o → H' a = some o) : ∀ (d : PyData) (v : V), Dp K H v d → Dp K H' v d
  | _, _, .non => .non
  | _, _, .bl b => .bl b
  | _, _, .int i => .int i
  | _, _, .str x => .str x
  | _, _, .lst (xs := xs) (ds := ds) hs ha => .lst (by
      rcases hs with (h | ⟨o, h⟩) | h
      · exact .inl (.inl (k _ _ h))
      · exact .inl (.inr ⟨o, k _ _ h⟩)
      · exact .inr h) (dpAll_mono k ds xs ha)
  | _, _, .tup (xs := xs) (ds := ds) hs ha => .tup (by
      rcases hs with (h | ⟨o, h⟩) | h
      · exact .inl (.inl (k _ _ h))
      · exact .inl (.inr ⟨o, k _ _ h⟩)
      · exact .inr h) (dpAll_mono k ds xs ha)
theorem dpAll_mono {K : PySem.W.Frag} {H H' : Hp} (k : ∀ a o, H a = some o → H' a = some o) : ∀ (ds : List PyData) (vs : List V), DpAll K H vs ds → DpAll K H' vs ds
  | _, _, .nil => .nil
  | _, _, .cons h t => .cons (dp_mono k _ _ h) (dpAll_mono k _ _ t)
end
theorem depth_ints : ∀ ns : List Int, PyData.depthAll (ns.map PyData.int) = 0
  | [] => rfl
  | n :: r => by
    show max 0 (PyData.depthAll (r.map PyData.int)) = 0
    rw [depth_ints r]
    rfl
theorem lay_ints : ∀ ns : List Int, PyData.canLayAll0 (ns.map PyData.int) = true
  | [] => rfl
  | n :: r => lay_ints r
theorem shaped_ints (ns : List Int) : SeqAt.shaped (.list (ns.map PyData.int)) = true := by
  show (PyData.canLayAll0 (ns.map PyData.int) && decide (PyData.depthAll (ns.map PyData.int) + 1 ≤ 64)) = true
  rw [lay_ints, depth_ints]
  rfl
theorem eqv_empty (ns : List Int) : PyData.eqv (.list (ns.map PyData.int)) (.list []) = ns.isEmpty := by
  cases ns <;> rfl
end Zd
set_option Elab.async false
set_option linter.all false
set_option maxRecDepth 100000
set_option maxHeartbeats 4000000
/-! Zv: values of any kind: none, bools, ints, texts, lists, tuples, empty dicts, none of whose objects is one of S. -/
namespace Zv
open PySem PySem.Spec PyProof.Rows L2 Zg Zd
/-! ### the heap but for some -/
/-- all that was tracked but at the addresses of S is as it was -/
def Kp (S : List Addr) (H H' : Hp) : Prop := ∀ a o, a ∉ S → H a = some o → H' a = some o
theorem Kp.refl (S : List Addr) (H : Hp) : Kp S H H := fun _ _ _ e => e
theorem Kp.trans {S : List Addr} {H H1 H2 : Hp} (a : Kp S H H1) (b : Kp S H1 H2) : Kp S H H2 := fun x o n e => b x o n (a x o n e)
theorem Kp.new {S : List Addr} {H : Hp} {p : Addr} {o : HO} (h : H p = none) : Kp S H (upd H p o) := fun a u _ e => by
  rw [upd_ne (ne_of_none e h)]
  exact e
theorem Kp.wr {S : List Addr} {H H' : Hp} {p : Addr} {o : HO} (k : Kp S H H') (h : p ∈ S ∨ H p = none) : Kp S H (upd H' p o) := fun a u n e => by
  have q : a ≠ p := fun z => by
    subst z
    rcases h with h | h
    · exact n h
    · rw [h] at e
      cases e
  rw [upd_ne q]
  exact k a u n e
theorem Kp.of {S : List Addr} {H H' : Hp} (k : Same H H') : Kp S H H' := fun a o _ e => k a o e
theorem Kp.sub {S S' : List Addr} {H H' : Hp} (h : Kp S H H') (e : ∀ a ∈ S, a ∈ S') : Kp S' H H' := fun a o n => h a o fun m => n (e a m)
theorem Kp.free {S : List Addr} {H H' : Hp} (k : Kp S H H') {p : Addr} (n : p ∉ S) (h : H' p = none) : H p = none := by
  cases q : H p with
  | none => rfl
  | some o =>
    rw [k p o n q] at h
    cases h
theorem Kp.seq {K : PySem.W.Frag} {S : List Addr} {H H' : Hp} {a : Addr} {xs : List V} (k : Kp S H H') (n : a ∉ S) (h : SqL K H a xs) : SqL K H' a xs := by
  rcases h with (h | ⟨o, h⟩) | h
  · exact .inl (.inl (k _ _ n h))
  · exact .inl (.inr ⟨o, k _ _ n h⟩)
  · exact .inr h
theorem same_new {H : Hp} {p : Addr} {o : HO} (hp : H p = none) : Same H (upd H p o) := fun b u e => by rw [upd_ne (ne_of_none e hp)]; exact e
/-! ### the values -/
mutual
inductive Dv (S : List Addr) (H : Hp) : V → PyData → Prop
  | non : Dv S H .non .none
  | bl (b : Bool) : Dv S H (.bl b) (.bool b)
  | int (i : Int) : Dv S H (.int i) (.int i)
  | str (x : Str) : Dv S H (.str x) (.str x)
  | lst {a : Addr} {xs : List V} {ds : List PyData} : H a = some (.lst xs) → a ∉ S → DvAll S H xs ds → Dv S H (.ref a) (.list ds)
  | tup {a : Addr} {xs : List V} {ds : List PyData} : H a = some (.tup xs) → a ∉ S → DvAll S H xs ds → Dv S H (.ref a) (.tuple ds)
  | dic {a : Addr} : H a = some (.dK []) → a ∉ S → Dv S H (.ref a) (.dict [])
inductive DvAll (S : List Addr) (H : Hp) : List V → List PyData → Prop
  | nil : DvAll S H [] []
  | cons {v : V} {vs : List V} {d : PyData} {ds : List PyData} : Dv S H v d → DvAll S H vs ds → DvAll S H (v :: vs) (d :: ds)
end
mutual
theorem Dv.kp {S : List Addr} {H H' : Hp} (k : Kp S H H') : ∀ {v : V} {d : PyData}, Dv S H v d → Dv S H' v d
  | _, _, .non => .non
  | _, _, .bl b => .bl b
  | _, _, .int i => .int i
  | _, _, .str x => .str x
  | _, _, .lst h n t => .lst (k _ _ n h) n (DvAll.kp k t)
  | _, _, .tup h n t => .tup (k _ _ n h) n (DvAll.kp k t)
  | _, _, .dic h n => .dic (k _ _ n h) n
theorem DvAll.kp {S : List Addr} {H H' : Hp} (k : Kp S H H') : ∀ {vs : List V} {ds : List PyData}, DvAll S H vs ds → DvAll S H' vs ds
  | _, _, .nil => .nil
  | _, _, .cons h t => .cons (Dv.kp k h) (DvAll.kp k t)
end
mutual
theorem Dv.sub {S S' : List Addr} {H : Hp} (e : ∀ a ∈ S', a ∈ S) : ∀ {v : V} {d : PyData}, Dv S H v d → Dv S' H v d
  | _, _, .non => .non
  | _, _, .bl b => .bl b
  | _, _, .int i => .int i
  | _, _, .str x => .str x
  | _, _, .lst h n t => .lst h (fun m => n (e _ m)) (DvAll.sub e t)
  | _, _, .tup h n t => .tup h (fun m => n (e _ m)) (DvAll.sub e t)
  | _, _, .dic h n => .dic h (fun m => n (e _ m))
theorem DvAll.sub {S S' : List Addr} {H : Hp} (e : ∀ a ∈ S', a ∈ S) : ∀ {vs : List V} {ds : List PyData}, DvAll S H vs ds → DvAll S' H vs ds
  | _, _, .nil => .nil
  | _, _, .cons h t => .cons (Dv.sub e h) (DvAll.sub e t)
end
theorem DvAll.append {S : List Addr} {H : Hp} : ∀ {vs ws : List V} {ds es : List PyData}, DvAll S H vs ds → DvAll S H ws es → DvAll S H (vs ++ ws) (ds ++ es)
  | _, _, _, _, .nil, h => h
  | _, _, _, _, .cons a t, h => .cons a (DvAll.append t h)
theorem DvAll.length {S : List Addr} {H : Hp} : ∀ {vs : List V} {ds : List PyData}, DvAll S H vs ds → vs.length = ds.length
  | _, _, .nil => rfl
  | _, _, .cons _ t => by rw [List.length_cons, List.length_cons, DvAll.length t]
theorem DvAll.drop {S : List Addr} {H : Hp} : ∀ (n : Nat) {vs : List V} {ds : List PyData}, DvAll S H vs ds → DvAll S H (vs.drop n) (ds.drop n)
  | 0, _, _, h => h
  | n + 1, _, _, .nil => .nil
  | n + 1, _, _, .cons _ t => DvAll.drop n t
theorem DvAll.take {S : List Addr} {H : Hp} : ∀ (n : Nat) {vs : List V} {ds : List PyData}, DvAll S H vs ds → DvAll S H (vs.take n) (ds.take n)
  | 0, _, _, _ => .nil
  | n + 1, _, _, .nil => .nil
  | n + 1, _, _, .cons h t => .cons h (DvAll.take n t)
theorem DvAll.get {S : List Addr} {H : Hp} : ∀ {vs : List V} {ds : List PyData}, DvAll S H vs ds → ∀ {i : Nat} {v : V}, vs[i]? = some v → ∃ d, ds[i]? = some d ∧ Dv S H v d
  | _, _, .nil, i, v, e => by cases e
  | _, _, .cons (d := d) h t, 0, v, e => ⟨d, rfl, by cases e; exact h⟩
  | _, _, .cons h t, i + 1, v, e => DvAll.get t (i := i) e
section
variable {X : Cx} {pins : List (Addr × Obj)} {σ : L2.St} {H : Hp} {s : Shared} {S : List Addr}
/-- the object of an empty dict -/
theorem dic_at (I : Inv X pins σ H s) {a : Addr} (h : H a = some (.dK [])) : (a == sysModules) = false ∧ ∃ o n, s.heap.get? a = some o ∧ o.cls = .type "dict" ∧ o.data = .dict #[] n := by
  obtain ⟨_, hd, vs, kv, o, es, ep, h1, h2, h3, h4, h5, h6⟩ := dk_rd I.hok (.inl h)
  refine ⟨hd, o, ep, h1, h2.1, ?_⟩
  cases kv
  have e : es.toList = [] := by
    cases h5' : es.toList with
    | nil => rfl
    | cons x l => rw [h5'] at h5; cases h5
  have e2 : es = #[] := by
    obtain ⟨l⟩ := es
    simp only at e
    rw [e]
  rw [h3, e2]
mutual
theorem Dv.reads (I : Inv X pins σ H s) : ∀ {v : V} {d : PyData} (u : Value), Dv S H v d → RelV v u → ∃ as, Reads s.heap u d as
  | _, _, _, .non, r => by cases r; exact ⟨_, Reads.none⟩
  | _, _, _, .bl b, r => by cases r; exact ⟨_, Reads.bool b⟩
  | _, _, _, .int i, r => by obtain ⟨t, rfl⟩ := r; exact ⟨_, Reads.int i t⟩
  | _, _, _, .str x, r => by obtain ⟨t, rfl⟩ := r; exact ⟨_, Reads.str x t⟩
  | _, _, _, .lst h n t, r => by
    cases r
    obtain ⟨z, its, m, rv, _, e⟩ := I.lstM h
    obtain ⟨as, q⟩ := DvAll.reads I its t rv
    exact ⟨_, Reads.list e rfl rfl q⟩
  | _, _, _, .tup h n t, r => by
    cases r
    obtain ⟨its, rv, ⟨o, ho, hc, m, hd⟩, _⟩ := I.tuple (X := X) (SqT.of h)
    obtain ⟨as, q⟩ := DvAll.reads I its t rv
    exact ⟨_, Reads.tuple ho hc hd q⟩
  | _, _, _, .dic h n, r => by
    cases r
    obtain ⟨_, o, m, h1, h2, h3⟩ := dic_at I h
    exact ⟨_, Reads.dict h1 h2 h3 .nil .nil⟩
theorem DvAll.reads (I : Inv X pins σ H s) : ∀ {vs : List V} {ds : List PyData} (us : List Value), DvAll S H vs ds → Vals vs us → ∃ as, ReadsAll s.heap us ds as
  | _, _, _, .nil, r => by cases r; exact ⟨_, ReadsAll.nil⟩
  | _, _, _, .cons h t, r => by
    cases r with
    | cons r1 r2 =>
      obtain ⟨as, q1⟩ := Dv.reads I _ h r1
      obtain ⟨bs, q2⟩ := DvAll.reads I _ t r2
      exact ⟨_, ReadsAll.cons q1 q2⟩
end
end
/-! ### repr -/
section
variable {X : Cx} {pins : List (Addr × Obj)} {σ : L2.St} {H : Hp} {s : Shared} {S : List Addr}
mutual
/-- how such a value shows within another -/
theorem Dv.under (I : Inv X pins σ H s) : ∀ {v : V} {d : PyData} (u : Value), Dv S H v d → RelV v u → d.showable = true → d.shown.length ≤ sizeLine → ∃ bs, ReadAtMost s.heap d.depth bs ∧ ReprK X.prog X.w bs s.heap d.depth u d.shown
  | _, _, _, .non, r, _, _ => by
    cases r
    exact ⟨[], fun _ h => (nomatch h), ReprK.of_is ReprIs.none _ _ _⟩
  | _, _, _, .bl b, r, _, _ => by
    cases r
    exact ⟨[], fun _ h => (nomatch h), ReprK.of_is (ReprIs.bool b) _ _ _⟩
  | _, _, _, .int i, r, hs, _ => by
    obtain ⟨t, rfl⟩ := r
    exact ⟨[], fun _ h => (nomatch h), ReprK.of_is (ReprIs.int t (of_decide_eq_true hs)) _ _ _⟩
  | _, _, _, .str x, r, _, hz => by
    obtain ⟨t, rfl⟩ := r
    exact ⟨[], fun _ h => (nomatch h), ReprK.of_is (ReprIs.str x t hz) _ _ _⟩
  | _, _, _, .lst (a := a) (xs := xs) (ds := ds) h n t, r, hs, hz => by
    obtain ⟨as, hr⟩ := Dv.reads I _ (Dv.lst h n t) r
    cases r
    obtain ⟨_, its, m, rv, _, e⟩ := I.lstM h
    have hz' : (listText (PyData.shownAll ds)).length ≤ sizeLine := hz
    obtain ⟨bs, hb, hk⟩ := DvAll.under I its t rv hs fun x hx => Nat.le_trans (listText_mem_le hx) hz'
    have na : a ∉ bs := not_mem_of_deeper hr (Nat.lt_succ_self _) hb
    refine ⟨a :: bs, ReadAtMost.cons hr (Nat.le_succ _) hb, ?_⟩
    cases its with
    | nil =>
      cases rv
      cases t
      show ReprK X.prog X.w _ s.heap 1 (.ref a) (listText [])
      rw [listText_nil]
      exact ReprK.listEmpty e rfl rfl
    | cons y l => exact ReprK.list e rfl rfl na (by simpa using hk.length_eq) fun i z q => hk.item i z (by simpa using q)
  | _, _, _, .tup (a := a) (xs := xs) (ds := ds) h n t, r, hs, hz => by
    obtain ⟨as, hr⟩ := Dv.reads I _ (Dv.tup h n t) r
    cases r
    obtain ⟨its, rv, ⟨o, ho, hc, m, hd⟩, _⟩ := I.tuple (X := X) (SqT.of h)
    have hz' : (tupleText (PyData.shownAll ds)).length ≤ sizeLine := hz
    obtain ⟨bs, hb, hk⟩ := DvAll.under I its t rv hs fun x hx => Nat.le_trans (tupleText_mem_le hx) hz'
    have na : a ∉ bs := not_mem_of_deeper hr (Nat.lt_succ_self _) hb
    exact ⟨a :: bs, ReadAtMost.cons hr (Nat.le_succ _) hb, ReprK.tuple ho hc hd na (by simpa using hk)⟩
  | _, _, _, .dic (a := a) h n, r, hs, hz => by
    obtain ⟨as, hr⟩ := Dv.reads I _ (Dv.dic (S := S) h n) r
    cases r
    obtain ⟨lo, o, m, h1, h2, h3⟩ := dic_at I h
    refine ⟨[a], fun b hb => ?_, ReprK.dict (ps := []) h1 h2 h3 lo (fun z => nomatch z) .nil⟩
    rw [List.mem_singleton] at hb
    subst hb
    exact ⟨_, _, hr, Nat.le_refl _⟩
theorem DvAll.under (I : Inv X pins σ H s) : ∀ {vs : List V} {ds : List PyData} (us : List Value), DvAll S H vs ds → Vals vs us → PyData.showableAll ds = true → (∀ t ∈ PyData.shownAll ds, t.length ≤ sizeLine) →
    ∃ bs, ReadAtMost s.heap (PyData.depthAll ds) bs ∧ ReprAllK X.prog X.w bs s.heap (PyData.depthAll ds) us (PyData.shownAll ds)
  | _, _, _, .nil, r, _, _ => by
    cases r
    exact ⟨[], fun _ h => (nomatch h), .nil⟩
  | _, _, _, .cons (d := d) (ds := ds) h t, r, hs, hz => by
    cases r with
    | cons r1 r2 =>
      have hs' : (d.showable && PyData.showableAll ds) = true := hs
      rw [Bool.and_eq_true] at hs'
      obtain ⟨b1, q1, k1⟩ := Dv.under I _ h r1 hs'.1 (hz _ List.mem_cons_self)
      obtain ⟨b2, q2, k2⟩ := DvAll.under I _ t r2 hs'.2 fun x hx => hz x (List.mem_cons_of_mem _ hx)
      exact ⟨b1 ++ b2, (q1.mono (Nat.le_max_left _ _)).append (q2.mono (Nat.le_max_right _ _)),
        .cons ((k1.more fun b hb => List.mem_append_left _ hb).level_le (Nat.le_max_left _ _)) (k2.more_le (fun b hb => List.mem_append_right _ hb) (Nat.le_max_right _ _))⟩
end
end
section
variable {X : Cx}
/-- repr(x), x any such value -/
def rReprV (S : List Addr) : List V → Hp → VK → Prop := fun xs H Q => ∃ (v : V) (d : PyData), xs = [v] ∧ Dv S H v d ∧ d.showable = true ∧ d.depth ≤ 60 ∧ d.shown.length ≤ sizeLine ∧ Q (.str d.shown) H
theorem cr_reprV {S : List Addr} {k : Nat} (hgd : Gd X.A) (hr : Room k X.A) : CallR X (.builtin "repr") (rReprV S) := by
  intro pins s σ H xs us Q I r h
  obtain ⟨v, d, rfl, hd, hs, hdp, hz, q⟩ := h
  obtain ⟨u, rfl, ru⟩ := Vals.one r
  have hu := hr.un
  have hg1 : X.A.in1.guards = some [] := hgd
  have fin : ∀ (h' : Heap) (u : Tok) (tk : Nat), (∀ b o, s.heap.get? b = some o → h'.get? b = some o) → EP X pins σ Q (.str d.shown u) { s with heap := h', toks := tk } := fun h' u tk hk => ⟨.str d.shown, H, I.kept hk, ⟨u, rfl⟩, q⟩
  cases hd with
  | non => cases ru; exact PySem.P.repr_of_none ⟨.str _, H, I.tok _, ⟨_, rfl⟩, q⟩
  | bl b => cases ru; exact PySem.P.repr_of_bool ⟨.str _, H, I.tok _, ⟨_, rfl⟩, q⟩
  | int i => obtain ⟨t, rfl⟩ := ru; exact PySem.P.repr_of_int (of_decide_eq_true hs) ⟨.str _, H, I.tok _, ⟨_, rfl⟩, q⟩
  | str x => obtain ⟨t, rfl⟩ := ru; exact PySem.P.repr_of_str ⟨.str _, H, I.tok _, ⟨_, rfl⟩, q⟩ hz
  | @lst a xs ds h n t =>
    obtain ⟨as, hr⟩ := Dv.reads I _ (Dv.lst h n t) ru
    cases ru
    obtain ⟨_, its, m, rv, _, e⟩ := I.lstM h
    have hz' : (listText (PyData.shownAll ds)).length ≤ sizeLine := hz
    obtain ⟨bs, hb, hk⟩ := DvAll.under I its t rv hs fun x hx => Nat.le_trans (listText_mem_le hx) hz'
    have na : a ∉ bs := not_mem_of_deeper hr (Nat.lt_succ_self _) hb
    have hdp' : PyData.depthAll ds + 1 ≤ 60 := hdp
    refine call_repr_slot (by omega) (T := "list") ⟨_, e, rfl⟩ F.slot_list_repr.toG ?_
    cases its with
    | nil =>
      cases rv
      cases t
      refine call_list_repr_empty ⟨_, e, rfl⟩ e rfl ?_
      have q2 := fin s.heap s.toks (s.toks + 1) fun _ _ e => e
      have e2 : PyData.shown (.list []) = "[]" := listText_nil
      rw [e2] at q2
      exact ⟨_, _, rfl, q2⟩
    | cons y l =>
      exact call_list_reprK (h₀ := s.heap) e rfl rfl na (by simpa using hk.length_eq) (fun i z q => hk.item i z (by simpa using q)) hg1 (fun b _ => Clear.nil b) (by show X.A.units + 1 + (PyData.depthAll ds + 1) < cLine; omega) (fun _ _ e => e) (fun h' u tk hk' => ⟨_, _, rfl, fin h' u tk hk'⟩) hz'
  | @tup a xs ds h n t =>
    obtain ⟨as, hr⟩ := Dv.reads I _ (Dv.tup h n t) ru
    cases ru
    obtain ⟨its, rv, ⟨o, ho, hc, m, hdt⟩, _⟩ := I.tuple (X := X) (SqT.of h)
    have hz' : (tupleText (PyData.shownAll ds)).length ≤ sizeLine := hz
    obtain ⟨bs, hb, hk⟩ := DvAll.under I its t rv hs fun x hx => Nat.le_trans (tupleText_mem_le hx) hz'
    have na : a ∉ bs := not_mem_of_deeper hr (Nat.lt_succ_self _) hb
    have hdp' : PyData.depthAll ds + 1 ≤ 60 := hdp
    refine call_repr_slot (by omega) (T := "tuple") ⟨_, ho, hc⟩ F.slot_tuple_repr ?_
    exact call_tuple_reprK (h₀ := s.heap) ho hc hdt na (by simpa using hk) hg1 (fun b _ => Clear.nil b) (by show X.A.units + 1 + (PyData.depthAll ds + 1) < cLine; omega) (fun _ _ e => e) (fun h' u tk hk' => ⟨_, _, rfl, fin h' u tk hk'⟩) hz'
  | @dic a h n =>
    cases ru
    obtain ⟨lo, o, m, h1, h2, h3⟩ := dic_at I h
    refine call_repr_slot (by omega) (T := "dict") ⟨_, h1, h2⟩ F.slot_dict_repr ?_
    exact call_dict_reprK (as := []) (h₀ := s.heap) (d := 0) (ps := []) h1 h2 h3 lo (fun z => nomatch z) .nil hg1 (fun b _ => Clear.nil b) (by show X.A.units + 1 + (0 + 1) < cLine; omega) (fun _ _ e => e) (fun h' u tk hk' => ⟨_, _, rfl, fin h' u tk hk'⟩) hz
end
/-! ### isinstance -/
def tyD : PyData → String
  | .none => "NoneType"
  | .bool _ => "bool"
  | .int _ => "int"
  | .str _ => "str"
  | .list _ => "list"
  | .tuple _ => "tuple"
  | .dict _ => "dict"
def CLS : List String := ["tuple", "list", "str", "int", "bool", "dict"]
def TYS : List String := ["NoneType", "bool", "int", "str", "list", "tuple", "dict"]
def isB (T t : String) : Bool := t == T || (T == "int" && t == "bool")
theorem kit_all (K : PySem.W.Frag) : ∀ T ∈ CLS, ∀ t ∈ TYS, PySem.W.kitOne K (.type t) (.type T) = some (isB T t) := by
  intro T hT t ht
  simp only [CLS, TYS, List.mem_cons, List.not_mem_nil, or_false] at hT ht
  rcases hT with rfl | rfl | rfl | rfl | rfl | rfl <;> rcases ht with rfl | rfl | rfl | rfl | rfl | rfl | rfl <;> rfl
/-- of which built-in class -/
def isA (T : String) (d : PyData) : Bool := isB T (tyD d)
theorem tyD_mem (d : PyData) : tyD d ∈ TYS := by
  cases d <;> simp [tyD, TYS]
section
variable {K : PySem.W.Frag} {S : List Addr} {H : Hp}
theorem Dv.ty {v : V} {d : PyData} (h : Dv S H v d) : TyX K H v (.type (tyD d)) := by
  cases h with
  | non => exact .base .non
  | bl b => exact .base (.bl b)
  | int i => exact .base (.int i)
  | str x => exact .base (.str x)
  | lst h _ _ => exact .base (.lst h)
  | tup h _ _ => exact .base (.tup h)
  | dic h _ => exact .base (.dK h)
/-- isinstance(x, T) -/
theorem Dv.isi {v : V} {d : PyData} {T : String} {Q : VK} (h : Dv S H v d) (hT : T ∈ CLS) (q : Q (.bl (isA T d)) H) : rIsi K [v, .ty T] H Q :=
  ⟨v, .ty T, .type (tyD d), .type T, isA T d, rfl, .ty T, h.ty, kit_all K T hT _ (tyD_mem d), q⟩
theorem Dv.tuple {v : V} {d : PyData} (h : Dv S H v d) (hi : isA "tuple" d = true) : ∃ a xs ds, v = .ref a ∧ d = .tuple ds ∧ H a = some (.tup xs) ∧ a ∉ S ∧ DvAll S H xs ds := by
  cases h with
  | tup h n t => exact ⟨_, _, _, rfl, rfl, h, n, t⟩
  | non => cases hi
  | bl b => cases hi
  | int i => cases hi
  | str x => cases hi
  | lst h n t => cases hi
  | dic h n => cases hi
theorem Dv.text {v : V} {d : PyData} (h : Dv S H v d) (hi : isA "str" d = true) : ∃ x, v = .str x ∧ d = .str x := by
  cases h with
  | str x => exact ⟨x, rfl, rfl⟩
  | non => cases hi
  | bl b => cases hi
  | int i => cases hi
  | lst h n t => cases hi
  | tup h n t => cases hi
  | dic h n => cases hi
theorem Dv.number {v : V} {d : PyData} (h : Dv S H v d) (hi : isA "int" d = true) (hb : isA "bool" d = false) : ∃ x, v = .int x ∧ d = .int x := by
  cases h with
  | int x => exact ⟨x, rfl, rfl⟩
  | bl b => cases hb
  | non => cases hi
  | str x => cases hi
  | lst h n t => cases hi
  | tup h n t => cases hi
  | dic h n => cases hi
end
/-! ### == of a list or a tuple and an empty one -/
section
variable {X : Cx}
def rEqE (K : PySem.W.Frag) (neg : Bool) : R2 := fun x y H Q => ∃ a b xs, x = .ref a ∧ y = .ref b ∧ ((SqL K H a xs ∧ SqL K H b []) ∨ (SqT K H a xs ∧ SqT K H b [])) ∧ Q (.bl (if neg then !xs.isEmpty else xs.isEmpty)) H
theorem op_eqE (hu : X.A.units < cLine) : OpR X (compareOp .Eq) (rEqE X.K false) := by
  intro pins s σ H x y v u Q I rx ry h
  obtain ⟨a, b, xs, rfl, rfl, hab, q⟩ := h
  cases rx
  cases ry
  have q' : Q (.bl xs.isEmpty) H := q
  rcases hab with ⟨ha, hb⟩ | ⟨ha, hb⟩
  · obtain ⟨its, r1, p1, _⟩ := I.list ha
    obtain ⟨its2, r2, p2, _⟩ := I.list hb
    cases r2
    cases r1 with
    | nil => exact SeqAt.eq_listAt (e := fun _ => true) p1.isList p2.isList rfl hu (fun j h1 => absurd h1 (Nat.not_lt_zero _)) ⟨.bl true, H, I, rfl, q'⟩
    | cons a1 a2 => exact SeqAt.eq_list_lengthsAt p1.isList p2.isList rfl hu ⟨.bl false, H, I, rfl, q'⟩
  · obtain ⟨its, r1, p1, _⟩ := I.tuple ha
    obtain ⟨its2, r2, p2, _⟩ := I.tuple hb
    cases r2
    cases r1 with
    | nil => exact SeqAt.eq_tupleAt (e := fun _ => true) p1 p2 hu (fun j h1 => absurd h1 (Nat.not_lt_zero _)) ⟨.bl true, H, I, rfl, q'⟩
    | cons a1 a2 =>
      refine SeqAt.eq_tupleAt (e := fun _ => true) p1 p2 hu (fun j _ h2 => absurd h2 (Nat.not_lt_zero _)) ?_
      exact ⟨.bl false, H, I, by simp [L2.RelV], q'⟩
theorem op_neE (hu : X.A.units < cLine) : OpR X (compareOp .NotEq) (rEqE X.K true) := by
  intro pins s σ H x y v u Q I rx ry h
  obtain ⟨a, b, xs, rfl, rfl, hab, q⟩ := h
  cases rx
  cases ry
  have q' : Q (.bl (!xs.isEmpty)) H := q
  rcases hab with ⟨ha, hb⟩ | ⟨ha, hb⟩
  · obtain ⟨its, r1, p1, _⟩ := I.list ha
    obtain ⟨its2, r2, p2, _⟩ := I.list hb
    cases r2
    cases r1 with
    | nil => exact SeqAt.RcNeAt.lists (e := fun _ => true) p1.isList p2.isList rfl hu (fun j h1 => absurd h1 (Nat.not_lt_zero _)) _ _ _ _ ⟨.bl false, H, I, rfl, q'⟩
    | cons a1 a2 => exact SeqAt.RcNeAt.lists_lengths p1.isList p2.isList rfl hu _ _ _ _ ⟨.bl true, H, I, rfl, q'⟩
  · obtain ⟨its, r1, p1, _⟩ := I.tuple ha
    obtain ⟨its2, r2, p2, _⟩ := I.tuple hb
    cases r2
    cases r1 with
    | nil => exact SeqAt.RcNeAt.tuples (e := fun _ => true) p1 p2 hu (fun j h1 => absurd h1 (Nat.not_lt_zero _)) _ _ _ _ ⟨.bl false, H, I, rfl, q'⟩
    | cons a1 a2 =>
      refine SeqAt.RcNeAt.tuples (e := fun _ => true) p1 p2 hu (fun j _ h2 => absurd h2 (Nat.not_lt_zero _)) _ _ _ _ ?_
      exact ⟨.bl true, H, I, by simp [L2.RelV], q'⟩
end
/-! ### small values -/
mutual
/-- short texts, small numbers, no dict but empty ones -/
def okv : PyData → Bool
  | .none | .bool _ => true
  | .int i => decide (i.natAbs < 10 ^ 40)
  | .str x => PyData.strOk x && decide (x.length ≤ 1000)
  | .list xs | .tuple xs => decide (xs.length ≤ 1000) && okvAll xs
  | .dict kvs => kvs.isEmpty
def okvAll : List PyData → Bool
  | [] => true
  | x :: xs => okv x && okvAll xs
end
theorem okvAll_iff : ∀ {l : List PyData}, okvAll l = true ↔ ∀ d ∈ l, okv d = true
  | [] => by simp [okvAll]
  | x :: l => by
    rw [okvAll, Bool.and_eq_true, okvAll_iff (l := l)]
    simp
mutual
theorem okv_short : ∀ d : PyData, okv d = true → d.leavesShort 44 = true ∧ d.showable = true
  | .none, _ => ⟨rfl, rfl⟩
  | .bool _, _ => ⟨rfl, rfl⟩
  | .int i, h => by
    have h' : i.natAbs < 10 ^ 40 := of_decide_eq_true h
    have q := int_text_length_le10 (k := 40) (by decide) h'
    refine ⟨?_, decide_eq_true (int_log h')⟩
    show decide ((PyData.shown (.int i)).length ≤ 44) = true
    refine decide_eq_true ?_
    show (PySem.Str.ofString (toString i)).length ≤ 44
    rw [PySem.ofString_length]
    omega
  | .str x, h => by
    have h' : (PyData.strOk x && decide (x.length ≤ 1000)) = true := h
    rw [Bool.and_eq_true] at h'
    have h2 : x.cps.all (· < 0x110000) = true := h'.1
    refine ⟨?_, rfl⟩
    show x.cps.toList.all (fun c => decide (c < 16 ^ 8)) = true
    rw [List.all_eq_true]
    intro c hc
    rw [Array.all_eq_true'] at h2
    have q := h2 c (by simpa using hc)
    have q' : c < 0x110000 := by simpa using q
    exact decide_eq_true (Nat.lt_trans q' (by decide))
  | .list xs, h => okvAll_short xs (Bool.and_eq_true_iff.mp h).2
  | .tuple xs, h => okvAll_short xs (Bool.and_eq_true_iff.mp h).2
  | .dict kvs, h => by
    cases kvs with
    | nil => exact ⟨rfl, rfl⟩
    | cons a l => cases h
theorem okvAll_short : ∀ l : List PyData, okvAll l = true → PyData.leavesShortAll 44 l = true ∧ PyData.showableAll l = true
  | [], _ => ⟨rfl, rfl⟩
  | x :: l, h => by
    rw [okvAll, Bool.and_eq_true] at h
    obtain ⟨a1, a2⟩ := okv_short x h.1
    obtain ⟨b1, b2⟩ := okvAll_short l h.2
    refine ⟨?_, ?_⟩
    · show (PyData.leavesShort 44 x && PyData.leavesShortAll 44 l) = true
      rw [a1, b1]; rfl
    · show (PyData.showable x && PyData.showableAll l) = true
      rw [a2, b2]; rfl
end
theorem okv_fits {d : PyData} (h : okv d = true) (hb : d.bulk ≤ 300000) : d.shown.length ≤ sizeLine := by
  have q := PyData.shown_le_bulk 44 (by decide) d (okv_short d h).1
  rw [sizeLine_eq]
  omega
/-! ### t[k:] -/
theorem cut_from (xs : List V) (k : Nat) (h : k ≤ xs.length) : cutV xs (some (k : Int)) none = xs.drop k := by
  unfold cutV
  rw [HT.sIx_none, HT.sIx_nat, Nat.min_eq_left h]
  exact List.take_of_length_le (by rw [List.length_drop]; omega)
theorem cut_to (xs : List V) (k : Nat) (h : k ≤ xs.length) : cutV xs none (some (k : Int)) = xs.take k := by
  unfold cutV
  rw [HT.sIx_none, HT.sIx_nat, Nat.min_eq_left h, Nat.sub_zero, List.drop_zero]
theorem slA_from {K : PySem.W.Frag} {H : Hp} {Q : VK} {a : Addr} {xs : List V} {n : Int} {k : Nat} (hn : n = (k : Int)) (ha : H a = some (.tup xs)) (q : ∀ H' p, Same H H' → H' p = some (.tup (xs.drop k)) → (p = a ∨ H p = none) → Q (.ref p) H') : rSlA K (.ref a) (some n) none H Q := by
  subst hn
  refine ⟨a, xs, rfl, SqT.of ha, fun hw => ?_, fun hw p hp => ?_⟩
  · have h1 := hw.1
    rw [HT.sIx_nat] at h1
    refine q H a (Same.refl H) ?_ (.inl rfl)
    by_cases hk : k = 0
    · subst hk
      exact ha
    · have h0 : xs = [] := List.length_eq_zero_iff.mp (by omega)
      rw [h0] at ha ⊢
      rw [List.drop_nil]
      exact ha
  · refine q _ p (same_new hp) ?_ (.inr hp)
    rw [upd_same]
    by_cases hk : k ≤ xs.length
    · rw [cut_from xs k hk]
    · unfold cutV
      rw [HT.sIx_none, HT.sIx_nat, Nat.min_eq_right (by omega), List.drop_length, List.drop_eq_nil_of_le (by omega), List.take_nil]
/-- all of S are tracked -/
def Trk (S : List Addr) (H : Hp) : Prop := ∀ a ∈ S, H a ≠ none
theorem Trk.same {S : List Addr} {H H' : Hp} (h : Trk S H) (k : Same H H') : Trk S H' := fun a m e => by
  cases q : H a with
  | none => exact h a m q
  | some o =>
    rw [k a o q] at e
    cases e
theorem Trk.out {S : List Addr} {H : Hp} {p : Addr} (h : Trk S H) (n : H p = none) : p ∉ S := fun m => h p m n
mutual
theorem Dv.fresh {S : List Addr} {H : Hp} {p : Addr} (n : H p = none) : ∀ {v : V} {d : PyData}, Dv S H v d → Dv (p :: S) H v d
  | _, _, .non => .non
  | _, _, .bl b => .bl b
  | _, _, .int i => .int i
  | _, _, .str x => .str x
  | _, _, .lst h m t => .lst h (fun q => by
      rcases List.mem_cons.mp q with rfl | q
      · rw [n] at h; cases h
      · exact m q) (DvAll.fresh n t)
  | _, _, .tup h m t => .tup h (fun q => by
      rcases List.mem_cons.mp q with rfl | q
      · rw [n] at h; cases h
      · exact m q) (DvAll.fresh n t)
  | _, _, .dic h m => .dic h (fun q => by
      rcases List.mem_cons.mp q with rfl | q
      · rw [n] at h; cases h
      · exact m q)
theorem DvAll.fresh {S : List Addr} {H : Hp} {p : Addr} (n : H p = none) : ∀ {vs : List V} {ds : List PyData}, DvAll S H vs ds → DvAll (p :: S) H vs ds
  | _, _, .nil => .nil
  | _, _, .cons h t => .cons (Dv.fresh n h) (DvAll.fresh n t)
end
theorem okv_tup {ds : List PyData} (h : okv (.tuple ds) = true) : ds.length ≤ 1000 ∧ ∀ d ∈ ds, okv d = true := by
  obtain ⟨h1, h2⟩ := Bool.and_eq_true_iff.mp h
  exact ⟨of_decide_eq_true h1, okvAll_iff.mp h2⟩
end Zv
set_option Elab.async false
set_option linter.all false
set_option maxRecDepth 100000
set_option maxHeartbeats 4000000
/-! Zt: sorted texts are one. -/
namespace Zt
open PySem PySem.Spec PyProof.Rows L2
theorem le_trans' {a b c : List Nat} (h1 : ¬ b < a) (h2 : ¬ c < b) : ¬ c < a := by
  have q1 : a ≤ b := h1
  have q2 : b ≤ c := h2
  exact List.le_trans q1 q2
theorem rising_pw : ∀ (l : List PySem.Str) (p : PySem.Str), risingS p l = true → (p :: l).Pairwise (fun a b => ¬ b.cps.toList < a.cps.toList)
  | [], p, _ => List.pairwise_singleton _ _
  | x :: r, p, h => by
    have h' : (!ltCps x.cps.toList p.cps.toList && risingS x r) = true := h
    rw [Bool.and_eq_true, ltCps_eq] at h'
    have q := rising_pw r x h'.2
    have e : ¬ x.cps.toList < p.cps.toList := by simpa using h'.1
    refine List.Pairwise.cons (fun y hy => ?_) q
    rcases List.mem_cons.mp hy with rfl | hy
    · exact e
    · exact le_trans' e ((List.pairwise_cons.mp q).1 y hy)
theorem sorted_pw : ∀ (l : List PySem.Str), sortedS l = true → l.Pairwise (fun a b => ¬ b.cps.toList < a.cps.toList)
  | [], _ => List.Pairwise.nil
  | x :: r, h => rising_pw r x h
theorem str_ext {x y : PySem.Str} (h : x.cps.toList = y.cps.toList) : x = y := by
  obtain ⟨⟨x⟩⟩ := x
  obtain ⟨⟨y⟩⟩ := y
  have h' : x = y := h
  rw [h']
theorem sorted_uniq {l m : List PySem.Str} (h1 : sortedS l = true) (h2 : sortedS m = true) (n1 : l.Nodup) (n2 : m.Nodup) (h : ∀ x, x ∈ l ↔ x ∈ m) : l = m :=
  List.Perm.eq_of_pairwise (le := fun a b : PySem.Str => ¬ b.cps.toList < a.cps.toList) (fun a b _ _ p q => str_ext (List.le_antisymm p q)) (sorted_pw l h1) (sorted_pw m h2) ((List.perm_ext_iff_of_nodup n1 n2).mpr h)
end Zt
set_option Elab.async false
set_option linter.all false
set_option maxRecDepth 100000
set_option maxHeartbeats 4000000
/-! Yo: sorted of a list of pairs of a text and a number. -/
namespace Yo
open PySem PyProof.Rows
section
variable {prog : Program} {w : World} {A : Around} {E : Value → Shared → Prop} {s : Shared}
/-- a text and a number stand at v -/
def TxN (h : Heap) (v : Value) : Prop := ∃ (x : Str) (y : Int) (a : Addr) (o : Obj) (t u : Tok) (n : Nat), v = .ref a ∧ h.get? a = some o ∧ o.cls = .type "tuple" ∧ o.data = .seq #[.str x t, .int y u] n
theorem cmpd {vs : List Value} (hp : ∀ v ∈ vs, TxN s.heap v) : Srt.Tot prog w A s (tuples' true) (fun p => p.1 ∈ vs) := by
  rintro p q hm hm'
  obtain ⟨x, y, a, o, t, u, n, e, ho, -, hd⟩ := hp _ hm
  obtain ⟨x', y', a', o', t', u', n', e', ho', -, hd'⟩ := hp _ hm'
  rw [e, e']
  by_cases ex : x = x'
  · by_cases ey : y = y'
    · refine ⟨false, PySem.W.kat_lt ho hd ho' hd' ?_⟩
      show PySem.W.KatLex prog w A true (decide (2 < 2)) _ [(.str x t, .str x' t'), (.int y u, .int y' u')] 0 s
      refine PySem.W.kat_cons (SeqAt.EqAt.str_str x t x' t' prog w _ _ ?_)
      rw [beq_iff_eq.mpr ex]
      refine PySem.W.kat_yes (PySem.W.kat_cons (SeqAt.EqAt.int_int y u y' u' prog w _ _ ?_))
      rw [beq_iff_eq.mpr ey]
      exact PySem.W.kat_yes (PySem.W.kat_nil ⟨rfl, rfl⟩)
    · refine ⟨decide (y < y'), PySem.W.kat_lt ho hd ho' hd' ?_⟩
      show PySem.W.KatLex prog w A true (decide (2 < 2)) _ [(.str x t, .str x' t'), (.int y u, .int y' u')] 0 s
      refine PySem.W.kat_cons (SeqAt.EqAt.str_str x t x' t' prog w _ _ ?_)
      rw [beq_iff_eq.mpr ex]
      refine PySem.W.kat_yes (PySem.W.kat_cons (SeqAt.EqAt.int_int y u y' u' prog w _ _ ?_))
      rw [beq_eq_false_iff_ne.mpr ey]
      refine PySem.W.kat_no (PySem.W.kat_one _ _ (PyProof.Rows.lt_int ?_))
      exact (show s = s ∧ decide (y < y') = decide (y < y') from ⟨rfl, rfl⟩)
  · refine ⟨decide (x.cps.toList < x'.cps.toList), PySem.W.kat_lt ho hd ho' hd' ?_⟩
    show PySem.W.KatLex prog w A true (decide (2 < 2)) _ [(.str x t, .str x' t'), (.int y u, .int y' u')] 0 s
    refine PySem.W.kat_cons (SeqAt.EqAt.str_str x t x' t' prog w _ _ ?_)
    rw [beq_eq_false_iff_ne.mpr ex]
    exact PySem.W.kat_no (oneLt_str ⟨rfl, rfl⟩)
theorem heads {h : Heap} : ∀ {vs : List Value}, (∀ v ∈ vs, TxN h v) → ∃ fs : List Value, PySem.W.KatTups h vs fs ∧ fs.length = vs.length ∧ ∀ f ∈ fs, ∃ x t, f = Value.str x t
  | [], _ => ⟨[], PySem.W.KatTups.nil, rfl, fun _ hm => by cases hm⟩
  | v :: vs, hp => by
    obtain ⟨x, y, a, o, t, u, n, rfl, ho, hc, hd⟩ := hp v List.mem_cons_self
    obtain ⟨fs, g1, g2, g3⟩ := heads (vs := vs) fun q m => hp q (List.mem_cons_of_mem _ m)
    refine ⟨.str x t :: fs, PySem.W.KatTups.cons ho hc hd rfl g1, congrArg (· + 1) g2, fun f m => ?_⟩
    rcases List.mem_cons.mp m with rfl | m
    · exact ⟨x, t, rfl⟩
    · exact g3 f m
theorem can_sort {a : Addr} {vs : List Value} (h0 : 0 < vs.length) (hp : ∀ v ∈ vs, TxN s.heap v) (ha : ∀ o, s.heap.get? a = some o → o.cls ≠ .type "tuple") : Srt.Sortable prog w A s a vs := fun h' keep => by
  have hp' : ∀ v ∈ vs, TxN h' v := fun v m => by
    obtain ⟨x, y, b, o, t, u, n, e, ho, hc, hd⟩ := hp v m
    exact ⟨x, y, b, o, t, u, n, e, keep b o (fun z => ha o (z ▸ ho) hc) ho, hc, hd⟩
  obtain ⟨fs, g1, g2, g3⟩ := heads hp'
  refine ⟨tuples' true, fun Q E hq => PySem.W.kat_kind (T := .type "str") g1 (by omega) (fun f m => ?_) (by rfl) ?_, cmpd hp'⟩
  · obtain ⟨x, t, rfl⟩ := g3 f m
    exact PySem.W.Looks.now
  · rw [show (Value.type "str" != Value.type "tuple") = true by decide +kernel]
    exact hq
theorem sorts {l : Addr} {vs : List Value} {Q : Value → Shared → Prop} (hl : s.heap.IsList l vs.toArray) (hz : vs.length ≤ sizeLine) (hp : ∀ v ∈ vs, TxN s.heap v)
    (h : ∀ (h' : Heap) (d : Addr) (out : List Value), out.Perm vs → (∀ b o, s.heap.get? b = some o → h'.get? b = some o) → s.heap.objs.size ≤ d → (∃ n, h'.get? d = some (seqObj "list" out.toArray n)) → Q (.ref d) { s with heap := h' }) :
    wpAny (model prog w) A (call (.builtin "sorted") [.ref l]) Q E s := by
  refine Srt.sorted_any hl hz (fun h2 h₁ a ha k => can_sort (s := { s with heap := h₁ }) (by omega) (fun v m => ?_) fun o e c => ?_) fun out ho => h _ _ out ho (fun b o e => sortedAll_old e) (Nat.le_succ _) (sortedAll_at s.heap vs out.toArray)
  · obtain ⟨x, y, b, o, t, u, n, e, ho, hc, hd⟩ := hp v m
    exact ⟨x, y, b, o, t, u, n, e, (k b o ho).2, hc, hd⟩
  · cases (show some o = some (seqObj "list" vs.toArray 0) from e.symm.trans ha)
    exact absurd (Value.type.inj c) (by decide)
end
open L2 PySem.Spec
section
variable {X : Cx}
/-- sorted(xs), xs a list of pairs of a text and a number: the same pairs, in some order -/
def rSortedSN (K : PySem.W.Frag) : List V → Hp → VK → Prop := fun vs H Q => ∃ a xs, vs = [V.ref a] ∧ SqL K H a xs ∧ (∀ x ∈ xs, ∃ (t : Addr) (i : Str) (j : Int), x = V.ref t ∧ H t = some (.tup [.str i, .int j])) ∧ ∀ ys p, ys.Perm xs → H p = none → Q (.ref p) (upd H p (.lst ys))
theorem cr_sortedSN : CallR X (.builtin "sorted") (rSortedSN X.K) := fun pins s σ H vs us Q I r h => by
  obtain ⟨a, xs, rfl, hs, hx, q⟩ := h
  obtain ⟨its, rv, hl, hz⟩ := I.list hs
  obtain ⟨u, rfl, ru⟩ := vals1 r
  obtain rfl : u = Value.ref a := ru
  obtain ⟨e1, e2⟩ := refs_back rv fun x m => by
    obtain ⟨t, _, _, e, _⟩ := hx x m
    exact ⟨t, e⟩
  have hz' : its.length ≤ sizeLine := by rw [← rv.length]; exact hz
  refine sorts hl.isList hz' (fun v hv => ?_) fun h' d out hp k hd ⟨n, hn⟩ => ?_
  · obtain ⟨t, rfl⟩ := e2 v hv
    obtain ⟨t', i, j, e, ht⟩ := hx (V.ref t) (by rw [e1]; exact List.mem_map.mpr ⟨_, hv, rfl⟩)
    cases e
    obtain ⟨_, its2, r2, o, ho, hc, n, hd⟩ := I.hok _ _ ht
    obtain ⟨u1, u2, rfl, ⟨t1, rfl⟩, ⟨t2, rfl⟩⟩ := vals2 r2
    exact ⟨i, j, t, o, t1, t2, n, rfl, ho, hc, hd⟩
  · refine ⟨.ref d, upd H d (.lst (out.map backV)), I.laid (t' := s.toks) k hd ⟨?_, out, n, vals_back fun u m => e2 u (hp.mem_iff.mp m), hn⟩, rfl, q _ d ?_ (I.hok.fresh hd)⟩
    · rw [List.length_map, hp.length_eq]
      exact hz'
    · rw [e1]
      exact hp.map backV
end
end Yo
set_option Elab.async false
set_option linter.all false
set_option maxRecDepth 100000
set_option maxHeartbeats 4000000
/-! Zw: t[::-1] of a tuple. -/
namespace Zw
open PySem PySem.Spec PyProof.Rows L2 HT
section
variable {prog : Program} {w : World} {A : Around} {E : Value → Shared → Prop} {s : Shared}
theorem adjust_back (n : Nat) : Builtin.Slice.sliceAdjust none none (-1) (n : Int) = ((n : Int) - 1, -1) := by
  unfold Builtin.Slice.sliceAdjust
  have h1 : (-1 : Int) < 0 := by omega
  simp only [h1, if_true]
theorem places_back (n : Nat) : Builtin.Slice.slicePlaces ((n : Int) - 1) (-1) (-1) = n := by
  unfold Builtin.Slice.slicePlaces
  have h1 : ¬ ((-1 : Int) > 0) := by omega
  have h2 : -(-1 : Int) = 1 := by omega
  simp only [h1, if_false, h2, Int.ediv_one]
  split <;> omega
theorem sliceApplied_back {sl : Addr} {n : Nat} {u : Tok} {Q : Int × Int × Nat → Shared → Prop} (hs : s.heap.IsSliceOf sl .none .none (.int (-1) u)) (h : Q ((n : Int) - 1, -1, n) s) :
    wpAny (model prog w) A (Builtin.Slice.sliceApplied (.ref sl) (pure (n : Int))) Q E s := by
  obtain ⟨os, hos, hcs, hds⟩ := id hs
  unfold Builtin.Slice.sliceApplied Builtin.Slice.sliceFields
  refine wpAny_bind (wpAny_bind (wpAny_field hos hds (x := .none) rfl (wpAny_bind (wpAny_field hos hds (x := .none) rfl (wpAny_bind (wpAny_field hos hds (x := .int (-1) u) rfl (wpAny_pure ?_)))))))
  refine wpAny_bind (slicePart_int ?_)
  show wpAny _ _ (if ((-1 : Int) == 0) = true then _ else _) _ _ s
  rw [if_neg (by decide)]
  refine wpAny_bind (slicePart_none (wpAny_bind (slicePart_none (wpAny_bind (wpAny_pure ?_)))))
  show wpAny _ _ (match Builtin.Slice.sliceAdjust none none (-1) (n : Int) with | (lo, hi) => pure (lo, (-1 : Int), Builtin.Slice.slicePlaces lo hi (-1))) _ _ s
  rw [adjust_back n]
  show wpAny _ _ (pure ((n : Int) - 1, (-1 : Int), Builtin.Slice.slicePlaces ((n : Int) - 1) (-1) (-1))) _ _ s
  rw [places_back n]
  exact wpAny_pure h
theorem fm_map {α β : Type} {f : α → Option β} {g : α → β} : ∀ l : List α, (∀ k ∈ l, f k = some (g k)) → l.filterMap f = l.map g
  | [], _ => rfl
  | a :: l, h => by
    rw [List.filterMap_cons_some (h a List.mem_cons_self), List.map_cons, fm_map l fun k m => h k (List.mem_cons_of_mem _ m)]
theorem pick_back (xs : Array Value) : ((List.range xs.size).filterMap fun (k : Nat) => xs[((xs.size : Int) - 1 + (k : Int) * (-1)).toNat]?).toArray = xs.toList.reverse.toArray := by
  congr 1
  rw [fm_map (g := fun k => (xs[xs.size - 1 - k]?).getD .none) _ fun k m => by
    have hk := List.mem_range.mp m
    have e : ((xs.size : Int) - 1 + (k : Int) * (-1)).toNat = xs.size - 1 - k := by omega
    rw [e]
    have h2 : xs.size - 1 - k < xs.size := by omega
    rw [Array.getElem?_eq_getElem h2]
    rfl]
  refine List.ext_getElem (by simp) fun i h1 h2 => ?_
  rw [List.getElem_map, List.getElem_range, List.getElem_reverse]
  have hi : i < xs.size := by simpa using h1
  have h3 : xs.size - 1 - i < xs.size := by omega
  rw [Array.getElem?_eq_getElem h3]
  simp
theorem getItem_tuple_back {t sl : Addr} {items : Array Value} {u : Tok} {Q : Value → Shared → Prop} (ht : IsTup s.heap t items) (hs : s.heap.IsSliceOf sl .none .none (.int (-1) u))
    (h : Q (.ref s.heap.objs.size) { s with heap := s.heap.push { cls := .type "tuple", data := .seq items.toList.reverse.toArray } })
    (hsz : items.size ≤ sizeLine) : wpAny (model prog w) A (getItem (.ref t) (.ref sl)) Q E s := by
  have hrev : sizeOk (.seq items.toList.reverse.toArray) := by
    show items.toList.reverse.toArray.size ≤ sizeLine
    rw [List.size_toArray, List.length_reverse, Array.length_toList]
    exact hsz
  obtain ⟨os, hos, hcs, hds⟩ := id hs
  have hTs : s.TypeIs (.ref sl) "slice" := ⟨os, hos, hcs⟩
  unfold getItem
  try with_reducible refine wpAny_holding ?_
  first | refine wpAny_bind (wpAny_pure ?_) | skip
  refine wpAny_bind (wpAny_sequenceKey ht.typeIs (by decide) ?_)
  refine wpAny_bind (wpAny_callSpecial?_slot (name := Str.ofString "__getitem__") ht.typeIs PyProof.Rows.slot_tuple_getitem
    (wpAny_call_entry PyProof.Rows.slot_tuple_getitem ht.typeIs PyProof.Rows.entry_tuple_getitem ?_ (PyProof.Rows.args_tuple_getitem _ _)))
  show wpAny _ _ (Builtin.Tuple.tupleItemsOf (.ref t) >>= _) _ _ s
  refine wpAny_bind (tupleItemsOf_ ht ?_)
  refine wpAny_bind (wpAny_typeOf hTs ?_)
  rw [if_pos (by decide)]
  refine wpAny_bind (sliceApplied_back hs ?_)
  have hno : ¬ ((((items.size : Int) - 1) == 0 && (-1 : Int) == 1 && items.size == items.size) = true) := by
    rw [show ((-1 : Int) == 1) = false from rfl, Bool.and_false]
    exact Bool.false_ne_true
  show wpAny _ _ (if (((items.size : Int) - 1) == 0 && (-1 : Int) == 1 && items.size == items.size) = true then _ else _) _ _ s
  rw [if_neg hno, pick_back items]
  first
    | exact wpAny_bind (m := Builtin.Tuple.tupleExact _) (wpAny_newObj_type (wpAny_pure ⟨_, rfl, wpAny_pure h⟩) hrev)
    | exact wpAny_bind (m := Builtin.Tuple.tupleExact _) (wpAny_newObj_type (wpAny_bind (wpAny_pure (wpAny_pure ⟨_, rfl, wpAny_pure h⟩))) hrev)
    | exact wpAny_bind (wpAny_bind (m := Builtin.Tuple.tupleExact _) (wpAny_newObj_type (wpAny_pure (wpAny_pure ⟨_, rfl, wpAny_pure h⟩)) hrev))
    | exact wpAny_bind (wpAny_bind (m := Builtin.Tuple.tupleExact _) (wpAny_newObj_type (wpAny_pure ⟨_, rfl, wpAny_pure h⟩) hrev))
end
def tRevT (K : PySem.W.Frag) (te : TE) : TE := fun σ H Q => te σ H fun x H1 => ∃ a xs, x = .ref a ∧ SqT K H1 a xs ∧ ∀ p, H1 p = none → Q (.ref p) (upd H1 p (.tup xs.reverse))
theorem pe_revT {X : Cx} {e : Expr} {te : TE} {k : Nat} {p1 p2 p3 pos : Pos} (he : PE X e te) : PE X (.Subscript e (.Slice none none (some (.UnaryOp .USub (.Constant (.int 1) k p1) p2)) p3) pos) (tRevT X.K te) := by
  refine ⟨fun pins s σ H Q I h => ?_⟩
  refine Subscript_ (thn (he.run pins s σ H _ I h) fun v s1 ⟨x, H1, I1, r1, q1⟩ => ?_)
  obtain ⟨a, xs, ex, hx, q⟩ := q1
  subst ex
  cases r1
  have hst : PO X (some (.UnaryOp .USub (.Constant (.int 1) k p1) p2)) (tPart (tUn (rU fun i => .int (-i)) (tC (.int 1)))) := po_some (pe_un un_neg pe_int)
  refine wpAny_Slice (thn (po_none.run pins s1 σ H1 (fun o H2 => o = none ∧ H2 = H1) I1 ⟨rfl, rfl⟩) fun vl s2 ⟨l, H2, I2, pl, el, e2⟩ => ?_)
  subst el e2
  refine thn (po_none.run pins s2 σ H2 (fun o H3 => o = none ∧ H3 = H2) I2 ⟨rfl, rfl⟩) fun vu s3 ⟨u, H3, I3, pu, eu, e3⟩ => ?_
  subst eu e3
  refine thn (hst.run pins s3 σ H3 (fun o H4 => o = some (-1) ∧ H4 = H3) I3 ⟨1, rfl, -1, rfl, rfl, rfl⟩) fun vs s4 ⟨o, H4, I4, ps, eo, e4⟩ => ?_
  subst eo e4
  cases pl
  cases pu
  obtain ⟨u, eu⟩ : ∃ u, vs = .int (-1) u := by cases ps; exact ⟨_, rfl⟩
  subst eu
  have I5 : L2.Inv X pins σ H4 { s4 with heap := s4.heap.push { cls := .type "slice", data := .fields #[.none, .none, .int (-1) u] } } := I4.kept (t' := s4.toks) fun b ob q => Heap.get?_push_of_some _ q
  obtain ⟨its, r, ht, hz⟩ := I5.tuple hx
  have hlen := r.length
  show wpAny (model X.prog X.w) X.A (subscriptTail e (.Slice none none (some (.UnaryOp .USub (.Constant (.int 1) k p1) p2)) p3) (.ref a) (.ref s4.heap.objs.size)) (EP X pins σ Q) X.xe { s4 with heap := s4.heap.push { cls := .type "slice", data := .fields #[.none, .none, .int (-1) u] } }
  refine tail_any (ops := [.ref a, .ref s4.heap.objs.size]) ht.typeIs PyProof.Rows.slot_tuple_getitem.lookup ?_ (by with_unfolding_all rfl)
  refine getItem_tuple_back ht (Heap.IsSliceOf.new _ .none .none (.int (-1) u)) ?_ (by rw [List.size_toArray]; omega)
  refine ⟨.ref _, _, I5.laid (t' := s4.toks) (o := .tup xs.reverse) (fun b ob q => Heap.get?_push_of_some _ q) (Nat.le_refl _) ?_, rfl, q _ (I5.hok.fresh (Nat.le_refl _))⟩
  exact ⟨by rw [List.length_reverse]; omega, _, r.reverse, ⟨_, Heap.get?_push_size _ rfl, rfl, _, rfl⟩⟩
end Zw
set_option Elab.async false
set_option linter.all false
set_option maxRecDepth 100000
set_option maxHeartbeats 4000000
/-! Sk: cls(e, *t, k = v), cls a local that holds a class whose __init__ has a star and keyword-only parameters; o.m(k = v, ..). -/
namespace Sk
open PySem PySem.Spec PyProof.Rows L2
section
variable {M : Model} {A : Around} {E : Value → Shared → Prop} {s : Shared} {K : PySem.W.Frag}
/-- a call's node with stars and keywords -/
theorem node {f : Value} {pos : Pos} {Q : Value → Shared → Prop} {args : List (Bool × Sem Value)} {kws : List (Option PySem.Str × Sem Value)} (hst : (args.any (·.1) || kws.any (·.1.isNone)) = true) (hk : PySem.W.keepIn K f = true)
    (h : wpAny M A (evalArgs f true args kws) (fun a s₁ => K.In s₁.heap ∧ wpAny M A (call f a.pos a.kw) Q E s₁) E s) : wpAny M A (callWith pos f [] args kws) Q E s := by
  unfold callWith
  refine wpAny_bind (wpAny_holding (wpAny_mono h (fun a s₁ h₁ => wpAny_bind (wpAny_standAt ?_)) fun _ _ x => x))
  obtain ⟨k, hk', L⟩ := PySem.W.keeps_K (M := M) hk _ h₁.1
  simp only [hst]
  refine wpAny_bind (L.here ?_)
  have fin : ∀ {t : Sem Value}, wpAny M A t Q E s₁ → wpAny M A (t >>= fun r => holding [r] point >>= fun _ => pure r) Q E s₁ := fun ht =>
    wpAny_bind (wpAny_mono ht (fun r s₂ hr => wpAny_bind (wpAny_holding (wpAny_point (wpAny_pure hr)))) fun _ _ x => x)
  have mk (c : Value) : wpAny M A (callMarked c f ([] ++ a.pos) a.kw) Q E s₁ := by
    unfold callMarked
    exact Calls.wpAny_keep h₁.2
  rcases hk' with rfl | rfl | rfl <;> dsimp only <;> first | exact fin (mk _) | exact fin (wpAny_operating h₁.2)
end
/-- a promise by positional values and the values of the keywords ks -/
def FnK (P : Program) (w : World) (K : PySem.W.Frag) (mg : PySem.Str → Option Value) (base : Heap) (CX : CXT) (k : Nat) (f : Addr) (ks : List PySem.Str) (sp : List V → Sp) : Prop :=
  ∀ (A : Around) (outer : List Env) (s : Shared) (H : Hp) (us ws : List Value) (vs zs : List V) (Q : VK) (E : XK), Room k A → Env0 P w K mg base A outer s H → Vals vs us → Vals zs ws → zs.length = ks.length → sp zs vs H Q E →
    codeAny (model P w) A (.call (.ref f) ⟨us, ks.zip ws⟩) (CR CX outer P w H s Q E) s
section
variable {CX : CXT} {P : Program} {w : World} {K : PySem.W.Frag} {mg : PySem.Str → Option Value} {base : Heap} {k : Nat} {f : Addr} {name qual : PySem.Str} {st : Stmt} {fd : FuncData} {N ps pk : List PySem.Str} {pv : PySem.Str} {sp : List V → Sp}
/-- def f(a, .., *v, k, ..), called with all its keyword-only parameters: what is left over is a new tuple -/
theorem fn_starK (F : Fun K name qual st f fd) (S : FnScope N (ps ++ pk ++ [pv]) (defScope st)) (hCX : StX.CXUp CX)
    (hb : ∀ (kV doc pm : Value) (an : Option Addr) (cdv ct : Value) (us rest ws : List Value), us.length = ps.length → ws.length = pk.length →
      bindArgs (PySem.W.fnOf name qual (defArgs st) (defBody st) (defScope st) .none kV doc pm an cdv ct) ⟨us ++ rest, pk.zip ws⟩ = (newTuple rest >>= fun t => pure ((ps ++ pk).zip (us ++ ws) ++ [(pv, t)])))
    (hbody : ∀ (cdv : Value) (A : Around) (outer : List Env) (s : Shared) (H : Hp) (vs rest zs : List V) (Q : VK) (E : XK), Room k (A.deeper (envOfC qual (defScope st) s.heap.objs.size f cdv)) → vs.length = ps.length → zs.length = pk.length → sp zs (vs ++ rest) H Q E → ∀ p, H p = none →
      ∃ t, PSs (cxOf CX P w K mg base N qual (defScope st) f cdv A outer s (upd H p (.tup rest)) E) (defBody st) t ∧ t { nx := fun _ H' => Q .non H', rt := Q } (start N (vs ++ zs ++ [V.ref p])) (upd H p (.tup rest)))
    (hlen : ∀ zs vs H Q E, sp zs vs H Q E → ps.length ≤ vs.length ∧ vs.length ≤ sizeLine) :
    FnK P w K mg base CX (k + 1) f pk sp := by
  obtain ⟨oc, od, kV, doc, pm, an, cdv, ct, osl, rfl, lk, hcd⟩ := F.ex
  intro A outer s H us ws vs zs Q E hr e0 r rz hz hsp
  obtain ⟨hl0, hl1⟩ := hlen _ _ _ _ _ hsp
  obtain ⟨v1, v2, ev, hv1⟩ : ∃ v1 v2, vs = v1 ++ v2 ∧ v1.length = ps.length := ⟨vs.take ps.length, vs.drop ps.length, (List.take_append_drop _ _).symm, by rw [List.length_take]; omega⟩
  subst ev
  obtain ⟨u1, u2, eu, r1, r2⟩ := StX.vals_split r
  subst eu
  have hn : H s.heap.objs.size = Option.none := e0.hok.fresh (Nat.le_refl _)
  have h1 : u1.length = ps.length := by rw [← r1.length]; exact hv1
  have h2 : v2.length ≤ sizeLine := by
    rw [List.length_append] at hl1
    omega
  have h3 : u2.length ≤ sizeLine := by rw [← r2.length]; exact h2
  have h4 : ws.length = pk.length := by rw [← rz.length]; exact hz
  refine StX.run_bnd lk hcd S hr e0 (G := fun xs H2 => ∃ p, H p = Option.none ∧ xs = v1 ++ zs ++ [V.ref p] ∧ H2 = upd H p (.tup v2)) (fun A' Ex Q' h => ?_) fun s2 H2 xs ⟨p, hp, ex, eH⟩ hr' => ?_
  · rw [hb kV doc pm an cdv ct u1 u2 ws h1 h4]
    refine wpAny_bind (wpAny_newTuple (wpAny_pure ?_) h3)
    have new : ObjOk P w (upd H s.heap.objs.size (.tup v2)) (s.heap.push ({ cls := .type "tuple", data := .seq u2.toArray } : Obj)) s.heap.objs.size (.tup v2) := ⟨h2, u2, r2, ⟨_, Heap.get?_push_size _ rfl, rfl, _, rfl⟩⟩
    have un := StX.un_laid (fs := frs outer) (s := s) (o := ({ cls := .type "tuple", data := .seq u2.toArray } : Obj)) (u := .tup v2) hn
    have z := h _ _ (v1 ++ zs ++ [V.ref s.heap.objs.size]) (u1 ++ ws ++ [Value.ref s.heap.objs.size]) (StX.env0_laid e0 new) un rfl (fun e s' => hCX outer s H _ _ E e s' un (fun b o q => Heap.get?_push_of_some _ q) rfl) ((r1.append rz).append (.cons rfl .nil))
      (by simp only [List.length_append, hv1, hz, List.length_cons, List.length_nil]) ⟨_, hn, rfl, rfl⟩
    rw [List.zip_append (by simp only [List.length_append, h1, h4])] at z
    exact z
  · subst ex eH
    exact hbody cdv A outer s2 H v1 v2 zs Q E hr' hv1 hz hsp p hp
end
/-- cls(e, .., k = v, ..), the i-th slot holds the class at C -/
def tClsK (i : Nat) (C : Addr) (m : Nat) (sp : List V → Sp) (E : XK) (t tk : TA) : TE := fun σ H Q => σ[i]? = some (some (.ref C)) ∧ t σ H fun vs H1 => tk σ H1 fun zs H2 => zs.length = m ∧
  ∀ x dx, H2 x = Option.none → H2 dx = Option.none → dx ≠ x → sp zs (V.ref x :: vs) (upd (upd H2 dx (.own x)) x (.ins C dx [])) (fun v H3 => v = .non ∧ Q (.ref x) H3) E
section
variable {X : Cx} {CX : CXT} {k i : Nat} {f C : Addr} {ks : List PySem.Str} {sp : List V → Sp} {E : XK} {x : PySem.Str} {p pos : Pos} {e : Expr} {es : List Expr} {kws : List Keyword} {t tk : TA}
theorem pe_clsK (M : Mk X.K C f) (F : FnK X.prog X.w X.K X.mg X.base CX k f ks sp) (hr : Room (k + 1) X.A) (hN : X.N[i]? = some x) (hv : Vis X.env.scope x) (hx : Passes CX X E) (ha : PA X (e :: es) t) (hkw : PK X kws tk)
    (hst : ((backTo pos (starEach (e :: es) X.env)).any (·.1) || (backToKw pos (keywordEach kws X.env)).any (·.1.isNone)) = true := by rfl)
    (hall : (backToKw pos (keywordEach kws X.env)).all (·.1.isSome) = true := by rfl) (hks : (backToKw pos (keywordEach kws X.env)).filterMap (·.1) = ks := by rfl)
    (hdb : (x == ("__debug__" : PySem.Str)) = false := by decide) (hcd : (x == ("__classdict__" : PySem.Str)) = false := by decide)
    (he : starEach (e :: es) X.env = (false, eval e X.env) :: starEach es X.env := by rfl) :
    PE X (.Call (.Name x p) (e :: es) kws pos) (tClsK i C ks.length sp E t tk) := by
  refine ⟨fun pins s σ H Q I h => ?_⟩
  obtain ⟨hs, ht⟩ := h
  refine wpAny_Call_Name_kw (thn ((pe_var (pos := p) hN hv hdb hcd).run pins s σ H (fun v H1 => v = .ref C ∧ H1 = H) I ⟨.ref C, hs, rfl, rfl⟩) fun u s1 ⟨v, H1, I1, r1, q1⟩ => ?_)
  obtain ⟨rfl, rfl⟩ := q1
  cases r1
  refine node hst M.kp (evalArgs_kw2 hall (thn (ha.run pos pins s1 σ _ _ I1 ht) fun us s2 ⟨vs, H2, I2, r, q⟩ => ?_) he)
  refine thn (hkw.run pos pins s2 σ H2 _ I2 q) fun ws s3 ⟨zs, H3, I3, rz, l2, q3⟩ => ⟨I3.kIn, ?_⟩
  rw [hks]
  have hq := q3 (s3.heap.objs.size + 1) s3.heap.objs.size (I3.hok.fresh (Nat.le_succ _)) (I3.hok.fresh (Nat.le_refl _)) (Nat.ne_of_lt (Nat.lt_succ_self _))
  have I4 := Inv.made (C := C) I3
  refine wpAny_call (make_map (f := f) I3.kIn M.makes M.init (beq_iff_eq.mp M.fn) (codeAny_mono (F _ X.stack _ _ (Value.ref (s3.heap.objs.size + 1) :: us) ws (V.ref (s3.heap.objs.size + 1) :: vs) zs _ E (hr.make C us (ks.zip ws))
    (I4.env0.make C us (ks.zip ws)) (.cons rfl r) rz l2 hq) fun r s' hq' => ?_))
  cases r with
  | error e => exact hx pins σ _ _ e s' I4 hq'
  | ok fl =>
    cases fl with
    | ret u =>
      obtain ⟨v, H', I5, rv, ev, q5⟩ := I4.after hq'
      subst ev
      exact ⟨rv, ⟨V.ref (s3.heap.objs.size + 1), H', I5, rfl, q5⟩⟩
    | next => exact False.elim hq'
    | brk => exact False.elim hq'
    | cont => exact False.elim hq'
end
/-- o.m(k = v, ..) -/
def tMethKw (C : Addr) (m : PySem.Str) (n : Nat) (sp : Sp) (gV : List V → List V → List V) (E : XK) (ta : TE) (tk : TA) : TE := fun σ H Q => ta σ H fun x H1 => ∃ a dx fs, x = .ref a ∧ H1 a = some (.ins C dx fs) ∧ fs.lookup m = none ∧
  tk σ H1 fun zs H2 => zs.length = n ∧ sp (gV [.ref a] zs) H2 Q E
section
variable {X : Cx} {CX : CXT} {k : Nat} {f C : Addr} {fd : FuncData} {ps ks : List PySem.Str} {sp : Sp} {E : XK} {m : PySem.Str} {apos pos : Pos} {o : Expr} {kws : List Keyword} {ta : TE} {tk : TA} {g : List Value → List Value → List Value} {gV : List V → List V → List V} {pl : Sem Bool}
theorem pe_methKw (he : PE X o ta) (c : Cls X.K C) (hm : Meth X.K C m f) (F : FnOk X.prog X.w X.K X.mg X.base CX k f fd ps sp) (hr : Room k X.A) (hb : KBn X.K fd ps 1 ks g gV) (hx : Passes CX X E) (hkw : PK X kws tk)
    (hall : (backToKw pos (keywordEach kws X.env)).all (·.1.isSome) = true := by rfl) (hks : (backToKw pos (keywordEach kws X.env)).filterMap (·.1) = ks := by rfl)
    (hpl : ((backTo pos (starEach [] X.env)).any (·.1) || (backToKw pos (keywordEach kws X.env)).any (·.1.isNone)) = false := by rfl)
    (ht : eval (.Call (.Attribute o m apos) [] kws pos) X.env = (do
      let ov ← eval o X.env
      standAt apos.atName
      let (f, first) ← holding [ov] (getMethod ov m pl)
      callWith pos f first (backTo pos (starEach [] X.env)) (backToKw pos (keywordEach kws X.env))) := by rfl) :
    PE X (.Call (.Attribute o m apos) [] kws pos) (tMethKw C m ks.length sp gV E ta tk) := by
  refine ⟨fun pins s σ H Q I h => ?_⟩
  refine PySem.W.methodCall_KW (pl := pl) (thn (he.run pins s σ H _ I h) fun u s1 ⟨x, H1, I1, rx, a, dx, fs, ex, ea, l, q⟩ => ?_) ht
  subst ex
  obtain rfl : u = Value.ref a := rx
  refine getmeth_ok I1 ea c hm l ?_
  refine PySem.W.callWith_KW0 (h₀ := X.base) I1.ok.mod.kin hm.kp hall ?_ hpl
  refine thn (hkw.run pos pins s1 σ H1 _ I1 q) fun ws s2 ⟨zs, H2, I2, rz, l2, q2⟩ => ⟨I2.kIn, ?_⟩
  rw [hks]
  exact run_fnN (us := [.ref a]) (vs := [.ref a]) F hr hb hx I2 (.cons rfl .nil) rz rfl l2 q2
end
/-- how such a call binds, of a def of the text -/
theorem kb1 {K : PySem.W.Frag} {x qual : PySem.Str} {st : Stmt} {f : Addr} {fd : FuncData} {ps ks : List PySem.Str} {g : List Value → List Value → List Value} {gV : List V → List V → List V} (F : Fun K x qual st f fd)
    (h : ∀ (kV doc pm : Value) (an : Option Addr) (cdv ct : Value) (us ws : List Value), us.length = 1 → ws.length = ks.length → bindArgs (PySem.W.fnOf x qual (defArgs st) (defBody st) (defScope st) .none kV doc pm an cdv ct) ⟨us, ks.zip ws⟩ = pure (ps.zip (g us ws)))
    (r : ∀ {vs : List V} {us : List Value} {zs : List V} {ws : List Value}, Vals vs us → Vals zs ws → Vals (gV vs zs) (g us ws)) : KBn K fd ps 1 ks g gV := by
  obtain ⟨oc, od, kV, doc, pm, an, cdv, ct, osl, rfl, lk, hcd⟩ := F.ex
  exact ⟨fun s us ws _ h1 h2 => .of_eq (h kV doc pm an cdv ct us ws h1 h2), r⟩
end Sk
set_option Elab.async false
set_option linter.all false
set_option maxRecDepth 100000
set_option maxHeartbeats 4000000
/-! Sp: sorted of a tuple of pairs whose texts differ; tuple(list) as an object that is known; dict of such a tuple. -/
namespace Sp
open PySem PyProof.Rows
/-- the text ahead in a pair -/
abbrev ltS (k : Value → PySem.Str) (x y : Value) : Bool := decide ((k x).cps.toList < (k y).cps.toList)
theorem swoS {α : Type} (k : α → PySem.Str) : SrtO.Swo fun x y : α => decide ((k x).cps.toList < (k y).cps.toList) := by
  refine ⟨fun x y h => ?_, fun x y z h1 h2 => ?_⟩
  · exact decide_eq_false fun h' => List.lt_irrefl _ (List.lt_trans (of_decide_eq_true h) h')
  · exact decide_eq_false fun h' => (List.not_lt.mpr (List.le_trans (List.not_lt.mp (of_decide_eq_false h1)) (List.not_lt.mp (of_decide_eq_false h2)))) h'
section
variable {prog : Program} {w : World} {A : Around} {E : Value → Shared → Prop} {s : Shared}
/-- a pair stands at v, its first a text -/
def TxA (k : Value → PySem.Str) (h : Heap) (v : Value) : Prop := ∃ (a : Addr) (o : Obj) (t : Tok) (z : Value) (n : Nat), v = .ref a ∧ h.get? a = some o ∧ o.cls = .type "tuple" ∧ o.data = .seq #[.str (k v) t, z] n
theorem cmpS {k : Value → PySem.Str} {vs : List Value} (hp : ∀ v ∈ vs, TxA k s.heap v) (hd : ∀ v ∈ vs, ∀ u ∈ vs, k v = k u → v = u) : SrtO.Cmp prog w A s (tuples' true) (fun p => p.1 ∈ vs) (SrtO.lt2 (ltS k)) := by
  intro p q hm hm'
  show wpAny (model prog w) A (keyLt' (tuples' true) p.1 q.1) (fun r s' => s' = s ∧ r = decide ((k p.1).cps.toList < (k q.1).cps.toList)) (fun _ _ => False) s
  have inj := hd _ hm _ hm'
  obtain ⟨a, o, t, z, n, e, ho, -, hdt⟩ := hp _ hm
  obtain ⟨a', o', t', z', n', e', ho', -, hdt'⟩ := hp _ hm'
  generalize hx : k p.1 = x at hdt inj ⊢
  generalize hy : k q.1 = y at hdt' inj ⊢
  rw [e, e'] at inj ⊢
  refine PySem.W.kat_lt ho hdt ho' hdt' ?_
  show PySem.W.KatLex prog w A true (decide (2 < 2)) _ [(.str x t, .str y t'), (z, z')] 0 s
  refine PySem.W.kat_cons (SeqAt.EqAt.str_str x t y t' prog w _ _ ?_)
  by_cases exy : x = y
  · have ea := inj exy
    cases ea
    rw [ho] at ho'
    cases ho'
    rw [hdt] at hdt'
    cases hdt'
    rw [beq_iff_eq.mpr exy]
    refine PySem.W.kat_yes (PySem.W.kat_cons (SeqAt.EqAt.same z prog w _ _ ?_))
    refine PySem.W.kat_yes (PySem.W.kat_nil ⟨rfl, ?_⟩)
    rw [decide_eq_false (List.lt_irrefl _)]
    rfl
  · rw [beq_eq_false_iff_ne.mpr exy]
    exact PySem.W.kat_no (oneLt_str ⟨rfl, rfl⟩)
theorem headsS {k : Value → PySem.Str} {h : Heap} : ∀ {vs : List Value}, (∀ v ∈ vs, TxA k h v) → ∃ fs : List Value, PySem.W.KatTups h vs fs ∧ fs.length = vs.length ∧ ∀ f ∈ fs, ∃ x t, f = Value.str x t
  | [], _ => ⟨[], PySem.W.KatTups.nil, rfl, fun _ hm => by cases hm⟩
  | v :: vs, hp => by
    obtain ⟨a, o, t, z, n, e, ho, hc, hd⟩ := hp v List.mem_cons_self
    obtain ⟨fs, g1, g2, g3⟩ := headsS (vs := vs) fun q m => hp q (List.mem_cons_of_mem _ m)
    generalize k v = x at hd
    subst e
    refine ⟨.str x t :: fs, PySem.W.KatTups.cons ho hc hd rfl g1, congrArg (· + 1) g2, fun f m => ?_⟩
    rcases List.mem_cons.mp m with rfl | m
    · exact ⟨x, t, rfl⟩
    · exact g3 f m
theorem canS {k : Value → PySem.Str} {a : Addr} {vs : List Value} (h0 : 0 < vs.length) (hp : ∀ v ∈ vs, TxA k s.heap v) (hd : ∀ v ∈ vs, ∀ u ∈ vs, k v = k u → v = u) (ha : ∀ o, s.heap.get? a = some o → o.cls ≠ .type "tuple") : SrtO.SortableO prog w A s a vs (ltS k) := fun h' keep => by
  have hp' : ∀ v ∈ vs, TxA k h' v := fun v m => by
    obtain ⟨b, o, t, z, n, e, ho, hc, hd⟩ := hp v m
    exact ⟨b, o, t, z, n, e, keep b o (fun z => ha o (z ▸ ho) hc) ho, hc, hd⟩
  obtain ⟨fs, g1, g2, g3⟩ := headsS hp'
  refine ⟨tuples' true, fun Q E hq => PySem.W.kat_kind (T := .type "str") g1 (by omega) (fun f m => ?_) (by rfl) ?_, cmpS hp' hd⟩
  · obtain ⟨x, t, rfl⟩ := g3 f m
    exact PySem.W.Looks.now
  · rw [show (Value.type "str" != Value.type "tuple") = true by decide +kernel]
    exact hq
theorem sortsT {k : Value → PySem.Str} {l : Addr} {vs : List Value} {Q : Value → Shared → Prop} (hl : IsTup s.heap l vs.toArray) (hz : vs.length ≤ sizeLine) (hp : ∀ v ∈ vs, TxA k s.heap v) (hd : ∀ v ∈ vs, ∀ u ∈ vs, k v = k u → v = u)
    (h : ∀ (h1 h' : Heap) (d : Addr) (out : List Value), SrtO.Srtd (ltS k) out → out.Perm vs → (∀ b o, s.heap.get? b = some o → h1.get? b = some o) → (∀ b o, h1.get? b = some o → h'.get? b = some o) → h1.objs.size ≤ d → (∃ n, h'.get? d = some (seqObj "list" out.toArray n)) → Q (.ref d) { s with heap := h' }) :
    wpAny (model prog w) A (call (.builtin "sorted") [.ref l]) Q E s := by
  obtain ⟨ol, hol, hcl, nl, hdl⟩ := hl
  refine Calls.call_function_entry kind_sorted plain_sorted entry_sorted (args_sorted1 _) ?_
  unfold Builtin.«sorted»
  refine wpAny_bind (m := checkCount "sorted" 1 1 _) (wpAny_pure ?_)
  refine wpAny_bind (wpAny_collect_seq l (.inr rfl) hol hcl hdl (fun h1 k1 => ?_) (by rw [List.size_toArray]; exact hz))
  rw [show vs.toArray.toList = vs by simp]
  refine wpAny_bind (wpAny_newList ?_ hz)
  have hoL : (h1.push (seqObj "list" vs.toArray 0)).get? h1.objs.size = some (seqObj "list" vs.toArray 0) := Heap.get?_push_size _ rfl
  have hS : 2 ≤ vs.length → SrtO.SortableO prog w A.in1.in1 { s with heap := h1.push (seqObj "list" vs.toArray 0) } h1.objs.size vs (ltS k) := fun h2 => by
    refine canS (by omega) (fun v m => ?_) hd fun o e c => ?_
    · obtain ⟨b, o, t, z, n, e, ho, hc, hd⟩ := hp v m
      exact ⟨b, o, t, z, n, e, Heap.get?_push_of_some _ (k1 _ _ ho), hc, hd⟩
    · cases (show some o = some (seqObj "list" vs.toArray 0) from e.symm.trans hoL)
      exact absurd (Value.type.inj c) (by decide)
  refine wpAny_bind (wpAny_holding (wpAny_call_entry slot_list_sort ⟨_, hoL, rfl⟩ entry_list_sort (SrtO.list_sort_ord (swoS k) hoL hz hS fun out hs hb => ⟨_, rfl, ?_⟩) (args_list_sort _)))
  obtain ⟨c, hc⟩ := sortedHeap_at (vs := vs) (out := out.toArray) hoL
  refine wpAny_pure ⟨_, rfl, h h1 _ h1.objs.size out hs hb.perm k1 (fun b u q => ?_) (Nat.le_refl _) ⟨c, hc⟩⟩
  have hlt := Heap.lt_size q
  rw [sortedHeap_old (Nat.ne_of_lt hlt) (by rw [size_push']; exact Nat.lt_succ_of_lt hlt)]
  exact Heap.get?_push_of_some _ q
end
open L2 PySem.Spec
theorem vals_refs : ∀ ys : List Addr, Vals (ys.map V.ref) (ys.map Value.ref)
  | [] => .nil
  | _ :: ys => .cons rfl (vals_refs ys)
section
variable {X : Cx}
/-- sorted(t), t a tuple of pairs of a text and anything, the texts all different (f says which text): the pairs in their order -/
def rSortedTS (K : PySem.W.Frag) : List V → Hp → VK → Prop := fun vs H Q => ∃ (a : Addr) (xs : List Addr) (f : Addr → PySem.Str), vs = [V.ref a] ∧ SqT K H a (xs.map V.ref) ∧ (∀ x ∈ xs, ∃ z, SqT K H x [.str (f x), z]) ∧ (∀ x ∈ xs, ∀ y ∈ xs, f x = f y → x = y) ∧
  ∀ (ys : List Addr) p, ys.Perm xs → ys.Pairwise (fun x y => ¬ (f y).cps.toList < (f x).cps.toList) → H p = none → Q (.ref p) (upd H p (.lst (ys.map V.ref)))
theorem cr_sortedTS : CallR X (.builtin "sorted") (rSortedTS X.K) := fun pins s σ H vs us Q I r h => by
  obtain ⟨a, xs, f, rfl, hs, hx, hi, q⟩ := h
  obtain ⟨its, rv, hl, hz⟩ := I.tuple hs
  obtain ⟨u, rfl, ru⟩ := vals1 r
  obtain rfl : u = Value.ref a := ru
  have ei : its = xs.map Value.ref := refs_at rv
  subst ei
  rw [List.length_map] at hz
  let k : Value → PySem.Str := fun v => match v with
    | .ref x => f x
    | _ => ""
  refine sortsT (k := k) hl (by rw [List.length_map]; exact hz) (fun v hv => ?_) (fun v hv u hu e => ?_) fun hh h' d out h1 h2 kp1 kp hd ⟨n, hn⟩ => ?_
  · obtain ⟨x, hm, rfl⟩ := List.mem_map.mp hv
    obtain ⟨z, ht⟩ := hx x hm
    obtain ⟨its2, r2, ⟨o, ho, hc, n, hd⟩, _⟩ := I.tuple ht
    obtain ⟨u1, u2, rfl, ⟨t1, rfl⟩, r4⟩ := vals2 r2
    exact ⟨x, o, t1, u2, n, rfl, ho, hc, hd⟩
  · obtain ⟨x, hm, rfl⟩ := List.mem_map.mp hv
    obtain ⟨y, hm', rfl⟩ := List.mem_map.mp hu
    exact congrArg Value.ref (hi x hm y hm' e)
  · obtain ⟨ys, rfl⟩ : ∃ ys : List Addr, out = ys.map Value.ref := by
      refine ⟨out.filterMap fun v => match v with
        | .ref x => some x
        | _ => none, ?_⟩
      have : ∀ l : List Value, (∀ v ∈ l, ∃ x, v = Value.ref x) → l = (l.filterMap fun v => match v with
        | .ref x => some x
        | _ => none).map Value.ref := fun l => by
        induction l with
        | nil => intro _; rfl
        | cons v l ih =>
          intro hl
          obtain ⟨x, rfl⟩ := hl v List.mem_cons_self
          rw [List.filterMap_cons]
          exact congrArg _ (ih fun u hu => hl u (List.mem_cons_of_mem _ hu))
      exact this out fun v hv => by
        obtain ⟨x, _, rfl⟩ := List.mem_map.mp (h2.mem_iff.mp hv)
        exact ⟨x, rfl⟩
    have hp : ys.Perm xs := by
      have := h2.filterMap fun v : Value => match v with
        | .ref x => some x
        | _ => none
      rw [List.filterMap_map, List.filterMap_map] at this
      have e : ∀ l : List Addr, l.filterMap ((fun v : Value => match v with
        | .ref x => some x
        | _ => none) ∘ Value.ref) = l := fun l => (List.filterMap_some (l := l) : l.filterMap some = l)
      rw [e, e] at this
      exact this
    refine ⟨.ref d, upd H d (.lst (ys.map V.ref)), (I.kept (t' := s.toks) kp1).laid (t' := s.toks) kp hd ⟨?_, ys.map Value.ref, n, vals_refs ys, hn⟩, rfl, q ys d hp ?_ ((I.kept (t' := s.toks) kp1).hok.fresh hd)⟩
    · rw [List.length_map, hp.length_eq]
      exact hz
    · have h3 := List.pairwise_map.mp h1
      exact h3.imp fun {x y} z => of_decide_eq_false z
/-- tuple(l), l a list: a new tuple, of which the object is known -/
theorem call_tupleF : CallR X (.type "tuple") (fun xs H Q => ∃ p ys, xs = [.ref p] ∧ SqL X.K H p ys ∧ ∀ (l : Addr) (o : Obj), H l = none → o.dict = none → Q (.ref l) (upd H l (.frz o (.tup ys)))) := by
  intro pins s σ H xs us Q I r h
  obtain ⟨p, ys, rfl, hq, q⟩ := h
  obtain ⟨u, rfl, rx⟩ := vals1 r
  cases rx
  obtain ⟨its, r', pl, hz⟩ := I.list hq
  have hlen := r'.length
  refine call_tuple_list pl.isList (fun h' kp => ?_) (by simp only [List.size_toArray] <;> omega)
  have I1 : Inv X pins σ H { s with heap := h' } := I.kept (t' := s.toks) kp
  have new : (h'.push ({ cls := .type "tuple", data := .seq its.toArray } : Obj)).get? h'.objs.size = some { cls := .type "tuple", data := .seq its.toArray } := Heap.get?_push_size _ rfl
  have I2 : Inv X pins σ (upd H h'.objs.size (.frz { cls := .type "tuple", data := .seq its.toArray } (.tup ys))) { s with heap := h'.push { cls := .type "tuple", data := .seq its.toArray } } :=
    I1.laid (t' := s.toks) (fun b o e => Heap.get?_push_of_some _ e) (Nat.le_refl _) (show ObjOk X.prog X.w _ _ _ (.frz _ (.tup ys)) from ⟨new, hz, its, r', IsTup.new _ _⟩)
  exact ⟨.ref h'.objs.size, _, I2, rfl, q _ _ (I1.hok.fresh (Nat.le_refl _)) rfl⟩
/-- dict(t), t such a tuple of pairs (key, value): later pairs win, the place is the first one's -/
theorem call_dictPT (hcalm : X.calm = true) : CallR X (.type "dict") (fun xs H Q => ∃ (a : Addr) (o : Obj) (ps : List Addr) (kvs : List (Key × V)), xs = [.ref a] ∧ H a = some (.frz o (.tup (ps.map V.ref))) ∧ o.dict = none ∧ Paired (fun p kv => SqT X.K H p [kV kv.1, kv.2]) ps kvs ∧
    ∀ p, H p = none → Q (.ref p) (upd H p (.dK (mergeK [] kvs)))) := by
  intro pins s σ H xs us Q I r q
  obtain ⟨a, o, ps, kvs, rfl, ha, hdn, hp, q⟩ := q
  obtain ⟨u, rfl, rx⟩ := vals1 r
  cases rx
  obtain ⟨hoa, hz, its, rv, o', ho', hc, n, hdat⟩ := (show ObjOk X.prog X.w H s.heap a (.frz o (.tup (ps.map V.ref))) from I.hok a _ ha)
  rw [hoa] at ho'
  cases ho'
  have ei := refs_at rv
  subst ei
  rw [List.length_map] at hz
  obtain ⟨prs, rel, hl, hpr⟩ := pairs_of I hp
  have hm : (s.heap.objs.size == sysModules) = false := beq_eq_false_iff_ne.mpr (Nat.ne_of_gt I.big)
  -- the values of the pairs
  have key : ∃ vs2 : List (Value × Value), vs2.length = prs.length ∧ ∀ (j : Nat) (k v : Value), vs2[j]? = some (k, v) → ∃ (q : Key × Value) (b : Addr), prs[j]? = some q ∧ ps[j]? = some b ∧ v = q.2 ∧ IsTup s.heap b #[k, v] ∧ keyIs q.1 k = true := by
    have ex : ∀ j : Fin prs.length, ∃ k : Value, ∃ b : Addr, ps[j.1]? = some b ∧ IsTup s.heap b #[k, (prs[j.1]'j.2).2] ∧ keyIs (prs[j.1]'j.2).1 k = true := fun j => by
      obtain ⟨b, u, e1, e2, e3⟩ := hpr j.1 (prs[j.1]'j.2) (List.getElem?_eq_getElem j.2)
      exact ⟨u, b, e1, e2, e3⟩
    obtain ⟨F, hF⟩ := Classical.axiomOfChoice ex
    refine ⟨List.ofFn fun j => (F j, (prs[j.1]'j.2).2), List.length_ofFn, fun j k v e => ?_⟩
    rw [List.getElem?_ofFn] at e
    by_cases hj : j < prs.length
    · rw [dif_pos hj] at e
      cases e
      obtain ⟨b, e1, e2, e3⟩ := hF ⟨j, hj⟩
      exact ⟨prs[j]'hj, b, List.getElem?_eq_getElem hj, e1, rfl, e2, e3⟩
    · rw [dif_neg hj] at e
      cases e
  obtain ⟨vs2, l2, k2⟩ := key
  refine PySem.call_dict_pairs (knd := mixKind X.prog X.w) (kvs := prs) (PairArg.tuple a ((ps.map Value.ref).toArray) (fun j => ps.getD j 0) vs2) (I.ok.hd hcalm) ⟨⟨o, n, hoa, hc, hdn, hdat⟩, ?_, fun j k v e => ?_⟩ ⟨l2.symm, fun i k v e => ?_⟩ (by rw [l2, hl]; exact hz) fun h' tk hd' kp => ?_
  · rw [List.size_toArray, List.length_map, l2, hl]
  · obtain ⟨q, b, e1, e2, e3, e4, e5⟩ := k2 j k v e
    have eb : ps.getD j 0 = b := by rw [List.getD_eq_getElem?_getD, e2]; rfl
    show (List.map Value.ref ps).toArray[j]? = some (Value.ref (ps.getD j 0)) ∧ PairAt s.heap (ps.getD j 0) k v
    rw [eb]
    refine ⟨by simp [e2], .inl ?_⟩
    obtain ⟨o, h1, h2, n, h3⟩ := e4
    exact ⟨o, h1, h2, n, h3⟩
  · obtain ⟨q, b, e1, e2, e3, e4, e5⟩ := k2 i k v e
    exact ⟨q.1, by rw [e1, e3], e5⟩
  · have hlen : (mergeK [] kvs).length ≤ sizeLine := by
      refine Nat.le_trans (length_mergeK kvs []) ?_
      rw [List.length_nil, Nat.zero_add, rel.length, hl]
      exact hz
    exact ⟨.ref s.heap.objs.size, upd H s.heap.objs.size (.dK (mergeK [] kvs)), I.laid (t' := tk) (fun b o e => kp b o List.not_mem_nil e) (Nat.le_refl _) (show ObjOk X.prog X.w _ _ _ (.dK (mergeK [] kvs)) from ⟨hlen, hm, merged [] prs, KV.merge rel .nil, hd'⟩), rfl, q _ (I.hok.fresh (Nat.le_refl _))⟩
end
end Sp
set_option Elab.async false
set_option linter.all false
set_option maxRecDepth 100000
set_option maxHeartbeats 4000000
/-! Sm: a text times a number. -/
namespace Sm
open PySem PySem.Spec PyProof.Rows L2
/-- a text written n times -/
def rept (x : PySem.Str) (n : Nat) : PySem.Str := ⟨(List.replicate n x.cps).foldl (· ++ ·) #[]⟩
def rMulS : R2 := fun x y H Q => ∃ (z : PySem.Str) (n : Nat), x = .str z ∧ y = .int (n : Int) ∧ 2 ≤ n ∧ n ≤ 1000 ∧ 1 ≤ z.length ∧ z.length ≤ 1000 ∧ (rept z n).length ≤ sizeLine ∧ Q (.str (rept z n)) H
section
variable {X : Cx}
theorem op_mulS : OpR X (binaryOp .Mult) rMulS := by
  intro pins s σ H x y v u Q I rx ry h
  obtain ⟨z, n, rfl, rfl, h1, h2, h3, h4, h8, q⟩ := h
  obtain ⟨t, rfl⟩ := rx
  obtain ⟨t', rfl⟩ := ry
  have e1 : ((n : Int) == 1 || z.length == 0) = false := by
    rw [Bool.or_eq_false_iff]
    exact ⟨beq_eq_false_iff_ne.mpr (by omega), beq_eq_false_iff_ne.mpr (by omega)⟩
  refine PySem.P.mul_str ?_ (fun _ _ => ?_) (fun _ _ => ?_) ?_
  · rw [decide_eq_false (by omega), decide_eq_false (by omega)]
    rfl
  · have h5 : (n : Int) * (z.length : Int) ≤ 1000 * 1000 := Int.mul_le_mul (by omega) (by omega) (by omega) (by omega)
    intro h6
    have h7 : ((2 ^ 63 - 1 : Int)) / (n : Int) ≥ 1000 := Int.le_ediv_of_mul_le (by omega) (by omega)
    omega
  · show decide (_ > sizeLine) = false
    have h5 : z.length * n ≤ 1000 * 1000 := Nat.mul_le_mul h4 h2
    rw [sizeLine_eq, Int.toNat_natCast]
    exact decide_eq_false (by omega)
  · rw [if_neg (by omega), if_neg (by rw [e1]; decide)]
    exact ⟨h8, .str (rept z n), H, I.tok _, ⟨_, rfl⟩, q⟩
end
end Sm
set_option Elab.async false
set_option linter.all false
set_option maxRecDepth 100000
set_option maxHeartbeats 4000000
/-! Xe: own exception classes over Exception, with an own __init__ that stores fields. -/
namespace PySem
namespace XeP
open Builtin Builtin.ObjectAttr HandSPX
/-- what stands behind the own classes -/
abbrev tailE : List Value := [.type "Exception", .type "BaseException", .type "object"]
def refsE : List Value → Bool
  | .ref _ :: r => refsE r
  | l => l == tailE
theorem refsE_two : ∀ l : List Value, refsE l = true → l = tailE ∨ ∃ c r, l = .ref c :: r ∧ refsE r = true
  | .ref c :: r, e => .inr ⟨c, r, rfl, e⟩
  | [], e => .inl (beq_iff_eq.mp e)
  | .none :: _, e | .ellipsis :: _, e | .notImplemented :: _, e | .bool _ :: _, e | .int _ _ :: _, e | .float _ _ :: _, e | .str _ _ :: _, e | .bytes _ _ :: _, e | .type _ :: _, e | .builtin _ :: _, e => .inl (beq_iff_eq.mp e)
theorem refsE_go (self : Value) : ∀ l : List Value, refsE l = true → refuseLoop self "__setattr__" l = pure ()
  | l, e => by
    match l, refsE_two l e with
    | _, .inl rfl => exact F.store_Exception.passes self
    | _, .inr ⟨c, r, rfl, h⟩ =>
      rw [refuseLoop_ref]
      exact refsE_go self r h
theorem refsE_has (X : String) : ∀ l : List Value, refsE l = true → l.contains (.type X) = tailE.contains (.type X)
  | l, e => by
    match l, refsE_two l e with
    | _, .inl rfl => rfl
    | _, .inr ⟨c, r, rfl, h⟩ =>
      rw [List.contains_cons, refsE_has X r h]
      rfl
theorem refsE_some {l : List Value} (e : refsE l = true) : l.isEmpty = false := by
  match l, refsE_two l e with
  | _, .inl rfl => rfl
  | _, .inr ⟨c, r, rfl, h⟩ => rfl
section
variable {prog : Program} {w : World} {A : Around} {R : Result → Shared → Prop} {hp : Heap} {g : Array GenState} {d : Drawn} {t : Nat} {os : OsState}
/-- the first field that is stored on such an exception -/
theorem first_field {K : W.Frag} {name : Str} {tk : Tok} {v : Value} {x C : Addr} {fv : Array Value} {cd : ClassData}
    (X : K.In hp) (hx : hp.get? x = some { cls := .ref C, data := .fields fv }) (hcd : W.clsIn K C = some cd) (hm : refsE cd.mro = true) (hh : cd.hasDict = true) (ha : W.findIn K (.ref C) name = some none)
    (hq : ∀ h' tk' dx, (∀ b o, b ≠ x → hp.get? b = some o → h'.get? b = some o) → hp.objs.size ≤ dx → dx ≠ x → h'.get? x = some { cls := .ref C, dict := some dx, data := .fields fv } → h'.Ns1 dx (fun y => if y = name then some v else none) → R (.ok (.ret .none)) ⟨h', g, d, tk', os⟩) :
    codeAny (model prog w) A (.call (.builtin "object.__setattr__") ⟨[.ref x, .str name tk, v], []⟩) R ⟨hp, g, d, t, os⟩ := by
  have J : W.InstAt hp x { cls := .ref C, data := .fields fv } C none := ⟨hx, rfl, rfl, trivial⟩
  have S := F.store_object
  have o1 : cd.mro.contains (.type "object") = true := (refsE_has "object" _ hm).trans (by decide +kernel)
  have xs : x ≠ hp.objs.size := Nat.ne_of_lt (Heap.lt_size hx)
  have isO : W.Looks (model prog w) hp (isInstance (.ref x) (.type "object")) true := J.type.andThen (W.looks_mroIn X (by
    unfold W.mroIn
    rw [hcd, Option.bind_some, if_neg (by rw [refsE_some hm]; decide), o1]))
  refine codeAny_call_builtin S.slot.plain S.entry ?_
  refine @W.check_slot (model prog w) _ _ ⟨hp, g, d, t, os⟩ "object.__setattr__" "object" "__setattr__" (.ref x) [.str name tk, v] [] _ S.kind S.split isO (S.args (.ref x) (.str name tk) v) ?_
  have M1 : W.Looks (model prog w) hp (mroOf (.ref C)) cd.mro := (W.looks_clsIn X hcd).andThen .now
  have M2 : W.Looks (model prog w) hp (storeTaker? none) none := .now
  have M3 : W.Looks (model prog w) hp (classData C) cd := W.looks_clsIn X hcd
  rw [W.osa_eq, refuse_eq]
  refine wpAny_bind (wpAny_bind (J.type.at (wpAny_bind (M1.at ?_))))
  rw [refsE_go _ _ hm]
  refine wpAny_pure (wpAny_bind (J.type.at (wpAny_bind ((W.looks_findIn X ha).at (wpAny_bind (M2.at ?_))))))
  show wpAny _ _ (storeInOwnDict (.ref x) (.ref C) (.str name tk) name v false) _ _ _
  obtain ⟨c1, c2, mro, c3, c4, c5, c6, c7, c8, c9, c10⟩ := cd
  dsimp only at hh
  subst hh
  unfold storeInOwnDict ownDictForStores
  repeat (first | with_reducible refine store_in_new ?_ ?_ | with_reducible refine wpAny_loadPart_at hx ?_ | with_reducible refine M3.at ?_ | wp_step)
  · exact ⟨_, #[], _, (Heap.get?_update_ne _ _ _ _ xs.symm).trans (Heap.get?_push_at rfl rfl), rfl, fun e he => absurd he (by simp), fun _ => rfl⟩
  · intro h' tk' hn' hs
    have x1 : (hp.push { cls := .type "dict", data := .dict #[] }).get? x = some { cls := .ref C, data := .fields fv } := Heap.get?_push_of_some _ hx
    refine hq h' tk' hp.objs.size (fun b o hb ho => ?_) (Nat.le_refl _) xs.symm ((hs.2 x xs).trans (Heap.get?_update_self _ x1 rfl)) hn'
    exact (hs.2 b (Nat.ne_of_lt (Heap.lt_size ho))).trans ((Heap.get?_update_ne _ _ _ _ hb).trans (Heap.get?_push_of_some _ ho))
end
end XeP
end PySem
namespace Xe
open PySem PySem.Spec PyProof.Rows L2
/-- what the written part says of such a class -/
structure OxE (K : PySem.W.Frag) (C : Addr) : Prop where
  cls : ∃ nm q N bs bm sn sub ab col dd k0 k1 k2 k3 k5, K.lookup C = some (excClassObj nm q C N bs bm true sn sub ab col dd k0 k1 k2 k3 k5 "Exception.__new__") ∧ PySem.XeP.refsE bm = true
  sa : PySem.W.findIn K (.ref C) "__setattr__" = some (some (.builtin "object.__setattr__"))
  exC : PySem.W.subIn K (.ref C) (.type "BaseException") = some true
  tyC : PySem.W.typeIn K (.ref C) = some (.type "type")
  kC : PySem.W.keepIn K (.ref C) = true
section
variable {X : Cx} {pins : List (Addr × Obj)} {σ : L2.St} {H : Hp} {s : Shared} {a C : Addr} {f : PySem.Str} {y : V} {u : Value} {Q : Unit → Shared → Prop} {E : Value → Shared → Prop} {A : Around}
/-- self.f = y, the only field -/
theorem store_one (T : OxE X.K C) (I : Inv X pins σ H s) (e : H a = some (exo a C none)) (hno : PySem.W.findIn X.K (.ref C) f = some none) (ry : RelV y u)
    (h : ∀ dx s', H dx = none → dx ≠ a → Inv X pins σ (upd (upd H dx (exd dx [(f, y)])) a (exo a C (some dx))) s' → Q () s') : wpAny (model X.prog X.w) A (setAttr (.ref a) f u) Q E s := by
  obtain ⟨nm, q, N, bs, bm, sn, sub, ab, col, dd, k0, k1, k2, k3, k5, hC, hbm⟩ := T.cls
  have hcl : PySem.W.clsIn X.K C = some { name := nm, bases := bs, mro := .ref C :: bm, ns := N, qualname := q, hasDict := true, slotNames := sn, subclasses := sub, abstract := ab, collection := col, hasDel := false } := by
    unfold PySem.W.clsIn
    rw [hC] <;> rfl
  obtain ⟨t1, ho⟩ := exo_at I.hok e
  obtain ⟨hp, g, d, t, os⟩ := s
  refine PySem.W.set_plain I.kIn (ox := { cls := .ref C, dict := none, data := .fields #[.ref t1, .none, .none, .none, .bool false, .none] }) (od := none) ⟨ho, rfl, rfl, trivial⟩ T.sa ?_
  refine PySem.XeP.first_field I.kIn ho hcl (show PySem.XeP.refsE (.ref C :: bm) = true from hbm) rfl hno (fun h' tk' dx k dn dne hx hn => ?_)
  have hnd : H dx = none := I.hok.fresh dn
  have bd : ∀ {b : Addr} {o : Obj}, hp.get? b = some o → b ≠ dx := fun {b o} q => Nat.ne_of_lt (Nat.lt_of_lt_of_le (Heap.lt_size q) dn)
  have ba : ∀ {b : Addr}, H b = none → b ≠ a := fun {b} n z => by
    rw [z, e] at n
    cases n
  have U : Un X.fs [] H (upd (upd H dx (exd dx [(f, y)])) a (exo a C (some dx))) hp h' :=
    ⟨fun b o q n _ _ => k b o (ba n) q, fun b o q n _ _ => ⟨o.slots, k b o (ba n) q⟩, fun b o q n _ => by rw [upd_ne (ba n), upd_ne (bd q)]; exact n,
      fun b o q _ => by
        by_cases hb : b = a
        · exact ⟨_, by rw [hb]; exact hx⟩
        · exact ⟨o, k b o hb q⟩,
      fun b xs q => by rw [upd_ne (at_ne e q exo_tup), upd_ne (ne_of_none q hnd)]; exact q,
      fun b o v q => by rw [upd_ne (at_ne e q exo_frz), upd_ne (ne_of_none q hnd)]; exact q,
      fun b ps q => ⟨#[], by rw [upd_ne (at_ne e q exo_tbl), upd_ne (ne_of_none q hnd), q]; simp⟩⟩
  refine h dx _ hnd dne (I.un (t' := tk') U fun b o q => ?_)
  by_cases hb : b = a
  · subst hb
    rw [upd_same] at q
    cases q
    exact exo_ok hx
  · rw [upd_ne hb] at q
    by_cases hd : b = dx
    · subst hd
      rw [upd_same] at q
      cases q
      exact exd_ok hn (relO_put (fs := []) ry fun g => True.intro)
    · rw [upd_ne hd] at q
      refine (I.hok b o q).stay (fun c v hc z => k c v (fun ec => ?_) z) (fun c hc => by rw [upd_ne (at_ne e hc exo_own), upd_ne (ne_of_none hc hnd)]; exact hc) (fun c xs hc => by rw [upd_ne (at_ne e hc exo_tup), upd_ne (ne_of_none hc hnd)]; exact hc)
      rcases hc with hc | hc
      · exact hb (hc.symm.trans ec)
      · exact at_ne e hc exo_own ec
end
/-- self.f = e, the only field of an exception that is being made -/
def tOne (K : PySem.W.Frag) (f : PySem.Str) (to te : TE) : TS := fun D σ H => te σ H fun y H1 => to σ H1 fun x H2 => ∃ a C : Addr, x = .ref a ∧ OxE K C ∧ PySem.W.findIn K (.ref C) f = some none ∧ H2 a = some (exo a C none) ∧
  ∀ dx, H2 dx = none → dx ≠ a → D.nx σ (upd (upd H2 dx (exd dx [(f, y)])) a (exo a C (some dx)))
/-- C(e, ..), the values of the fields in fs -/
def tMkE (C : Addr) (sp : Sp) (ta : TA) : L2.St → Hp → XK → Prop := fun σ H Q => ta σ H fun vs H1 => vs.length ≤ 1000 ∧ ∀ a, H1 a = none → sp (.ref a :: vs) (upd H1 a (exo a C none))
  (fun v H2 => v = .non ∧ ∃ (d : Addr) (fs : List (PySem.Str × V)), H2 a = some (exo a C (some d)) ∧ H2 d = some (exd d fs) ∧ H1 d = none ∧ Q (.ref C) (some d) (upd (del H2 a) d (.xd fs))) (fun _ _ _ => False)
section
variable {X : Cx} {o e : Expr} {es : List Expr} {to te : TE} {ta : TA} {f : PySem.Str} {p p' pos : Pos}
theorem ps_one (ho : PE X o to) (he : PE X e te) (hs : swapsWith e (some (.Attribute o f p')) pos.line X.env = pure false := by rfl) : PS X (.Assign [.Attribute o f p'] e pos) (tOne X.K f to te) := by
  refine ⟨fun pins s σ H D I h => plainObj_wpAny_Assign_Attribute (thn (he.run pins s σ H _ I h) fun v s1 ⟨y, H1, I1, r1, q1⟩ => thn (ho.run pins s1 σ H1 _ I1 q1) fun u s2 ⟨x, H2, I2, r2, a, C, ex, T, hno, ea, q⟩ => ?_) hs⟩
  subst ex
  obtain rfl : u = Value.ref a := r2
  exact store_one T I2 ea hno r1 fun dx s' n ne J => ⟨σ, _, J, q dx n ne⟩
/-- C(e, ..) for a raise -/
theorem pmk_E {CX : CXT} {x : PySem.Str} {C fI : Addr} {k : Nat} {fd : FuncData} {ps : List PySem.Str} {sp : Sp} (T : OxE X.K C) (iC : PySem.W.findIn X.K (.ref C) "__init__" = some (some (.ref fI))) (tI : PySem.W.typeIn X.K (.ref fI) = some (.type "function"))
    (F1 : FnOk X.prog X.w X.K X.mg X.base CX k fI fd ps sp) (hr : Room (k + 1) X.A) (hb : Binds X.K fd ps []) (hx : Passes CX X (fun _ _ _ => False)) (hg : Gl X x) (hm : X.mg x = some (.ref C)) (ha : PA X (e :: es) ta)
    (hdb : (x == ("__debug__" : PySem.Str)) = false := by decide) (he : starEach (e :: es) X.env = (false, eval e X.env) :: starEach es X.env := by rfl) (hpl : (backTo pos (starEach es X.env)).any (·.1) = false := by rfl) :
    PMk X (.Call (.Name x p) (e :: es) [] pos) (tMkE C sp ta) := by
  intro pins s σ H Q I h
  obtain ⟨nm, q, N, bs, bm, sn, sub, ab, col, dd, k0, k1, k2, k3, k5, hC, hbm⟩ := T.cls
  refine wpAny_Call_Name_kw (ld_glob I hg hm (PySem.W.callWith_K (h₀ := X.base) I.ok.mod.kin T.kC (thn (ha.run pos pins s σ H _ I h) fun us s1 ⟨vs, H1, I1, r1, hz, q1⟩ => ⟨I1.kIn, ?_⟩) he hpl) hdb)
  show wpAny _ _ (call (.ref C) us) _ _ _
  obtain ⟨hp, g, dr, tk, os⟩ := s1
  have n1 : H1 (hp.objs.size + 1) = none := I1.hok.fresh (Nat.le_succ _)
  have hq := q1 (hp.objs.size + 1) n1
  have kk : ∀ b o, hp.get? b = some o → ((hp.push (PySem.W.kdv_tup us)).push (PySem.HandSPX.excO C hp.objs.size)).get? b = some o := fun b o e => Heap.get?_push_of_some _ (Heap.get?_push_of_some _ e)
  have at1 : ((hp.push (PySem.W.kdv_tup us)).push (PySem.HandSPX.excO C hp.objs.size)).get? (hp.objs.size + 1) = some (PySem.HandSPX.excO C hp.objs.size) := by heap_get
  have I2 : Inv X pins σ (upd H1 (hp.objs.size + 1) (exo (hp.objs.size + 1) C none)) ⟨(hp.push (PySem.W.kdv_tup us)).push (PySem.HandSPX.excO C hp.objs.size), g, dr, tk, os⟩ := I1.laid (t' := tk) kk (Nat.le_succ _) (exo_ok at1)
  have r2 : Vals (V.ref (hp.objs.size + 1) :: vs) (Value.ref (hp.objs.size + 1) :: us) := .cons rfl r1
  have l2 : (Value.ref (hp.objs.size + 1) :: us).length = ps.length := by
    rw [← F1.len _ _ _ _ hq]
    exact (Paired.length r2).symm
  have l3 : us.length ≤ sizeLine := by
    rw [← Paired.length r1, sizeLine_eq]
    omega
  have hbb := hb ⟨(hp.push (PySem.W.kdv_tup us)).push (PySem.HandSPX.excO C hp.objs.size), g, dr, tk, os⟩ (Value.ref (hp.objs.size + 1) :: us) I2.kIn (by rw [List.append_nil]; exact l2)
  rw [List.append_nil] at hbb
  refine wpAny_call (PySem.HandSPX.call_own F.excBase_Exception (fun Y => PySem.XeP.refsE_has Y bm hbm) (I1.kIn _ _ hC) (PySem.W.looks_findIn I1.kIn iC) (fun self => PySem.W.bind_fn I1.kIn self tI) l3
    (codeAny_mono (F1.run _ X.stack _ _ ⟨Value.ref (hp.objs.size + 1) :: us, []⟩ (Value.ref (hp.objs.size + 1) :: us) _ _ (fun _ _ _ => False) (hr.make C us []) (I2.env0.make C us []) hbb r2 hq) fun r s' hq' => ?_))
  cases r with
  | error er => exact hx pins σ _ _ er s' I2 hq'
  | ok fl =>
    cases fl with
    | ret u =>
      obtain ⟨v, H2, os2, bare2, un2, hok2, rv, ev, d, fs, ea, ed, hd1, q2⟩ := hq'
      subst ev
      obtain ⟨h2, g2, d2, t2, os'⟩ := s'
      exact ⟨rv, mk_end (raises_own T.exC T.tyC) I1 (Nat.le_succ _) kk un2 hok2 os2 bare2 ea ed hd1 q2⟩
    | next => exact False.elim hq'
    | brk => exact False.elim hq'
    | cont => exact False.elim hq'
end
/-- __init__(self, v): one field -/
def sp_one (C : Addr) (f : PySem.Str) : Sp := fun vs H Q _ => ∃ (a : Addr) (v : V), vs = [.ref a, v] ∧ H a = some (exo a C none) ∧ ∀ dx, H dx = none → dx ≠ a → Q .non (upd (upd H dx (exd dx [(f, v)])) a (exo a C (some dx)))
end Xe
set_option Elab.async false
set_option linter.all false
set_option maxRecDepth 100000
set_option maxHeartbeats 4000000
/-! Xu: own exceptions as values (made by position or by name, fields read, isinstance), raised, caught by several clauses. -/
namespace PySem
namespace XuP
open Builtin Builtin.ObjectAttr HandSPX XeP PyProof.Rows
section
variable {M : Model} {A : Around} {E : Value → Shared → Prop} {h : Heap} {g : Array GenState} {d : Drawn} {t : Nat} {os : OsState}
variable {nm q : Str} {C N : Addr} {bs bm bmB : List Value} {hdct : Bool} {sn : List Str} {sub : List Value} {ab : Bool} {col : Option Bool} {dd : Option Addr} {k0 k1 k2 k3 k5 : Option Value} {B newId initId : String}
/-- the look at the arguments of __new__, keywords among them -/
theorem look_new (F : ExcBaseFacts B newId initId bmB) (hT : ∀ X : String, bm.contains (.type X) = bmB.contains (.type X)) {rest : List Value} {kw : List (Str × Value)} {Q : Unit → Shared → Prop}
    (hC : h.get? C = some (excClassObj nm q C N bs bm hdct sn sub ab col dd k0 k1 k2 k3 k5 newId)) (hq : Q () ⟨h, g, d, t, os⟩) : wpAny M A (checkBuiltinCall newId ⟨.ref C :: rest, kw⟩) Q E ⟨h, g, d, t, os⟩ := by
  have hcont : (Value.ref C :: bm).contains (.type B) = true := by rw [List.contains_cons, hT, F.hasB, Bool.or_true]
  have hstar := F.noStar
  simp only [checkBuiltinCall, F.newKind, F.newSplit, F.newRow]
  repeat (first | refine wpAny_loadPart_at hC ?_ | (refine wpAny_isSubtype_exc hC ?_; rw [hcont]) | refine wpAny_staticBase_exc hC ?_ | refine wpAny_madeBy_exc hC ?_ | simp only [bne_self_eq_false, Bool.false_eq_true, if_false] | wp_step)
  exact hq
end
section
variable {prog : Program} {w : World} {A : Around} {E : Value → Shared → Prop} {R : Result → Shared → Prop} {h : Heap} {g : Array GenState} {d : Drawn} {t : Nat} {os : OsState}
variable {nm q : Str} {C N : Addr} {bs bm bmB : List Value} {hdct : Bool} {sn : List Str} {sub : List Value} {ab : Bool} {col : Option Bool} {dd : Option Addr} {k0 k1 k2 k3 k5 : Option Value} {B newId initId : String}
theorem made_new (F : ExcBaseFacts B newId initId bmB) (hT : ∀ X : String, bm.contains (.type X) = bmB.contains (.type X)) {rest : List Value} {kw : List (Str × Value)}
    (hC : h.get? C = some (excClassObj nm q C N bs bm hdct sn sub ab col dd k0 k1 k2 k3 k5 newId))
    (hq : R (.ok (.ret (.ref (h.objs.size + 1)))) ⟨(h.push { cls := .type "tuple", data := .seq rest.toArray }).push
      { cls := .ref C, data := .fields #[.ref h.objs.size, .none, .none, .none, .bool false, .none] }, g, d, t, os⟩) (hrest : rest.length ≤ sizeLine) :
    codeAny (model prog w) A (.builtin newId ⟨.ref C :: rest, kw⟩) R ⟨h, g, d, t, os⟩ := by
  have hends := F.ends
  have hcB : (Value.ref C :: bm).contains (.type B) = true := by rw [List.contains_cons, hT, F.hasB, Bool.or_true]
  have hcA : (Value.ref C :: bm).contains (.type "AttributeError") = false := by rw [List.contains_cons, hT, F.noAttr]; rfl
  have hcN : (Value.ref C :: bm).contains (.type "NameError") = false := by rw [List.contains_cons, hT, F.noName]; rfl
  refine codeAny_builtinAt F.entry ?_
  unfold Builtin.«BaseException.__new__»
  refine wpAt_bind ?_
  show wpAt _ _ _ (stack >>= _) _ _ _
  refine wpAt_bind (wpAt_stack fun p below => wpAt_of_wpAny ?_)
  wp_walk
  refine wpAt_of_wpAny ?_
  rw [F.owner]
  repeat (first | with_reducible refine wpAny_madeHere_exc F.canon hC ?_ | with_reducible refine wpAny_loadPart_at hC ?_ | (with_reducible refine wpAny_isSubtype_exc hC ?_; first | rw [hcB] | rw [hcA] | rw [hcN]) | wp_step)
  show R _ _
  rw [Heap.size_push]
  exact hq
theorem made_type (F : ExcBaseFacts B newId initId bmB) (hT : ∀ X : String, bm.contains (.type X) = bmB.contains (.type X)) {rest : List Value} {kw : List (Str × Value)} {fI : Addr} {Q : Fin → Shared → Prop}
    (hC : h.get? C = some (excClassObj nm q C N bs bm hdct sn sub ab col dd k0 k1 k2 k3 k5 newId))
    (hi : W.Looks (model prog w) h (typeLookup (.ref C) "__init__") (some (.ref fI))) (hb : ∀ self, W.Looks (model prog w) h (bindSpecial (.ref fI) self) (.ref fI, [self])) (hrest : rest.length ≤ sizeLine)
    (hq : codeAny (model prog w) A (.call (.ref fI) ⟨.ref (h.objs.size + 1) :: rest, kw⟩)
      (fun r s' => match r with | .ok (.ret v) => v = .none ∧ Q (.done (.ret (.ref (h.objs.size + 1)))) s' | .ok _ => False | .error e => E e s')
      ⟨(h.push (W.kdv_tup rest)).push (excO C h.objs.size), g, d, t, os⟩) :
    wpAny (model prog w) A (Builtin.«type.__call__» ⟨.ref C :: rest, kw⟩) Q E ⟨h, g, d, t, os⟩ := by
  repeat (first | with_reducible refine wpAny_loadPart_at hC ?_ | with_reducible refine wpAny_madeBy_exc hC ?_ | wp_step)
  refine codeAny_call_builtin_code (Code.quiet_builtin _ F.quiet) (look_new F hT hC ?_)
  refine made_new F hT hC ?_ hrest
  show wpAny _ _ _ _ _ _
  have k : ∀ b o, h.get? b = some o → ((h.push (W.kdv_tup rest)).push (excO C h.objs.size)).get? b = some o := fun b o e => Heap.get?_push_of_some _ (Heap.get?_push_of_some _ e)
  have hC₁ := k _ _ hC
  have hget : ((h.push (W.kdv_tup rest)).push (excO C h.objs.size)).get? (h.objs.size + 1) = some (excO C h.objs.size) := by heap_get
  have hcC : (Value.ref C :: bm).contains (.ref C) = true := by simp
  have i1 := hi.keeps k
  have b1 := (hb (.ref (h.objs.size + 1))).keeps k
  unfold isInstance
  repeat (first | with_reducible refine wpAny_loadPart_at hget ?_ | (with_reducible refine wpAny_isSubtype_exc hC₁ ?_; rw [hcC]) | wp_step)
  show wpAny _ _ (typeLookup (.ref C) _) _ _ _
  refine i1.at ?_
  refine wpAny_holding (wpAny_bind (b1.at ?_))
  refine wpAny_bind (wpAny_call (codeAny_mono hq fun r s' z => ?_))
  rcases r with e | (v | _ | _ | _) <;> first | exact z | exact z.elim | skip
  obtain ⟨rfl, z⟩ := z
  first
    | exact wpAny_pure (wpAny_pure z)
    | (wp_walk; exact z)
theorem made_call (F : ExcBaseFacts B newId initId bmB) (hT : ∀ X : String, bm.contains (.type X) = bmB.contains (.type X)) {rest : List Value} {kw : List (Str × Value)} {fI : Addr}
    (hC : h.get? C = some (excClassObj nm q C N bs bm hdct sn sub ab col dd k0 k1 k2 k3 k5 newId))
    (hi : W.Looks (model prog w) h (typeLookup (.ref C) "__init__") (some (.ref fI))) (hb : ∀ self, W.Looks (model prog w) h (bindSpecial (.ref fI) self) (.ref fI, [self])) (hrest : rest.length ≤ sizeLine)
    (hq : codeAny (model prog w) (A.under (.builtin "type.__call__" ⟨.ref C :: rest, kw⟩)) (.call (.ref fI) ⟨.ref (h.objs.size + 1) :: rest, kw⟩) (W.InitBack (h.objs.size + 1) R)
      ⟨(h.push (W.kdv_tup rest)).push (excO C h.objs.size), g, d, t, os⟩) :
    codeAny (model prog w) A (.call (.ref C) ⟨rest, kw⟩) R ⟨h, g, d, t, os⟩ := by
  have f1 := tc_lookup
  have f2 := tc_bind (.ref C)
  have hTy : (⟨h, g, d, t, os⟩ : Shared).TypeIs (.ref C) "type" := ⟨_, hC, rfl⟩
  refine codeAny_of_tree ?_
  show wpAny _ _ (callAny (.ref C) _) _ _ _
  repeat (any_goals (first | assumption | with_reducible refine wpAny_loadPart_at hC ?_ | wp_step))
  refine ⟨rfl, ?_⟩
  refine codeAny_call_builtin_at (Code.quiet_builtin _ (by decide +kernel)) entry_typeCall (wpAny_check_type_call_sub hC (made_type F hT hC hi hb hrest ?_))
  refine codeAny_mono hq fun r s' z => ?_
  rcases r with e | (v | _ | _ | _) <;> exact z
end
section
variable {prog : Program} {w : World} {A : Around} {R : Result → Shared → Prop} {hp : Heap} {g : Array GenState} {d : Drawn} {t : Nat} {os : OsState}
/-- a further field -/
theorem further_field {K : W.Frag} {name : Str} {tk : Tok} {v : Value} {x C dx : Addr} {fv : Array Value} {cd : ClassData} {m0 : Str → Option Value} {nl : List Str}
    (X : K.In hp) (hx : hp.get? x = some { cls := .ref C, dict := some dx, data := .fields fv }) (hns : hp.Ns1 dx m0) (hw : Within m0 nl) (hz : nl.length ≤ 1000) (hcd : W.clsIn K C = some cd) (hm : refsE cd.mro = true) (hh : cd.hasDict = true)
    (ha : W.findIn K (.ref C) name = some none)
    (hq : ∀ h' tk', (∀ b o, b ≠ dx → hp.get? b = some o → h'.get? b = some o) → h'.Ns1 dx (fun y => if y = name then some v else m0 y) → R (.ok (.ret .none)) ⟨h', g, d, tk', os⟩) :
    codeAny (model prog w) A (.call (.builtin "object.__setattr__") ⟨[.ref x, .str name tk, v], []⟩) R ⟨hp, g, d, t, os⟩ := by
  obtain ⟨oD, esD, epD, hoD, hdD, _⟩ := hns.count hw
  have I : W.InstAt hp x { cls := .ref C, dict := some dx, data := .fields fv } C (some oD) := ⟨hx, rfl, rfl, hoD⟩
  have SF := F.store_object
  have o1 : cd.mro.contains (.type "object") = true := (refsE_has "object" _ hm).trans (by decide +kernel)
  have isO : W.Looks (model prog w) hp (isInstance (.ref x) (.type "object")) true := I.type.andThen (W.looks_mroIn X (by
    unfold W.mroIn
    rw [hcd, Option.bind_some, if_neg (by rw [refsE_some hm]; decide), o1]))
  refine codeAny_call_builtin SF.slot.plain SF.entry ?_
  refine @W.check_slot (model prog w) _ _ ⟨hp, g, d, t, os⟩ "object.__setattr__" "object" "__setattr__" (.ref x) [.str name tk, v] [] _ SF.kind SF.split isO (SF.args (.ref x) (.str name tk) v) ?_
  have M1 : W.Looks (model prog w) hp (mroOf (.ref C)) cd.mro := (W.looks_clsIn X hcd).andThen .now
  have M2 : W.Looks (model prog w) hp (storeTaker? none) none := .now
  have M3 : W.Looks (model prog w) hp (classData C) cd := W.looks_clsIn X hcd
  rw [W.osa_eq, refuse_eq]
  refine wpAny_bind (wpAny_bind (I.type.at (wpAny_bind (M1.at ?_))))
  rw [refsE_go _ _ hm]
  refine wpAny_pure (wpAny_bind (I.type.at (wpAny_bind ((W.looks_findIn X ha).at (wpAny_bind (M2.at ?_))))))
  show wpAny _ _ (storeInOwnDict (.ref x) (.ref C) (.str name tk) name v false) _ _ _
  obtain ⟨c1, c2, mro, c3, c4, c5, c6, c7, c8, c9, c10⟩ := cd
  dsimp only at hh
  subst hh
  unfold storeInOwnDict ownDictForStores
  repeat (first | with_reducible refine OEX.store_in_old hns hw hz ?_ | with_reducible refine wpAny_loadPart_at hx ?_ | with_reducible refine M3.at ?_ | wp_step)
  intro h' tk' hn' hs
  exact hq h' tk' (fun b o hb ho => (hs.2 b hb).trans ho) hn'
end
end XuP
end PySem
namespace Xu
open PySem PySem.Spec PyProof.Rows L2 Xe
/-- a new exception of the class at C stands at a, its dict at dx; all else is as it was -/
structure Made (H H' : Hp) (a dx C : Addr) (fs : List (PySem.Str × V)) : Prop where
  na : H a = none
  nd : H dx = none
  ne : dx ≠ a
  at_ : H' a = some (exo a C (some dx))
  dict : H' dx = some (exd dx fs)
  rest : ∀ b, b ≠ a → b ≠ dx → H' b = H b
theorem Made.same {H H' : Hp} {a dx C : Addr} {fs : List (PySem.Str × V)} (m : Made H H' a dx C fs) : ∀ b o, H b = some o → H' b = some o := fun b o e => by
  rw [m.rest b (fun z => by rw [z, m.na] at e; cases e) (fun z => by rw [z, m.nd] at e; cases e)]
  exact e
theorem Made.first {H : Hp} {a dx C : Addr} {f : PySem.Str} {y : V} (na : H a = some (exo a C none)) (nd : H dx = none) (ne : dx ≠ a) {H0 : Hp} (h0 : H0 a = none) (hr : ∀ b, b ≠ a → H b = H0 b) :
    Made H0 (upd (upd H dx (exd dx [(f, y)])) a (exo a C (some dx))) a dx C [(f, y)] :=
  ⟨h0, by rw [← hr dx ne]; exact nd, ne, upd_same, by rw [upd_ne ne]; exact upd_same, fun b h1 h2 => by rw [upd_ne h1, upd_ne h2]; exact hr b h1⟩
theorem Made.more {H H' : Hp} {a dx C : Addr} {fs gs : List (PySem.Str × V)} (m : Made H H' a dx C fs) : Made H (upd H' dx (exd dx gs)) a dx C gs :=
  ⟨m.na, m.nd, m.ne, by rw [upd_ne (Ne.symm m.ne)]; exact m.at_, upd_same, fun b h1 h2 => by rw [upd_ne h2]; exact m.rest b h1 h2⟩
section
variable {X : Cx} {pins : List (Addr × Obj)} {σ : L2.St} {H : Hp} {s : Shared} {a C dx : Addr} {f : PySem.Str} {fs : List (PySem.Str × V)} {y : V} {u : Value} {Q : Unit → Shared → Prop} {E : Value → Shared → Prop} {A : Around}
/-- self.f = y, a further field -/
theorem store_more (T : OxE X.K C) (I : Inv X pins σ H s) (e : H a = some (exo a C (some dx))) (ed : H dx = some (exd dx fs)) (hl : fs.length ≤ 900) (hno : PySem.W.findIn X.K (.ref C) f = some none) (ry : RelV y u)
    (h : ∀ s', Inv X pins σ (upd H dx (exd dx ((f, y) :: fs))) s' → Q () s') : wpAny (model X.prog X.w) A (setAttr (.ref a) f u) Q E s := by
  obtain ⟨nm, q, N, bs, bm, sn, sub, ab, col, dd, k0, k1, k2, k3, k5, hC, hbm⟩ := T.cls
  have hcl : PySem.W.clsIn X.K C = some { name := nm, bases := bs, mro := .ref C :: bm, ns := N, qualname := q, hasDict := true, slotNames := sn, subclasses := sub, abstract := ab, collection := col, hasDel := false } := by
    unfold PySem.W.clsIn
    rw [hC] <;> rfl
  obtain ⟨t1, ho⟩ := exo_at I.hok e
  obtain ⟨mA, hns, rel⟩ := exd_at I.hok ed
  have hw := within_of rel
  obtain ⟨hp, g, d, t, os⟩ := s
  obtain ⟨oD, _, _, hoD, _, _⟩ := hns.count hw
  refine PySem.W.set_plain I.kIn (ox := { cls := .ref C, dict := some dx, data := .fields #[.ref t1, .none, .none, .none, .bool false, .none] }) (od := some oD) ⟨ho, rfl, rfl, hoD⟩ T.sa ?_
  refine PySem.XuP.further_field I.kIn ho hns hw (by rw [List.length_map]; omega) hcl (show PySem.XeP.refsE (.ref C :: bm) = true from hbm) rfl hno (fun h' tk' k hn => ?_)
  obtain ⟨od, hod⟩ : ∃ o, h'.get? dx = some o := let ⟨o, _, _, e', _⟩ := hn; ⟨o, e'⟩
  exact h _ (I.write (t' := tk') (x := dx) (e := dx) (o := exd dx ((f, y) :: fs)) (by rw [ed]; exact True.intro) (.inl rfl) k ⟨od, hod⟩ (exd_ok hn (relO_put ry rel)))
end
/-- self.f = e in an exception's __init__ -/
def tPut (K : PySem.W.Frag) (f : PySem.Str) (to te : TE) : TS := fun D σ H => te σ H fun y H1 => to σ H1 fun x H2 => ∃ a C : Addr, x = .ref a ∧ OxE K C ∧ PySem.W.findIn K (.ref C) f = some none ∧
  ((H2 a = some (exo a C none) ∧ ∀ dx, H2 dx = none → dx ≠ a → D.nx σ (upd (upd H2 dx (exd dx [(f, y)])) a (exo a C (some dx)))) ∨
    ∃ (dx : Addr) (fs : List (PySem.Str × V)), H2 a = some (exo a C (some dx)) ∧ H2 dx = some (exd dx fs) ∧ fs.length ≤ 900 ∧ D.nx σ (upd H2 dx (exd dx ((f, y) :: fs))))
/-- the promise of an __init__ that stores its parameters in the fields gs -/
def spIni (C : Addr) (gs : List PySem.Str) : Sp := fun vs H Q _ => ∃ (a : Addr) (ws : List V) (H0 : Hp), vs = .ref a :: ws ∧ ws.length = gs.length ∧ H a = some (exo a C none) ∧ H0 a = none ∧ (∀ b, b ≠ a → H b = H0 b) ∧
  ∀ dx H', Made H0 H' a dx C (gs.zip ws).reverse → Q .non H'
section
variable {X : Cx} {o e : Expr} {es : List Expr} {to te : TE} {ta : TA} {f : PySem.Str} {p p' pos : Pos}
theorem ps_put (ho : PE X o to) (he : PE X e te) (hs : swapsWith e (some (.Attribute o f p')) pos.line X.env = pure false := by rfl) : PS X (.Assign [.Attribute o f p'] e pos) (tPut X.K f to te) := by
  refine ⟨fun pins s σ H D I h => plainObj_wpAny_Assign_Attribute (thn (he.run pins s σ H _ I h) fun v s1 ⟨y, H1, I1, r1, q1⟩ => thn (ho.run pins s1 σ H1 _ I1 q1) fun u s2 ⟨x, H2, I2, r2, a, C, ex, T, hno, q⟩ => ?_) hs⟩
  subst ex
  obtain rfl : u = Value.ref a := r2
  rcases q with ⟨ea, q⟩ | ⟨dx, fs, ea, ed, hl, q⟩
  · exact store_one T I2 ea hno r1 fun dx s' n ne J => ⟨σ, _, J, q dx n ne⟩
  · exact store_more T I2 ea ed hl hno r1 fun s' J => ⟨σ, _, J, q⟩
end
/-- what the walk of a class asks of it -/
structure ExT (K : PySem.W.Frag) (C : Addr) : Prop where
  ox : OxE K C
  xf : XfC K C
  xc : ExcC K C
/-- C(..) as a value -/
def tMkV (C : Addr) (gs : List PySem.Str) (sel : List V → List V) (ta : TA) : TE := fun σ H Q => ta σ H fun vs H1 => vs.length = gs.length ∧ ∀ a dx H2, Made H1 H2 a dx C (gs.zip (sel vs)).reverse → Q (.ref a) H2
/-- C(..) for a raise -/
def tMkR (C : Addr) (gs : List PySem.Str) (ta : TA) : L2.St → Hp → XK → Prop := fun σ H Q => ta σ H fun vs H1 => vs.length = gs.length ∧ ∀ d, H1 d = none → Q (.ref C) (some d) (upd H1 d (.xd (gs.zip vs).reverse))
section
variable {X : Cx} {CX : CXT} {C fI : Addr} {k : Nat} {fd : FuncData} {ps gs ks : List PySem.Str}
/-- the call of the class's object, by position and keywords -/
theorem run_make {pins : List (Addr × Obj)} {σ : L2.St} {H1 : Hp} {s1 : Shared} {us zs : List Value} {vs : List V} {kw : List (PySem.Str × Value)} {R : Value → Shared → Prop} (T : OxE X.K C) (iC : PySem.W.findIn X.K (.ref C) "__init__" = some (some (.ref fI))) (tI : PySem.W.typeIn X.K (.ref fI) = some (.type "function"))
    (F1 : FnOk X.prog X.w X.K X.mg X.base CX k fI fd ps (spIni C gs)) (hr : Room (k + 1) X.A) (hx : Passes CX X (fun _ _ _ => False)) (I1 : Inv X pins σ H1 s1) (hl : us.length ≤ 1000)
    (hb : ∀ (s : Shared) (self : Value), X.K.In s.heap → BindsTo s fd ⟨self :: us, kw⟩ (ps.zip (self :: zs))) (r1 : Vals vs zs) (hz : vs.length = gs.length)
    (h : ∀ a d H2 h2 g2 d2 t2 os2, (∀ b o, s1.heap.get? b = some o → ((s1.heap.push (PySem.W.kdv_tup us)).push (PySem.HandSPX.excO C s1.heap.objs.size)).get? b = some o) → a = s1.heap.objs.size + 1 → s1.heap.objs.size ≤ a →
      Un (frs X.stack) [] (upd H1 a (exo a C none)) H2 ((s1.heap.push (PySem.W.kdv_tup us)).push (PySem.HandSPX.excO C s1.heap.objs.size)) h2 → HOk X.prog X.w H2 h2 → os2 = s1.os → AllBare g2 →
      Made H1 H2 a d C (gs.zip vs).reverse → (Inv X pins σ H2 ⟨h2, g2, d2, t2, os2⟩) → R (.ref a) ⟨h2, g2, d2, t2, os2⟩) :
    wpAny (model X.prog X.w) X.A (call (.ref C) us kw) R X.xe s1 := by
  obtain ⟨nm, q, N, bs, bm, sn, sub, ab, col, dd, k0, k1, k2, k3, k5, hC, hbm⟩ := T.cls
  obtain ⟨hp, g, dr, tk, os⟩ := s1
  have n1 : H1 (hp.objs.size + 1) = none := I1.hok.fresh (Nat.le_succ _)
  have kk : ∀ b o, hp.get? b = some o → ((hp.push (PySem.W.kdv_tup us)).push (PySem.HandSPX.excO C hp.objs.size)).get? b = some o := fun b o e => Heap.get?_push_of_some _ (Heap.get?_push_of_some _ e)
  have at1 : ((hp.push (PySem.W.kdv_tup us)).push (PySem.HandSPX.excO C hp.objs.size)).get? (hp.objs.size + 1) = some (PySem.HandSPX.excO C hp.objs.size) := by heap_get
  have I2 : Inv X pins σ (upd H1 (hp.objs.size + 1) (exo (hp.objs.size + 1) C none)) ⟨(hp.push (PySem.W.kdv_tup us)).push (PySem.HandSPX.excO C hp.objs.size), g, dr, tk, os⟩ := I1.laid (t' := tk) kk (Nat.le_succ _) (exo_ok at1)
  have r2 : Vals (V.ref (hp.objs.size + 1) :: vs) (Value.ref (hp.objs.size + 1) :: zs) := .cons rfl r1
  have l3 : us.length ≤ sizeLine := by
    rw [sizeLine_eq]
    omega
  have hsp : spIni C gs (V.ref (hp.objs.size + 1) :: vs) (upd H1 (hp.objs.size + 1) (exo (hp.objs.size + 1) C none)) (fun v H2 => v = .non ∧ ∃ d, Made H1 H2 (hp.objs.size + 1) d C (gs.zip vs).reverse) (fun _ _ _ => False) :=
    ⟨_, vs, H1, rfl, hz, upd_same, n1, fun b hb => upd_ne hb, fun dx H' m => ⟨rfl, dx, m⟩⟩
  refine wpAny_call (PySem.XuP.made_call F.excBase_Exception (fun Y => PySem.XeP.refsE_has Y bm hbm) (I1.kIn _ _ hC) (PySem.W.looks_findIn I1.kIn iC) (fun self => PySem.W.bind_fn I1.kIn self tI) l3
    (codeAny_mono (F1.run _ X.stack _ _ ⟨Value.ref (hp.objs.size + 1) :: us, kw⟩ (Value.ref (hp.objs.size + 1) :: zs) _ _ (fun _ _ _ => False) (hr.make C us kw) (I2.env0.make C us kw) (hb _ _ I2.kIn) r2 hsp) fun r s' hq' => ?_))
  cases r with
  | error er => exact hx pins σ _ _ er s' I2 hq'
  | ok fl =>
    cases fl with
    | ret u =>
      have hq2 := hq'
      obtain ⟨v, H2, os2, bare2, un2, hok2, rv, ev, d, m⟩ := hq'
      subst ev
      obtain ⟨v', H', J, rv', ev', _⟩ := I2.after (Q := fun v H3 => v = V.non ∧ H3 = H2) ⟨_, H2, os2, bare2, un2, hok2, rv, rfl, rfl⟩
      obtain ⟨_, rfl⟩ := (show v' = V.non ∧ H' = H2 from ⟨ev', by assumption⟩)
      obtain ⟨h2, g2, d2, t2, os'⟩ := s'
      exact ⟨rv, h _ d _ h2 g2 d2 t2 os' kk rfl (Nat.le_succ _) un2 hok2 os2 bare2 m J⟩
    | next => exact False.elim hq'
    | brk => exact False.elim hq'
    | cont => exact False.elim hq'
end
end Xu
set_option Elab.async false
set_option linter.all false
set_option maxRecDepth 100000
set_option maxHeartbeats 4000000
/-! Xw: the rules: C(..) as a value and for a raise, e.f, isinstance of an exception (held, or caught). -/
namespace Xw
open PySem PySem.Spec PyProof.Rows L2 Xe Xu
/-- how C(k = v, ..) binds -/
structure KBE (K : PySem.W.Frag) (fd : FuncData) (ps ks : List PySem.Str) (gW : List Value → List Value) (gV : List V → List V) : Prop where
  to : ∀ (s : Shared) (self : Value) (ws : List Value), ws.length = ks.length → BindsTo s fd ⟨[self], ks.zip ws⟩ (ps.zip (self :: gW ws))
  rel : ∀ {zs : List V} {ws : List Value}, Vals zs ws → Vals (gV zs) (gW ws)
  len : ∀ zs : List V, zs.length = ks.length → (gV zs).length = ks.length
theorem kbE {K : PySem.W.Frag} {x qual : PySem.Str} {st : Stmt} {f : Addr} {fd : FuncData} {ps ks : List PySem.Str} {gW : List Value → List Value} {gV : List V → List V} (F : Fun K x qual st f fd)
    (h : ∀ (kV doc pm : Value) (an : Option Addr) (cdv ct self : Value) (ws : List Value), ws.length = ks.length → bindArgs (PySem.W.fnOf x qual (defArgs st) (defBody st) (defScope st) .none kV doc pm an cdv ct) ⟨[self], ks.zip ws⟩ = pure (ps.zip (self :: gW ws)))
    (r : ∀ {zs : List V} {ws : List Value}, Vals zs ws → Vals (gV zs) (gW ws)) (l : ∀ zs : List V, zs.length = ks.length → (gV zs).length = ks.length) : KBE K fd ps ks gW gV := by
  obtain ⟨oc, od, kV, doc, pm, an, cdv, ct, osl, rfl, lk, hcd⟩ := F.ex
  exact ⟨fun s self ws hl => .of_eq (h kV doc pm an cdv ct self ws hl), r, l⟩
section
variable {X : Cx} {CX : CXT} {x : PySem.Str} {C fI : Addr} {k : Nat} {fd : FuncData} {ps gs ks : List PySem.Str} {e : Expr} {es : List Expr} {kws : List Keyword} {ta tk : TA} {p pos : Pos} {gW : List Value → List Value} {gV : List V → List V}
/-- C(e, ..), a value -/
theorem pe_mkE (T : OxE X.K C) (iC : PySem.W.findIn X.K (.ref C) "__init__" = some (some (.ref fI))) (tI : PySem.W.typeIn X.K (.ref fI) = some (.type "function"))
    (F1 : FnOk X.prog X.w X.K X.mg X.base CX k fI fd ps (spIni C gs)) (hr : Room (k + 1) X.A) (hb : Binds X.K fd ps []) (hps : ps.length = gs.length + 1) (hx : Passes CX X (fun _ _ _ => False)) (hg : Gl X x) (hm : X.mg x = some (.ref C)) (ha : PA X (e :: es) ta)
    (hs : gs.length ≤ 900 := by decide) (hdb : (x == ("__debug__" : PySem.Str)) = false := by decide) (he : starEach (e :: es) X.env = (false, eval e X.env) :: starEach es X.env := by rfl) (hpl : (backTo pos (starEach es X.env)).any (·.1) = false := by rfl) :
    PE X (.Call (.Name x p) (e :: es) [] pos) (tMkV C gs id ta) := by
  refine ⟨fun pins s σ H Q I h => ?_⟩
  refine wpAny_Call_Name_kw (ld_glob I hg hm (PySem.W.callWith_K (h₀ := X.base) I.ok.mod.kin T.kC (thn (ha.run pos pins s σ H _ I h) fun us s1 ⟨vs, H1, I1, r1, hz, q1⟩ => ⟨I1.kIn, ?_⟩) he hpl) hdb)
  have hl : us.length = gs.length := by rw [← Paired.length r1]; exact hz
  refine run_make T iC tI F1 hr hx I1 (by show us.length ≤ 1000; omega) (fun s self k => ?_) r1 hz (fun a d H2 h2 g2 d2 t2 os2 _ _ _ _ _ _ _ m J => ⟨.ref a, H2, J, rfl, q1 a d H2 m⟩)
  have b := hb s (self :: us) k (by rw [List.append_nil, List.length_cons, hl, hps])
  rw [List.append_nil] at b
  exact b
/-- C(k = v, ..), a value -/
theorem pe_mkEK (T : OxE X.K C) (iC : PySem.W.findIn X.K (.ref C) "__init__" = some (some (.ref fI))) (tI : PySem.W.typeIn X.K (.ref fI) = some (.type "function"))
    (F1 : FnOk X.prog X.w X.K X.mg X.base CX k fI fd ps (spIni C gs)) (hr : Room (k + 1) X.A) (hb : KBE X.K fd ps ks gW gV) (hps : ks.length = gs.length) (hx : Passes CX X (fun _ _ _ => False)) (hg : Gl X x) (hm : X.mg x = some (.ref C)) (hkw : PK X kws tk)
    (hall : (backToKw pos (keywordEach kws X.env)).all (·.1.isSome) = true := by rfl) (hks : (backToKw pos (keywordEach kws X.env)).filterMap (·.1) = ks := by rfl)
    (hdb : (x == ("__debug__" : PySem.Str)) = false := by decide) (hpl : ((backTo pos (starEach [] X.env)).any (·.1) || (backToKw pos (keywordEach kws X.env)).any (·.1.isNone)) = false := by rfl) :
    PE X (.Call (.Name x p) [] kws pos) (tMkV C gs gV tk) := by
  refine ⟨fun pins s σ H Q I h => wpAny_Call_Name_kw (ld_glob I hg hm ?_ hdb)⟩
  refine PySem.W.callWith_KW0 (h₀ := X.base) I.ok.mod.kin T.kC hall ?_ hpl
  refine thn (hkw.run pos pins s σ H _ I h) fun ws s2 ⟨zs, H2, I2, rz, l2, q2⟩ => ⟨I2.kIn, ?_⟩
  rw [hks, List.append_nil]
  have l3 : zs.length = ks.length := by rw [l2, hps]
  have hw : ws.length = ks.length := by rw [← Paired.length rz]; exact l3
  exact run_make (us := []) T iC tI F1 hr hx I2 (Nat.zero_le _) (fun s self k => hb.to s self ws hw) (hb.rel rz) (by rw [hb.len zs l3, hps]) (fun a d H3 h2 g2 d2 t2 os2 _ _ _ _ _ _ _ m J => ⟨.ref a, H3, J, rfl, q2 a d H3 m⟩)
/-- C(e, ..), for a raise -/
theorem pmk_E (T : OxE X.K C) (iC : PySem.W.findIn X.K (.ref C) "__init__" = some (some (.ref fI))) (tI : PySem.W.typeIn X.K (.ref fI) = some (.type "function"))
    (F1 : FnOk X.prog X.w X.K X.mg X.base CX k fI fd ps (spIni C gs)) (hr : Room (k + 1) X.A) (hb : Binds X.K fd ps []) (hps : ps.length = gs.length + 1) (hx : Passes CX X (fun _ _ _ => False)) (hg : Gl X x) (hm : X.mg x = some (.ref C)) (ha : PA X (e :: es) ta)
    (hs : gs.length ≤ 900 := by decide) (hdb : (x == ("__debug__" : PySem.Str)) = false := by decide) (he : starEach (e :: es) X.env = (false, eval e X.env) :: starEach es X.env := by rfl) (hpl : (backTo pos (starEach es X.env)).any (·.1) = false := by rfl) :
    L2N.PMk X (.Call (.Name x p) (e :: es) [] pos) (tMkR C gs ta) := by
  intro pins s σ H Q I h
  refine wpAny_Call_Name_kw (ld_glob I hg hm (PySem.W.callWith_K (h₀ := X.base) I.ok.mod.kin T.kC (thn (ha.run pos pins s σ H _ I h) fun us s1 ⟨vs, H1, I1, r1, hz, q1⟩ => ⟨I1.kIn, ?_⟩) he hpl) hdb)
  have hl : us.length = gs.length := by rw [← Paired.length r1]; exact hz
  refine run_make T iC tI F1 hr hx I1 (by show us.length ≤ 1000; omega) (fun s self k => ?_) r1 hz (fun a d H2 h2 g2 d2 t2 os2 kk ea hle un hok ho hbare m J => ?_)
  · have b := hb s (self :: us) k (by rw [List.append_nil, List.length_cons, hl, hps])
    rw [List.append_nil] at b
    exact b
  · obtain ⟨hp, g, dr, tk0, os⟩ := s1
    obtain ⟨t0, G, J2, kG, ge, hoe, na⟩ := mk_end0 (d2 := d2) (t2 := t2) I1 hle kk un hok ho hbare m.at_ m.dict m.nd
    have eH : upd (del H2 a) d (.xd (gs.zip vs).reverse) = upd H1 d (.xd (gs.zip vs).reverse) := by
      funext b
      by_cases h1 : b = d
      · rw [h1, upd_same, upd_same]
      · rw [upd_ne h1, upd_ne h1]
        by_cases h2 : b = a
        · rw [h2, del_same, m.na]
        · rw [del_ne h2]
          exact m.rest b h2 h1
    rw [eH] at J2 na
    exact ⟨a, _, _, ⟨G, g2, d2, t2, os2⟩, _, .ref C, some d, rfl, J2, kG, ge, hoe, ⟨rfl, rfl, fun vs hv => by cases hv; rfl⟩, rfl, rfl, na, rfl, hbare, raises_own T.exC T.tyC, q1 d m.nd⟩
end
section
variable {X : Cx} {x : PySem.Str} {C : Addr} {p pos : Pos}
/-- C(), no own __init__: a value -/
theorem pe_mk0 (q : PySem.W.excIn X.K C PySem.XeP.tailE "Exception.__new__" = true) (kC : PySem.W.keepIn X.K (.ref C) = true) (hg : Gl X x) (hm : X.mg x = some (.ref C)) (hdb : (x == ("__debug__" : PySem.Str)) = false := by decide) :
    PE X (.Call (.Name x p) [] [] pos) (fun _ H Q => ∀ a, H a = none → Q (.ref a) (upd H a (exo a C none))) := by
  refine ⟨fun pins s σ H Q I h => wpAny_Call_Name_kw (ld_glob I hg hm (PySem.W.callWith_K0 I.kIn kC ?_) hdb)⟩
  obtain ⟨bm, N, nm, qn, bs, hdct, sn, sub, ab, col, dd, k0, k1, k2, k3, k5, mN, hC, hN, hni, T⟩ := exc_obj I.kIn q
  obtain ⟨hp, g, d, t, os⟩ := s
  refine wpAny_call_exc_subT F.excBase_Exception T hC hN hni (fun h' a hm => ?_) (Nat.zero_le _)
  have hn : H a = none := I.hok.gone hm.new
  obtain ⟨t1, ht, _, _⟩ := hm.there
  exact ⟨.ref a, upd H a (exo a C none), I.laidN hm.keeps hm.new hn (exo_ok ht), rfl, h a hn⟩
/-- .. for a raise -/
theorem pmk_0 (q : PySem.W.excIn X.K C PySem.XeP.tailE "Exception.__new__" = true) (kC : PySem.W.keepIn X.K (.ref C) = true) (r : Raises X (.ref C)) (hg : Gl X x) (hm : X.mg x = some (.ref C)) (hdb : (x == ("__debug__" : PySem.Str)) = false := by decide) :
    L2N.PMk X (.Call (.Name x p) [] [] pos) (fun _ H Q => Q (.ref C) none H) := by
  intro pins s σ H Q I h
  refine wpAny_Call_Name_kw (ld_glob I hg hm (PySem.W.callWith_K0 I.kIn kC ?_) hdb)
  obtain ⟨bm, N, nm, qn, bs, hdct, sn, sub, ab, col, dd, k0, k1, k2, k3, k5, mN, hC, hN, hni, T⟩ := exc_obj I.kIn q
  obtain ⟨hp, g, d, t, os⟩ := s
  refine wpAny_call_exc_subT F.excBase_Exception T hC hN hni (fun h' e hm => ?_) (Nat.zero_le _)
  exact L2N.mk_of I hm r h (I.hok.gone hm.new)
end
/-- e.f, e an exception that is held -/
def tXo (K : PySem.W.Frag) (f : PySem.Str) (te : TE) : TE := fun σ H Q => te σ H fun x H1 => ∃ (a C dx : Addr) (fs : List (PySem.Str × V)) (v : V), x = .ref a ∧ XfC K C ∧ PySem.W.findIn K (.ref C) f = some none ∧ H1 a = some (exo a C (some dx)) ∧ H1 dx = some (exd dx fs) ∧ fs.lookup f = some v ∧ Q v H1
theorem pe_xo {X : Cx} {e : Expr} {te : TE} {pos : Pos} {f : PySem.Str} (he : PE X e te) (hb : attributeBase e f X.env (eval e X.env) = eval e X.env := by rfl) : PE X (.Attribute e f pos) (tXo X.K f te) := by
  refine ⟨fun pins s σ H Q I h => attr_of hb (thn (he.run pins s σ H _ I h) fun u s1 ⟨x, H1, I1, rx, a, C, dx, fs, v, ex, T, hno, ea, ed, l, q⟩ => ?_)⟩
  subst ex
  obtain rfl : u = Value.ref a := rx
  obtain ⟨t1, ho⟩ := exo_at I1.hok ea
  obtain ⟨mA, hns, rel⟩ := exd_at I1.hok ed
  obtain ⟨od, hd, hl⟩ := lookIn_ns hns
  obtain ⟨u, hu, ru⟩ := RelO.some_of (v := v) (o := mA f) (by rw [← l]; exact rel f)
  have J : PySem.W.InstAt s1.heap a { cls := .ref C, dict := some dx, data := .fields #[.ref t1, .none, .none, .none, .bool false, .none] } C (some od) := ⟨ho, rfl, rfl, hd⟩
  exact PySem.HandSPX.exc_get I1.kIn J T.ga T.gg T.exC (PySem.W.findObj_own T.hdC hno rfl (by rw [hl, hu])) (handed_of ru) ⟨v, H1, I1.tok _, ru, q⟩
/-- at a stands an exception of the class at D -/
def HasE (X : Cx) (H : Hp) (a D : Addr) : Prop := ∀ pins σ s, Inv X pins σ H s → ∃ oe od, PySem.W.InstAt s.heap a oe D od
theorem hasE_0 {X : Cx} {H : Hp} {a D : Addr} (e : H a = some (exo a D none)) : HasE X H a D := fun pins σ s I => by
  obtain ⟨t1, ho⟩ := exo_at I.hok e
  exact ⟨_, none, ho, rfl, rfl, trivial⟩
theorem hasE_1 {X : Cx} {H : Hp} {a D dx : Addr} {fs : List (PySem.Str × V)} (e : H a = some (exo a D (some dx))) (ed : H dx = some (exd dx fs)) : HasE X H a D := fun pins σ s I => by
  obtain ⟨t1, ho⟩ := exo_at I.hok e
  obtain ⟨mA, hns, rel⟩ := exd_at I.hok ed
  obtain ⟨od, hd, hl⟩ := lookIn_ns hns
  exact ⟨_, some od, ho, rfl, rfl, hd⟩
/-- the exception that is caught, its dict tracked -/
theorem hasE_p {X : Cx} {H : Hp} {a D : Addr} {oe : Obj} {d : Option Addr} (hp : (a, oe) ∈ X.pn) (hz : Zc (.ref D) d oe) (hf : ∃ vs, oe.data = .fields vs) (hd : d = none ∨ ∃ dd fs, d = some dd ∧ H dd = some (.xd fs)) : HasE X H a D := fun pins σ s I => by
  obtain ⟨hget, _⟩ := I.pin (a, oe) (List.mem_append_left _ hp)
  obtain ⟨vs, hv⟩ := hf
  have nc : PySem.W.notCls oe = true := by unfold PySem.W.notCls; rw [hv] <;> rfl
  rcases hd with rfl | ⟨dd, fs, rfl, e⟩
  · exact ⟨oe, none, hget, hz.1, nc, by rw [hz.2]; trivial⟩
  · have hx : ObjOk X.prog X.w H s.heap dd (.xd fs) := I.hok dd _ e
    obtain ⟨mA, hns, hr⟩ := hx
    obtain ⟨od, ho, hl⟩ := lookIn_ns hns
    exact ⟨oe, some od, hget, hz.1, nc, by rw [hz.2]; exact ho⟩
section
variable {X : Cx}
/-- isinstance(e, c) -/
def rIsX (X : Cx) : List V → Hp → VK → Prop := fun xs H Q => ∃ (a D : Addr) (c : V) (u : Value) (b : Bool), xs = [.ref a, c] ∧ ExcC X.K D ∧ HasE X H a D ∧ ClsV c u ∧ PySem.W.kitOne X.K (.ref D) u = some b ∧ Q (.bl b) H
theorem call_isX : CallR X (.builtin "isinstance") (rIsX X) := by
  intro pins s σ H xs us Q I r h
  obtain ⟨a, D, c, u, b, rfl, C, hh, k, e, q⟩ := h
  obtain ⟨u1, u2, rfl, r1, r2⟩ := vals2 r
  have e2 := k.eq r2
  subst e2
  obtain rfl : u1 = Value.ref a := r1
  obtain ⟨oe, od, J⟩ := hh pins σ s I
  have hcl : (PySem.W.clsIn X.K D).isSome = true := by
    have := C.hd
    obtain ⟨cd, hc, _⟩ := PySem.W.any_some this
    rw [hc]
    rfl
  exact PySem.W.kia_one (PySem.W.kitx_exc hcl C.hg C.hk C.hs C.ha C.hn C.ht C.hm) I.kIn J e (fun z => nomatch z) fun tk => ⟨.bl b, H, I.tok tk, rfl, q⟩
/-- isinstance(e, (c1, c2, ..)) -/
def rIsXT (X : Cx) : List V → Hp → VK → Prop := fun xs H Q => ∃ (a D tp : Addr) (cs : List V) (us : List Value) (b : Bool), xs = [.ref a, .ref tp] ∧ ExcC X.K D ∧ HasE X H a D ∧ H tp = some (.tup cs) ∧ Paired ClsV cs us ∧ PySem.W.kitAny X.K (.ref D) us = some b ∧ Q (.bl b) H
theorem call_isXT : CallR X (.builtin "isinstance") (rIsXT X) := by
  intro pins s σ H xs us Q I r h
  obtain ⟨a, D, tp, cs, ws, b, rfl, C, hh, hT, k, e, q⟩ := h
  obtain ⟨u1, u2, rfl, r1, r2⟩ := vals2 r
  cases (show u2 = Value.ref tp from r2)
  obtain rfl : u1 = Value.ref a := r1
  obtain ⟨_, its, rv, o, h1, h2, n, h3⟩ := (show ObjOk X.prog X.w H s.heap tp (.tup cs) from I.hok tp _ hT)
  have e3 := ClsV.all k rv
  subst e3
  obtain ⟨oc, od', dt, sl⟩ := o
  simp only at h2 h3
  subst h2 h3
  obtain ⟨oe, od, J⟩ := hh pins σ s I
  have hcl : (PySem.W.clsIn X.K D).isSome = true := by
    have := C.hd
    obtain ⟨cd, hc, _⟩ := PySem.W.any_some this
    rw [hc]
    rfl
  exact PySem.W.kia_tup (PySem.W.kitx_exc hcl C.hg C.hk C.hs C.ha C.hn C.ht C.hm) I.kIn J h1 e (fun z => nomatch z) fun tk => ⟨.bl b, H, I.tok tk, rfl, q⟩
end
end Xw
set_option Elab.async false
set_option linter.all false
set_option maxRecDepth 100000
set_option maxHeartbeats 4000000
/-! Xv: what the written part says of an own exception class over another one that is over Exception; a def that may raise. -/
namespace Xv
open PySem PySem.Spec PyProof.Rows L2 Xe Xu Xw
section
variable {P : Program} {w : World} {K : PySem.W.Frag} {mg : PySem.Str → Option Value} {base : Heap}
/-- a def that may raise -/
theorem okXN {x qual : PySem.Str} {st : Stmt} {f : Addr} {fd : FuncData} {N ps : List PySem.Str} {k : Nat} {sp : Sp} (F : Fun K x qual st f fd) (S : FnScope N ps (defScope st)) (len : ∀ vs H Q E, sp vs H Q E → vs.length = ps.length)
    (hbody : ∀ (cdv : Value) (A : Around) (outer : List Env) (s : Shared) (H : Hp) (vs : List V) (Q : VK) (E : XK), Room k (A.deeper (envOfC qual (defScope st) s.heap.objs.size f cdv)) → sp vs H Q E →
      ∃ t, PSs (cxOf (L2N.CX P w) P w K mg base N qual (defScope st) f cdv A outer s H E) (defBody st) t ∧ t { nx := fun _ H' => Q .non H', rt := Q } (start N vs) H) : FnOk P w K mg base (L2N.CX P w) (k + 1) f fd ps sp := by
  obtain ⟨oc, od, kV, doc, pm, an, cdv, ct, osl, rfl, lk, hcd⟩ := F.ex
  exact fn_of lk hcd S len fun A outer s H vs Q E hr hsp => hbody cdv A outer s H vs Q E hr hsp
end
def mroE (C CF : Addr) : List Value := [.ref C, .ref CF, .type "Exception", .type "BaseException", .type "object"]
/-- all that is asked of such a class -/
def ecB (K : PySem.W.Frag) (C CF : Addr) (gs : List PySem.Str) : Bool :=
  (match K.lookup C with
    | some ⟨.type "type", _, .cls cd, sl⟩ => (match sl.toList with
      | [_, _, _, _, some (.builtin n), _] => n == "Exception.__new__" && (cd.mro == mroE C CF && (!cd.hasDel && cd.hasDict))
      | _ => false)
    | _ => false) &&
  (PySem.W.findIn K (.ref C) "__setattr__" == some (some (.builtin "object.__setattr__")) && (PySem.W.keepIn K (.ref C) &&
  (PySem.W.findIn K (.ref C) "__getattribute__" == some (some (.builtin "BaseException.__getattribute__")) && (PySem.W.findIn K (.ref C) "__getattr__" == some none &&
  (PySem.W.findIn K (.ref C) "__class__" == some (some (.builtin "object.__class__")) && (PySem.W.specialIn K (.builtin "object.__class__") "__get__" == some (some (.builtin "getset_descriptor.__get__")) && (PySem.W.takesIn K (.builtin "object.__class__") == some true &&
  gs.all fun f => PySem.W.findIn K (.ref C) f == some none)))))))
/-- the class at C, over the one at CF, whose instances have the fields gs -/
structure EC (K : PySem.W.Frag) (C CF : Addr) (gs : List PySem.Str) : Prop where
  ox : OxE K C
  xf : XfC K C
  xc : ExcC K C
  no : ∀ f ∈ gs, PySem.W.findIn K (.ref C) f = some none
  mro : ∃ cd, PySem.W.clsIn K C = some cd ∧ cd.mro = mroE C CF
theorem ec_of {K : PySem.W.Frag} {C CF : Addr} {gs : List PySem.Str} (h : ecB K C CF gs = true) : EC K C CF gs := by
  unfold ecB at h
  simp only [Bool.and_eq_true, beq_iff_eq, List.all_eq_true] at h
  obtain ⟨h1, h2, h3, h4, h5, h6, h7, h8, h9⟩ := h
  split at h1
  · rename_i dd cd sl ho
    split at h1
    · rename_i k0 k1 k2 k3 n k5 hs
      simp only [Bool.and_eq_true, beq_iff_eq, Bool.not_eq_true'] at h1
      obtain ⟨rfl, hm, hdel, hdct⟩ := h1
      obtain ⟨nm, bs, mro, ns, qn, hd, sn, sub, ab, col, del⟩ := cd
      dsimp only at hm hdel hdct
      subst hm hdel hdct
      have hsl : sl = #[k0, k1, k2, k3, some (.builtin "Exception.__new__"), k5] := by
        obtain ⟨l⟩ := sl
        simp only at hs
        rw [hs]
      subst hsl
      have hc : PySem.W.clsIn K C = some { name := nm, bases := bs, mro := mroE C CF, ns := ns, qualname := qn, hasDict := true, slotNames := sn, subclasses := sub, abstract := ab, collection := col, hasDel := false } := by
        unfold PySem.W.clsIn
        rw [ho] <;> rfl
      have hm : ∀ v, PySem.W.mroIn K C v = some ((mroE C CF).contains v) := fun v => by
        unfold PySem.W.mroIn
        rw [hc]
        rfl
      have eb : PySem.W.subIn K (.ref C) (.type "BaseException") = some true := (hm _).trans (by rfl)
      have ed : PySem.W.hasDictIn K C = true := by
        unfold PySem.W.hasDictIn
        rw [hc]
        rfl
      exact ⟨⟨⟨nm, qn, ns, bs, [.ref CF, .type "Exception", .type "BaseException", .type "object"], sn, sub, ab, col, dd, k0, k1, k2, k3, k5, ho, rfl⟩, h2, eb, by show (K.lookup C).map (·.cls) = _; rw [ho]; rfl, h3⟩, ⟨h4, h5, eb, ed⟩,
        ⟨h4, h5, eb, ed, h6, h7, h8, (hm _).trans (by rfl)⟩, h9, _, hc, rfl⟩
    · cases h1
  · cases h1
section
variable {K : PySem.W.Frag} {C D CF : Addr} {gs fs : List PySem.Str}
theorem EC.sub (E : EC K D CF gs) (v : Value) : PySem.W.subIn K (.ref D) v = some ((mroE D CF).contains v) := by
  obtain ⟨cd, hc, hm⟩ := E.mro
  show PySem.W.mroIn K D v = _
  unfold PySem.W.mroIn
  rw [hc, Option.bind_some, hm]
  rfl
theorem EC.cls (E : EC K D CF gs) : ((PySem.W.clsIn K D).isSome && PySem.W.typeIn K (.ref D) == some (.type "type")) = true := by
  obtain ⟨cd, hc, hm⟩ := E.mro
  rw [hc, E.ox.tyC]
  rfl
theorem EC.kit (E : EC K D CF gs) (F : EC K C CF fs) (n : C ≠ CF) : PySem.W.kitCls K (.ref D) (.ref C) = some (decide (D = C)) := by
  show (if ((PySem.W.clsIn K C).isSome && PySem.W.typeIn K (.ref C) == some (.type "type")) = true then PySem.W.subIn K (.ref D) (.ref C) else none) = _
  rw [if_pos F.cls, E.sub]
  have n2 : (Value.ref C == Value.ref CF) = false := beq_eq_false_iff_ne.mpr fun z => n (Value.ref.inj z)
  have r : ([Value.type "Exception", .type "BaseException", .type "object"]).contains (Value.ref C) = false := rfl
  congr 1
  show (Value.ref D :: Value.ref CF :: _).contains (Value.ref C) = _
  rw [List.contains_cons, List.contains_cons, n2, r, Bool.or_false, Bool.or_false]
  by_cases e : D = C
  · subst e
    simp
  · rw [decide_eq_false e]
    exact beq_eq_false_iff_ne.mpr fun z => e (Value.ref.inj z).symm
theorem EC.kitOne (E : EC K D CF gs) (F : EC K C CF fs) (n : C ≠ CF) : PySem.W.kitOne K (.ref D) (.ref C) = some (decide (D = C)) := by
  unfold PySem.W.kitOne
  by_cases e : D = C
  · subst e
    rw [if_pos (by simp)]
    simp
  · rw [if_neg (by simpa using e)]
    exact E.kit F n
theorem EC.exm (E : EC K D CF gs) (F : EC K C CF fs) (n : C ≠ CF) : PySem.W.exmOne K (.ref D) (.ref C) = some (decide (D = C)) := by
  unfold PySem.W.exmOne
  rw [if_pos (by rw [F.xf.exC]; rfl)]
  exact E.kit F n
/-- the class at CF itself -/
def cfB (K : PySem.W.Frag) (CF : Addr) : Bool := ((PySem.W.clsIn K CF).isSome && PySem.W.typeIn K (.ref CF) == some (.type "type")) && PySem.W.subIn K (.ref CF) (.type "BaseException") == some true
theorem EC.kitF (E : EC K D CF gs) (h : cfB K CF = true) : PySem.W.kitCls K (.ref D) (.ref CF) = some true := by
  unfold cfB at h
  rw [Bool.and_eq_true] at h
  show (if ((PySem.W.clsIn K CF).isSome && PySem.W.typeIn K (.ref CF) == some (.type "type")) = true then PySem.W.subIn K (.ref D) (.ref CF) else none) = _
  rw [if_pos h.1, E.sub]
  congr 1
  show (Value.ref D :: Value.ref CF :: _).contains (Value.ref CF) = true
  rw [List.contains_cons, List.contains_cons]
  simp
theorem EC.kitOneF (E : EC K D CF gs) (h : cfB K CF = true) : PySem.W.kitOne K (.ref D) (.ref CF) = some true := by
  unfold PySem.W.kitOne
  split
  · rfl
  · exact E.kitF h
theorem EC.exmF (E : EC K D CF gs) (h : cfB K CF = true) : PySem.W.exmOne K (.ref D) (.ref CF) = some true := by
  have h' := h
  unfold cfB at h'
  rw [Bool.and_eq_true] at h'
  unfold PySem.W.exmOne
  rw [if_pos h'.2]
  exact E.kitF h
theorem EC.kitT (E : EC K D CF gs) {T : String} (h : PySem.W.kitMeta T = true) : PySem.W.kitOne K (.ref D) (.type T) = some (([Value.type "Exception", .type "BaseException", .type "object"]).contains (.type T)) := by
  unfold PySem.W.kitOne
  rw [if_neg (by simp)]
  show (if PySem.W.kitMeta T = true then PySem.W.subIn K (.ref D) (.type T) else none) = _
  rw [if_pos h, E.sub]
  unfold mroE
  rw [List.contains_cons, List.contains_cons]
  rfl
end
end Xv
set_option Elab.async false
set_option linter.all false
set_option maxRecDepth 100000
set_option maxHeartbeats 4000000
/-! Xt: try with several except clauses, with and without a name; a def called in an except suite with the exception that is caught. -/
namespace Xt
open PySem PySem.Spec PyProof.Rows L2 L2H
abbrev HdT := Value × Option Nat × (Addr → Value → Option Addr → TS)
/-- the ends of a suite whose name goes -/
def endsA (D : Ends) (i : Nat) : Ends := { nx := fun σ' H' => D.nx (σ'.set i none) H', rt := D.rt, bk := fun σ' H' => D.bk (σ'.set i none) H', ct := fun σ' H' => D.ct (σ'.set i none) H' }
/-- what the clauses wish of an exception of the body, one after the other -/
def wMix (K : PySem.W.Frag) (Wout : WX) (D : Ends) : List HdT → WX
  | [] => Wout
  | (c, none, ts) :: r => fun cls d σ H => ∃ b, PySem.W.exmOne K cls c = some b ∧ (b = true → ∀ a, H a = none → ts a cls d D σ H) ∧ (b = false → wMix K Wout D r cls d σ H)
  | (c, some i, ts) :: r => fun cls d σ H => ∃ b, PySem.W.exmOne K cls c = some b ∧ (b = true → ∀ a, H a = none → ts a cls d (endsA D i) (σ.set i (some (.ref a))) H) ∧ (b = false → wMix K Wout D r cls d σ H)
inductive HdsX (X : Cx) : List ExceptHandler → List HdT → Prop
  | nil : HdsX X [] []
  | bare {x : PySem.Str} {c : Value} {ts : Addr → Value → Option Addr → TS} {b₀ : Stmt} {suite : List Stmt} {np pos' : Pos} {hds : List ExceptHandler} {l : List HdT} (hc : Names X x c)
      (hsu : ∀ (a : Addr) (oe : Obj) (cls : Value) (d : Option Addr) (pn : List (Addr × Obj)), L2N.Zn cls d oe → (∃ vs, oe.data = .fields vs) → PSs (X.suite a ((a, oe) :: pn)) (b₀ :: suite) (ts a cls d)) (r : HdsX X hds l) :
      HdsX X (.ExceptHandler (some (.Name x np)) none (b₀ :: suite) pos' :: hds) ((c, none, ts) :: l)
  | named {x n : PySem.Str} {i : Nat} {c : Value} {ts : Addr → Value → Option Addr → TS} {b₀ : Stmt} {suite : List Stmt} {np pos' : Pos} {hds : List ExceptHandler} {l : List HdT} (hc : Names X x c) (hi : X.N[i]? = some n) (hln : X.env.kindOf n = some .local)
      (hsu : ∀ (a : Addr) (oe : Obj) (cls : Value) (d : Option Addr) (pn : List (Addr × Obj)), L2N.Zn cls d oe → (∃ vs, oe.data = .fields vs) → PSs (X.suite a ((a, oe) :: pn)) (b₀ :: suite) (ts a cls d)) (r : HdsX X hds l) :
      HdsX X (.ExceptHandler (some (.Name x np)) (some n) (b₀ :: suite) pos' :: hds) ((c, some i, ts) :: l)
section
variable {X : Cx} {body : List Stmt} {h₀ : ExceptHandler} {hds : List ExceptHandler} {l : List HdT} {pos : Pos} {tb : WX → TS} {Wout : WX}
theorem ps_try_mix (hs : X.stack = X.env :: X.outer) (hf : X.env.frame = some X.env.locals) (hN : X.N.Nodup) (tk : L2N.Takes X Wout)
    (hb : ∀ (W : WX) (pn : List (Addr × Obj)) (xe : Value → Shared → Prop), L2N.Takes (X.tr pn xe) W → PassesOwn (model X.prog X.w) X.A X.env xe → PSs (X.tr pn xe) body (tb W))
    (hh : HdsX X (h₀ :: hds) l) : PS X (.Try body (h₀ :: hds) [] [] pos) (fun D σ H => tb (wMix X.K Wout D l) D σ H) := by
  refine ⟨fun pins s σ H D I h => ?_⟩
  have ok := I.ok
  have hfr : X.A.frames = some (X.env :: X.outer) := by rw [ok.frames, hs]
  refine wpAny_Try_except (wpAny_mono ((hb (wMix X.K Wout D l) (X.pn ++ pins) (fun e s₁ => wpAny (model X.prog X.w) X.A (noteFrame e X.env) (fun _ s₂ => wpAny (model X.prog X.w) X.A (setFlight e none) (fun _ s₃ =>
    wpAny (model X.prog X.w) X.A (handleBy e X.env (h₀ :: hds)) (SP X pins D) X.xe s₃) X.xe s₂) X.xe s₁) (fun u s' xx => ?_) PassesOwn.looking).run [] s σ H D (I.toTry _) h) (fun f s1 hsp => ?_) (fun e s1 he => he))
  · obtain ⟨a, B, sI, pins', σ', H', cls, d, rfl, J', nb, up, sky, na, os, ag, w⟩ := xx
    have J : Inv X pins σ' H' sI := J'.ofTry ok
    have sky' : Sky B (X.env :: X.outer) a (L2N.Zn cls d) X.env.locals s'.heap := by rw [← hs]; exact sky
    show wpAny (model X.prog X.w) X.A (noteFrame (.ref a) X.env) _ _ _
    refine L2N.Sky.land L2N.Zn.steady hfr hf sky' fun h3 fl3 up3 => ?_
    have J3 : Inv X pins σ' H' { s' with heap := h3 } := J.landed nb fl3.1 (up.trans up3) os ag
    obtain ⟨oe3, vs3, he3, hz3, hd3⟩ := fl3.there
    have nfr : a ∉ frs (X.env :: X.outer) := fun hm => by
      obtain ⟨_, o', e', hnf⟩ := fl3.2.2.1.mem hm
      rw [he3] at e'
      cases e'
      exact hnf _ hd3
    have nL : a ≠ X.env.locals := fun z => nfr (List.mem_filterMap.mpr ⟨X.env, List.mem_cons_self, by rw [hf, z]⟩)
    have nF : a ∉ X.fs := fun hm => by
      obtain ⟨e, he, q⟩ := List.mem_filterMap.mp hm
      exact nfr (List.mem_filterMap.mpr ⟨e, List.mem_cons_of_mem _ he, q⟩)
    have S3 := J3.suite he3 hd3 na nL nF
    have LT : PySem.W.Looks (model X.prog X.w) h3 (typeOf (.ref a)) cls := fun A Q E s k q => wpAny_typeOf_ref (k _ _ he3) (by rw [hz3.1]; exact q)
    have test : ∀ {x : PySem.Str} {c : Value} {np : Pos}, Names X x c → ∀ {Q : Value → Shared → Prop} {E : Value → Shared → Prop}, Q c { s' with heap := h3 } → wpAny (model X.prog X.w) (X.A.mark (some (.ref a))) (eval (.Name x np) X.env) Q E { s' with heap := h3 } := fun {x c np} hc {Q E} q => by
      obtain ⟨hg, hdbg, hm | ⟨hm, hv, hnn⟩⟩ := hc
      · exact ld_glob (X := X.suite a ((a, oe3) :: (X.pn ++ pins))) S3 hg hm q hdbg
      · exact ld_blt (X := X.suite a ((a, oe3) :: (X.pn ++ pins))) S3 hg hm hv q hnn hdbg
    have go : ∀ {hds' : List ExceptHandler} {l' : List HdT}, HdsX X hds' l' → wMix X.K Wout D l' cls d σ' H' →
        wpAny (model X.prog X.w) X.A (handleBy (.ref a) X.env hds') (SP X pins D) X.xe { s' with heap := h3 } := by
      intro hds' l' hk
      induction hk with
      | nil =>
        intro w
        refine wpAny_handleBy_nil ?_
        obtain ⟨k1, k2, k3, oe, vs, T, oT, ts', he, hz, hd, h1, hr⟩ := id fl3
        unfold PySem.passOn
        refine wpAny_bind (wpAny_field he hd h1 ?_)
        rw [if_neg (show ¬ ((Value.ref T == Value.none) = true) from by simp)]
        have fin : wpAny (model X.prog X.w) X.A (setFlight (.ref a) X.env.frame) (fun _ s4 => wpAny (model X.prog X.w) X.A (throw (.ref a) : Sem Flow) (SP X pins D) X.xe s4) X.xe { s' with heap := h3 } := by
          rw [hf]
          exact HandSPX.setFlight_upZ fl3 fun h4 hh4 up4 => wpAny_throw (tk _ _ ⟨a, B, sI, pins, σ', H', cls, d, rfl, J, nb, (up.trans up3).trans up4, .inr (.inr (by rw [hs]; exact hh4)), na, os, ag, w⟩)
        first
          | exact wpAny_bind (wpAny_pure (wpAny_bind fin))
          | exact wpAny_bind fin
      | @bare x c ts b₀ suite np pos' hds2 l2 hc hsu r ih =>
        intro w
        obtain ⟨b, hb1, hyes, hno⟩ := w
        refine wpAny_handleBy_cons (codeAny_handlers_test (test hc ((PySem.W.exm_one (M := model X.prog X.w) J3.kIn LT hb1).here ?_))) (by intro q; cases q)
        cases b with
        | false => exact ih (hno rfl)
        | true =>
          refine codeAny_handlers_suite (HandSPX.lands_againZ fl3 fun h4 fl4 up4 => ?_)
          have J4 : Inv X pins σ' H' { s' with heap := h4 } := J.landed nb fl4.1 ((up.trans up3).trans up4) os ag
          obtain ⟨oe4, vs4, he4, hz4, hd4⟩ := fl4.there
          have S4 := J4.suite he4 hd4 na nL nF
          refine wpAny_mono ((hsu a oe4 cls d (X.pn ++ pins) hz4 ⟨_, hd4⟩).run [] _ _ H' _ S4 (hyes rfl a na)) (fun f s6 hsp => ?_) (fun _ _ z => False.elim z)
          cases f with
          | next => exact let ⟨σ6, H6, S6, q6⟩ := hsp; ⟨_, _, S6.unsuite ok, q6⟩
          | brk => exact let ⟨σ6, H6, S6, q6⟩ := hsp; ⟨_, _, S6.unsuite ok, q6⟩
          | cont => exact let ⟨σ6, H6, S6, q6⟩ := hsp; ⟨_, _, S6.unsuite ok, q6⟩
          | ret u => exact let ⟨v6, σ6, H6, S6, r6, q6⟩ := hsp; ⟨_, _, _, S6.unsuite ok, r6, q6⟩
      | @named x n i c ts b₀ suite np pos' hds2 l2 hc hi hln hsu r ih =>
        intro w
        obtain ⟨b, hb1, hyes, hno⟩ := w
        refine wpAny_handleBy_cons (codeAny_handlers_test (test hc ((PySem.W.exm_one (M := model X.prog X.w) J3.kIn LT hb1).here ?_))) (by intro q; cases q)
        cases b with
        | false => exact ih (hno rfl)
        | true =>
          refine codeAny_handlers_suite_as (HandSPX.lands_againZ fl3 fun h4 fl4 up4 => ?_)
          have J4 : Inv X pins σ' H' { s' with heap := h4 } := J.landed nb fl4.1 ((up.trans up3).trans up4) os ag
          obtain ⟨oe4, vs4, he4, hz4, hd4⟩ := fl4.there
          have S4 := J4.suite he4 hd4 na nL nF
          have hloc : Loc X.env.scope n := .inl hln
          refine store_ok (X := X.suite a ((a, oe4) :: (X.pn ++ pins))) (v := .ref a) S4 hN hi hloc rfl (fun s5 S5 => ?_) (.inr hln)
          refine wpAny_mono ((hsu a oe4 cls d (X.pn ++ pins) hz4 ⟨_, hd4⟩).run [] s5 _ H' _ S5 (hyes rfl a na)) (fun f s6 hsp => ?_) (fun _ _ z => False.elim z)
          have end_ : ∀ {σ6 : L2.St} {H6 : Hp} {Q : Shared → Prop}, Inv (X.suite a ((a, oe4) :: (X.pn ++ pins))) [] σ6 H6 s6 → (∀ s7, Inv X pins (σ6.set i none) H6 s7 → Q s7) →
              wpAny (model X.prog X.w) X.A (do bindName X.env n .none; unbindBehindTheSuite X.env n pos') (fun _ s7 => Q s7) X.xe s6 := fun {σ6 H6 Q} S6 hq => gone_ok (S6.unsuite ok) hN hi hln hq
          cases f with
          | next => exact let ⟨σ6, H6, S6, q6⟩ := hsp; end_ S6 fun s7 J7 => ⟨_, _, J7, q6⟩
          | brk => exact let ⟨σ6, H6, S6, q6⟩ := hsp; end_ S6 fun s7 J7 => ⟨_, _, J7, q6⟩
          | cont => exact let ⟨σ6, H6, S6, q6⟩ := hsp; end_ S6 fun s7 J7 => ⟨_, _, J7, q6⟩
          | ret u => exact let ⟨v6, σ6, H6, S6, r6, q6⟩ := hsp; end_ S6 fun s7 J7 => ⟨_, _, _, J7, r6, q6⟩
    exact go hh w
  · cases f with
    | next => exact let ⟨σ', H', J', q⟩ := hsp; wpAny_execs_nil ⟨σ', H', J'.ofTry ok, q⟩
    | brk => exact let ⟨σ', H', J', q⟩ := hsp; ⟨σ', H', J'.ofTry ok, q⟩
    | cont => exact let ⟨σ', H', J', q⟩ := hsp; ⟨σ', H', J'.ofTry ok, q⟩
    | ret u => exact let ⟨v, σ', H', J', r, q⟩ := hsp; ⟨v, σ', H', J'.ofTry ok, r, q⟩
end
/-- what is known of the exception that is caught -/
def CtP (p : Addr × Obj) (cls : Value) (d : Option Addr) : Prop := L2N.Zn cls d p.2 ∧ ∃ vs, p.2.data = .fields vs
/-- a def's promise in an except suite; a, cls, d: the exception that is caught, its class, its dict -/
structure FnP (P : Program) (w : World) (K : PySem.W.Frag) (mg : PySem.Str → Option Value) (base : Heap) (k : Nat) (f : Addr) (fd : FuncData) (ps : List PySem.Str) (sp : Addr → Value → Option Addr → Sp) : Prop where
  len : ∀ a c d vs H Q E, sp a c d vs H Q E → vs.length = ps.length
  run : ∀ (A : Around) (outer : List Env) (s : Shared) (H : Hp) (args : Args) (us : List Value) (vs : List V) (Q : VK) (p : Addr × Obj) (c : Value) (d : Option Addr), CtP p c d → RoomH k A → Hot1 A p → PinOk outer H s p → Env0 P w K mg base A outer s H → BindsTo s fd args (ps.zip us) → Vals vs us → sp p.1 c d vs H Q E0 →
    codeAny (model P w) A (.call (.ref f) args) (CR CX0 outer P w H s Q E0) s
section
variable {P : Program} {w : World} {K : PySem.W.Frag} {mg : PySem.Str → Option Value} {base : Heap}
theorem okP {x qual : PySem.Str} {st : Stmt} {f : Addr} {fd : FuncData} {N ps : List PySem.Str} {k : Nat} {sp : Addr → Value → Option Addr → Sp} (F : Fun K x qual st f fd) (S : FnScope N ps (defScope st))
    (len : ∀ a c d vs H Q E, sp a c d vs H Q E → vs.length = ps.length)
    (hbody : ∀ (cdv : Value) (A : Around) (outer : List Env) (s : Shared) (H : Hp) (vs : List V) (Q : VK) (p : Addr × Obj) (c : Value) (d : Option Addr), CtP p c d → Hot1 A p → RoomH k (A.deeper (envOfC qual (defScope st) s.heap.objs.size f cdv)) → sp p.1 c d vs H Q E0 →
      ∃ t, PSs (cxH CX0 P w K mg base N qual (defScope st) f cdv A outer s H E0 p) (defBody st) t ∧ t { nx := fun _ H' => Q .non H', rt := Q } (L2.start N vs) H) :
    FnP P w K mg base (k + 1) f fd ps sp := by
  obtain ⟨oc, od, kV, doc, pm, an, cdv, ct, osl, rfl, lk, hcd⟩ := F.ex
  refine ⟨len, fun A outer s H args us vs Q p c d hz hr hot hpin e0 hb r hsp => ?_⟩
  have hl := len _ _ _ _ _ _ _ hsp
  have kept : ∀ b o, base.get? b = some o → s.heap.get? b = some o := fun b o e => (e0.bs b o e).1
  have known : ∀ y ∈ ps.zip us, (defScope st).names.lookup y.1 = some .local ∨
      ((defScope st).names.lookup y.1 = some .cell ∧ ((cellsFrom (s.heap.objs.size + 1) (defScope st).names []).lookup y.1).isSome = true) := fun ⟨n, v⟩ hy =>
    (S.par n (List.of_mem_zip hy).1).elim .inl fun q => .inr ⟨q, PySem.W.cellsFrom_some _ _ _ (.inl q)⟩
  refine codeAny_call_function hr.depth (e0.mod.kin.keeps kept _ _ lk) rfl S.co S.gen rfl (PySem.W.codeRec_of (e0.mod.kin.keeps kept) hcd) (hb _ _ _ _ ?_)
  refine wpAny_newFunctionEnv_cells S.kind known fun env he s1 x => ?_
  subst he
  refine ⟨(e0.mod.nolimit.keeps kept).keeps x.toInCall.keep, codeAny_func ?_⟩
  obtain ⟨t, ht, hq⟩ := hbody cdv A outer s H vs Q p c d hz hot (hr.deeper _) hsp
  refine wpAny_mono (ht.run [] s1 (L2.start N vs) H _ (inv_startH S hpin e0 hl r x) hq) (fun fl s' hs => ?_) fun e s' hs => hs
  cases fl with
  | ret u =>
    obtain ⟨v, σ', H', J, rv, q⟩ := hs
    exact ⟨v, H', J.os, J.bare, J.base, J.hok, rv, q⟩
  | next =>
    obtain ⟨σ', H', J, q⟩ := hs
    exact ⟨V.non, H', J.os, J.bare, J.base, J.hok, rfl, q⟩
  | brk => exact hs.elim fun _ z => z.elim fun _ z => z.2.elim
  | cont => exact hs.elim fun _ z => z.elim fun _ z => z.2.elim
end
section
variable {X : Cx} {k : Nat} {f : Addr} {fd : FuncData} {ps : List PySem.Str} {sp : Addr → Value → Option Addr → Sp} {x : PySem.Str} {q pos : Pos} {e : Expr} {es : List Expr} {t : TA} {a : Addr} {oe : Obj} {cls : Value} {d : Option Addr}
theorem pe_callP (F : FnP X.prog X.w X.K X.mg X.base k f fd ps sp) (hr : RoomH k X.A) (hz : L2N.Zn cls d oe) (hf : ∃ vs, oe.data = .fields vs) (hh : X.A.handled = some (.ref a)) (hp : (a, oe) ∈ X.pn) (hg : Gl X x) (hm : X.mg x = some (.ref f)) (hk : PySem.W.keepIn X.K (.ref f) = true) (hb : Binds X.K fd ps [])
    (ha : PA X (e :: es) t) (hdb : (x == ("__debug__" : PySem.Str)) = false := by decide) (he : starEach (e :: es) X.env = (false, eval e X.env) :: starEach es X.env := by rfl) (hpl : (backTo pos (starEach es X.env)).any (·.1) = false := by rfl) :
    PE X (.Call (.Name x q) (e :: es) [] pos) (fun σ H Q => t σ H fun vs H1 => sp a cls d vs H1 Q E0) := by
  refine ⟨fun pins s σ H Q I h => wpAny_Call_Name_kw (ld_glob I hg hm ?_ hdb)⟩
  refine PySem.W.callWith_K (h₀ := X.base) I.ok.mod.kin hk (thn (ha.run pos pins s σ H _ I h) fun us s1 ⟨vs, H1, I1, r, q⟩ => ⟨I1.kIn, ?_⟩) he hpl
  have hl : us.length = ps.length := by rw [← r.length]; exact F.len _ _ _ _ _ _ _ q
  have b := hb s1 us I1.kIn (by rw [List.append_nil]; exact hl)
  rw [List.append_nil] at b
  have P1 := I1.pin (a, oe) (List.mem_append_left _ hp)
  have hpin : PinOk X.stack H1 s1 (a, oe) := ⟨P1.1, P1.2.1, fun hm => (List.mem_cons.mp (I1.stkSub a hm)).elim P1.2.2.1 P1.2.2.2.1, P1.2.2.2.2⟩
  obtain ⟨vs0, hv0⟩ := hf
  refine wpAny_call (codeAny_mono (F.run X.A X.stack s1 H1 ⟨us, []⟩ us vs Q (a, oe) cls d ⟨hz, vs0, hv0⟩ hr ⟨hh, vs0, hv0, hz.2.2 vs0 hv0⟩ hpin I1.env0 b r q) fun r s' hq => ?_)
  cases r with
  | error e => exact hq.elim
  | ok fl =>
    cases fl with
    | ret u => exact I1.after hq
    | next => exact hq.elim
    | brk => exact hq.elim
    | cont => exact hq.elim
end
/-- room for a def in a suite -/
theorem room_suite {k : Nat} {A : Around} (r : Room k A) (h : Option Value) : RoomH k (A.mark h) := ⟨r.dp, r.un⟩
theorem takes0 {X : Cx} : L2N.Takes X (fun _ _ _ _ => False) := fun _ _ ⟨_, _, _, _, _, _, _, _, _, _, _, _, _, _, _, _, z⟩ => z.elim
end Xt
set_option Elab.async false
set_option linter.all false
set_option maxRecDepth 100000
set_option maxHeartbeats 4000000
/-! Xo: x == y and y in x by an own __eq__, __contains__ of x, any answer; isinstance(x, C) of any value. -/
namespace Xo
open PySem PySem.Spec PyProof.Rows L2 Zv
/-- what is asked of the class -/
def insB (K : PySem.W.Frag) (C : Addr) : Bool :=
  PySem.W.findIn K (.ref C) "__class__" == some (some (.builtin "object.__class__")) && (PySem.W.specialIn K (.builtin "object.__class__") "__get__" == some (some (.builtin "getset_descriptor.__get__")) && (PySem.W.takesIn K (.builtin "object.__class__") == some true &&
  (PySem.W.mroIn K C (.type "object") == some true && ((PySem.W.clsIn K C).isSome && PySem.W.typeIn K (.ref C) == some (.type "type")))))
section
variable {K : PySem.W.Frag} {C : Addr}
theorem ins_ty (h : insB K C = true) {H : Hp} {a dx : Addr} {fs : List (PySem.Str × V)} (cl : Cls K C) (e : H a = some (.ins C dx fs)) : TyX K H (.ref a) (.ref C) := by
  unfold insB at h
  simp only [Bool.and_eq_true, beq_iff_eq] at h
  obtain ⟨h1, h2, h3, h4, h5⟩ := h
  exact .base (.ins e cl h1 h2 h3 h4)
theorem kit_me (K : PySem.W.Frag) (C : Addr) : PySem.W.kitOne K (.ref C) (.ref C) = some true := by
  unfold PySem.W.kitOne
  rw [if_pos (by simp)]
theorem sub_ty (K : PySem.W.Frag) (C : Addr) : ∀ t ∈ TYS, PySem.W.subIn K (.type t) (.ref C) = some false := by
  intro t ht
  simp only [TYS, List.mem_cons, List.not_mem_nil, or_false] at ht
  rcases ht with rfl | rfl | rfl | rfl | rfl | rfl | rfl <;> rfl
theorem kit_no (h : insB K C = true) : ∀ t ∈ TYS, PySem.W.kitOne K (.type t) (.ref C) = some false := by
  intro t ht
  unfold insB at h
  simp only [Bool.and_eq_true, beq_iff_eq] at h
  obtain ⟨_, _, _, _, h5, h6⟩ := h
  unfold PySem.W.kitOne
  rw [if_neg (by simp)]
  show (if ((PySem.W.clsIn K C).isSome && PySem.W.typeIn K (.ref C) == some (.type "type")) = true then PySem.W.subIn K (.type t) (.ref C) else none) = some false
  rw [if_pos (by rw [h5, h6]; rfl)]
  exact sub_ty K C t ht
theorem not_first (K : PySem.W.Frag) (C : Addr) : ∀ t ∈ TYS, PySem.W.notFirst K C (.type t) = true := by
  intro t ht
  unfold PySem.W.notFirst
  rw [sub_ty K C t ht]
  rfl
theorem not_first_me (K : PySem.W.Frag) (C : Addr) : PySem.W.notFirst K C (.ref C) = true := by
  unfold PySem.W.notFirst
  simp
end
section
variable {X : Cx} {k : Nat} {C f : Addr} {fd : FuncData} {ps : List PySem.Str} {sp : Sp}
/-- x == y, x an instance of the class at C -/
def rEqO (K : PySem.W.Frag) (C : Addr) (sp : Sp) : R2 := fun x y H Q => ∃ (a dx : Addr) (fs : List (PySem.Str × V)) (tb : Value), x = .ref a ∧ H a = some (.ins C dx fs) ∧ TyX K H y tb ∧ PySem.W.notFirst K C tb = true ∧ sp [x, y] H (fun v H' => ∃ b, v = .bl b ∧ Q (.bl b) H') E0
theorem run_own {pins : List (Addr × Obj)} {σ : L2.St} {H : Hp} {s : Shared} {x y : V} {u v : Value} {Q : VK} {R : Value → Shared → Prop} (F : FnOk X.prog X.w X.K X.mg X.base CX0 k f fd ps sp) (hr : Room k X.A) (hb : Binds X.K fd ps []) (I : Inv X pins σ H s) (rx : RelV x u) (ry : RelV y v)
    (h : sp [x, y] H (fun v H' => ∃ b, v = .bl b ∧ Q (.bl b) H') E0) (q : ∀ b H' s', Inv X pins σ H' s' → Q (.bl b) H' → R (.bool b) s') : wpAny (model X.prog X.w) X.A (call (.ref f) [u, v]) R X.xe s := by
  have hl := F.len _ _ _ _ h
  have r2 : Vals [x, y] [u, v] := .cons rx (.cons ry .nil)
  refine wpAny_call (codeAny_mono (F.run X.A X.stack s H ⟨[u, v], []⟩ [u, v] [x, y] _ E0 hr I.env0 (by
    have := hb s [u, v] I.kIn (by simpa using hl)
    simpa using this) r2 h) fun r s' hq => ?_)
  cases r with
  | error e => exact hq.elim
  | ok fl =>
    cases fl with
    | ret w =>
      obtain ⟨z, H', I', rz, b, ez, q'⟩ := I.after hq
      subst ez
      cases rz
      exact q b H' s' I' q'
    | next => exact hq.elim
    | brk => exact hq.elim
    | cont => exact hq.elim
theorem op_eqO (F : FnOk X.prog X.w X.K X.mg X.base CX0 k f fd ps sp) (hr : Room k X.A) (hb : Binds X.K fd ps []) (hs : PySem.W.findIn X.K (.ref C) "__eq__" = some (some (.ref f))) (hf : PySem.W.isFn X.K (.ref f) = true) : OpR X (compareOp .Eq) (rEqO X.K C sp) := by
  intro pins s σ H x y u v Q I rx ry h
  obtain ⟨a, dx, fs, tb, rfl, ha, ty, nf, hsp⟩ := h
  cases rx
  obtain ⟨mA, J, _⟩ := ins_get I.hok ha
  obtain ⟨od, J, _⟩ := J.look
  obtain ⟨Pz, Z, p, _⟩ := kit_of I ry ty
  obtain ⟨m, hF⟩ := I.fr
  show wpAny (model X.prog X.w) X.A (richCompare .Eq (.ref a) v) (EP X pins σ Q) X.xe s
  refine PySem.W.cmp_K (op := .Eq) (tb := tb) (by have := hr.un; omega) hF I.ok.mod.kin J (Z.ty _ _ I.kIn p) nf hs hf ?_
  exact run_own (x := .ref a) F hr hb I rfl ry hsp fun b H' s' I' q => ⟨.bl b, H', I', rfl, q⟩
/-- y in x, x an instance of the class at C -/
def rInO (C : Addr) (sp : Sp) : R2 := fun y x H Q => ∃ (a dx : Addr) (fs : List (PySem.Str × V)), x = .ref a ∧ H a = some (.ins C dx fs) ∧ sp [x, y] H (fun v H' => ∃ b, v = .bl b ∧ Q (.bl b) H') E0
theorem op_inO (F : FnOk X.prog X.w X.K X.mg X.base CX0 k f fd ps sp) (hr : Room k X.A) (hb : Binds X.K fd ps []) (hs : PySem.W.findIn X.K (.ref C) "__contains__" = some (some (.ref f))) (hf : PySem.W.isFn X.K (.ref f) = true) : OpR X (compareOp .In) (rInO C sp) := by
  intro pins s σ H y x v u Q I ry rx h
  obtain ⟨a, dx, fs, rfl, ha, hsp⟩ := h
  cases rx
  obtain ⟨mA, J, _⟩ := ins_get I.hok ha
  obtain ⟨od, J, _⟩ := J.look
  obtain ⟨m, hF⟩ := I.fr
  refine PySem.W.in_K hF I.ok.mod.kin J hs hf ?_
  exact run_own (x := .ref a) F hr hb I rfl ry hsp fun b H' s' I' q => wpAny_truthy_bool ⟨.bl b, H', I', rfl, q⟩
end
end Xo
set_option Elab.async false
set_option linter.all false
set_option maxRecDepth 100000
set_option maxHeartbeats 4000000
/-! Xn: for k, x in enumerate(t), t a tuple. -/
namespace PySem
namespace XnP
open AutoSeq1 (wpAny_loadPart')
theorem meets_newT (l : Addr) (items : Array Value) (n : Nat) (dct : Option Addr) (sl : Array (Option Value)) :
    Meets (Builtin.«enumerate.__new__» ⟨[.type "enumerate", .ref l], []⟩) (fun _ R s => s.heap.get? l = some { cls := .type "tuple", dict := dct, data := .seq items n, slots := sl } ∧
      R (.ok (.ret (.ref (s.heap.push { cls := .type "tuple_iterator", data := .fields #[.ref l, .int 0 0] }).objs.size)))
        { s with heap := (s.heap.push { cls := .type "tuple_iterator", data := .fields #[.ref l, .int 0 0] }).push { cls := .type "enumerate", data := .fields #[.none, .bool false, .ref s.heap.objs.size, rawInt 0, .none, .none] } }) :=
  .of_wp fun prog w A R s h => by
    obtain ⟨hp, g, d, tk, os⟩ := s
    obtain ⟨hl, h⟩ := h
    have hsub := sub_enumerate
    have hT : Heap.IsTuple (Shared.heap ⟨hp, g, d, tk, os⟩) l items := ⟨_, hl, rfl, n, rfl⟩
    wp_walk using wpAny_loadPart' hl
    refine wpAny_stack_any fun st => wpAny_pure ?_
    split
    · rename_i c _ _ _ _ _
      cases (c == Value.type "enumerate")
      · wp_walk using wpAny_loadPart' hl, wpAny_pyIter_tuple hT
        exact ⟨_, rfl, h⟩
      · wp_walk using wpAny_loadPart' hl, wpAny_pyIter_tuple hT
        exact ⟨_, rfl, h⟩
    · wp_walk using wpAny_loadPart' hl, wpAny_pyIter_tuple hT
      exact ⟨_, rfl, h⟩
section
variable {prog : Program} {w : World} {A : Around} {E : Value → Shared → Prop} {s : Shared}
theorem call_enumT {l : Addr} {items : Array Value} {Q : Value → Shared → Prop} (hL : s.heap.IsTuple l items)
    (h : ∀ h', IsEnum h' (s.heap.objs.size + 1) s.heap.objs.size 0 .none → h'.IsTupleIter s.heap.objs.size l 0 → h'.objs.size = s.heap.objs.size + 2 →
      (∀ b o, s.heap.get? b = some o → h'.get? b = some o) → Q (.ref (s.heap.objs.size + 1)) { s with heap := h' }) :
    wpAny (model prog w) A (call (.type "enumerate") [.ref l]) Q E s := by
  obtain ⟨⟨c, dct, dt, sl⟩, hl, hc, n, hd⟩ := hL
  replace hc : c = .type "tuple" := hc
  replace hd : dt = .seq items n := hd
  subst hc hd
  refine callType_new F.called_enumerate (by decide) (F.typeCall_enumerate_1 _) (F.newCall_enumerate_1 _) (fun obj => F.args_object_init_2 obj _) F.entry_enumerate_new
    (meets_newT l items n dct sl) ⟨hl, ?_⟩
  have hz : (s.heap.push { cls := .type "tuple_iterator", data := .fields #[.ref l, .int 0 0] }).objs.size = s.heap.objs.size + 1 := Heap.size_push ..
  show _ ∧ _
  rw [hz]
  have he : IsEnum ((s.heap.push { cls := .type "tuple_iterator", data := .fields #[.ref l, .int 0 0] }).push
      { cls := .type "enumerate", data := .fields #[.none, .bool false, .ref s.heap.objs.size, rawInt 0, .none, .none] }) (s.heap.objs.size + 1) s.heap.objs.size 0 .none := by
    have := Heap.get?_push_size (s.heap.push { cls := .type "tuple_iterator", data := .fields #[.ref l, .int 0 0] })
      (o := { cls := .type "enumerate", data := .fields #[.none, .bool false, .ref s.heap.objs.size, rawInt 0, .none, .none] }) rfl
    rw [hz] at this
    exact this
  exact ⟨⟨_, he, rfl⟩, h _ he ⟨_, Heap.get?_push_of_some _ (Heap.get?_push_size _ rfl), rfl, rfl⟩ (by rw [Heap.size_push, hz]) fun b o x => Heap.get?_push_of_some _ (Heap.get?_push_of_some _ x)⟩
end
end XnP
end PySem
namespace Xn
open PySem PySem.Spec PyProof.Rows L2
/-- the tuple at a, each item in a new pair -/
def IteT (K : PySem.W.Frag) (a : Addr) : It :=
  ⟨fun i H => ∃ (xs : List V) (x : V), SqT K H a xs ∧ xs[i]? = some x, fun i H v H' => ∃ T x, v = .ref T ∧ H T = none ∧ H' = upd H T (.tup [.int (i : Nat), x]) ∧ ∀ xs, SqT K H a xs → xs[i]? = some x, fun i H => ∃ xs : List V, SqT K H a xs ∧ xs.length ≤ i⟩
theorem turn_enumT {P : Program} {w : World} {K : PySem.W.Frag} {elts : List Expr} {kk : Nat} {tpos : Pos} (a e it : Addr) :
    Turn P w K (.Tuple elts kk tpos) (IteT K a) [e, it] e (fun i h => (∃ old, IsEnum h e it ((i : Nat) : Int) old) ∧ h.IsTupleIter it a i ∧ e ≠ it ∧ a ≠ it ∧ a ≠ e) where
  mem := by simp
  obj := fun i h st b hb => by
    obtain ⟨⟨old, he⟩, ⟨o, ho, hc, hd⟩, _⟩ := st
    have e' : b = e ∨ b = it := by simpa using hb
    rcases e' with z | z
    · rw [z]; exact ⟨_, he, fun v q => nomatch q⟩
    · rw [z]; exact ⟨o, ho, fun v q => by rw [hd] at q; cases q⟩
  keep := fun i h h' st k => let ⟨⟨old, he⟩, hi, hne⟩ := st; ⟨⟨old, k e (by simp) _ he⟩, hi.at fun o q => k it (by simp) o q, hne⟩
  item := by
    intro X hP hw hK hc i pins s σ H E I hf st hg
    subst hP hw hK
    obtain ⟨⟨old, he⟩, hit, hne, hai, hae⟩ := st
    obtain ⟨xs, x, hq, hx⟩ := hg
    obtain ⟨its, rv, p, hz⟩ := I.tuple hq
    obtain ⟨u, hu, ru⟩ := rv.get hx
    have hel : e < s.heap.objs.size := Heap.lt_size he
    have hil : it < s.heap.objs.size := by obtain ⟨_, q, _⟩ := hit; exact Heap.lt_size q
    have hlt : i < its.toArray.size := by
      have := (List.getElem?_eq_some_iff.mp hu).1
      simpa using this
    have D := Draws.tuple (prog := X.prog) (w := X.w) (A := X.A.in1) (by exact I.ok.hd hc) it a hai its.toArray
    refine wpAny_pyNext_enum_itemD D he ⟨hit, show s.heap.IsTuple a its.toArray from p⟩ hlt hne (by simp only [List.mem_cons, List.not_mem_nil, or_false, not_or]; exact ⟨hne, Ne.symm hae⟩) fun y h' tk hy ho hit' hT hsz hk => ?_
    obtain rfl : y = u := by
      have hu' : its.toArray[i]? = some u := by simpa using hu
      rw [hu'] at hy
      exact (Option.some.inj hy).symm
    refine ⟨_, rfl, wpAny_letOwnedTupleGo_enum (s := { s with heap := h', toks := tk + 1 }) ho fun h'' he' sb => ?_⟩
    have hT2 : h''.get? s.heap.objs.size = some { cls := .type "tuple", data := .seq #[.int i tk, y] } := (sb.2 _ (Nat.ne_of_gt hel)).trans hT
    have new : ObjOk X.prog X.w (upd H s.heap.objs.size (.tup [.int (i : Nat), x])) h'' s.heap.objs.size (.tup [.int (i : Nat), x]) :=
      ⟨by show 2 ≤ sizeLine; decide, [.int i tk, y], .cons ⟨_, rfl⟩ (.cons ru .nil), ⟨_, hT2, rfl, _, rfl⟩⟩
    have I1 : Inv X pins σ (upd H s.heap.objs.size (.tup [.int (i : Nat), x])) { s with heap := h'', toks := tk + 1 } :=
      I.turnedNew (ch := [e, it]) (fun b ob hb q => (sb.2 b (fun z => hb (by simp [z]))).trans (hk b ob (fun z => hb (by simp [z])) (fun z => hb (by simp [z])) q)) hf (Nat.le_refl _) new
    refine ⟨.ref s.heap.objs.size, _, I1, rfl, ⟨_, x, rfl, I.hok.fresh (Nat.le_refl _), rfl, fun ys hy => by rw [I.tuple_inj hy hq]; exact hx⟩, ⟨⟨y, ?_⟩, hit'.1.at fun o q => (sb.2 it (Ne.symm hne)).trans q, hne, hai, hae⟩, fun b hb => ?_⟩
    · have e1 : ((i + 1 : Nat) : Int) = (i : Int) + 1 := by omega
      rw [e1]; exact he'
    · have hb' : b < s.heap.objs.size := by
        have e' : b = e ∨ b = it := by simpa using hb
        rcases e' with z | z
        · rw [z]; exact hel
        · rw [z]; exact hil
      rw [upd_ne (Nat.ne_of_lt hb')]
      exact (hf b hb).1
  done := by
    intro X hP hw hK hc i pins s σ H E I hf st hg
    subst hP hw hK
    obtain ⟨⟨old, he⟩, hit, hne, hai, hae⟩ := st
    obtain ⟨xs, hq, hx⟩ := hg
    obtain ⟨its, rv, p, hz⟩ := I.tuple hq
    obtain ⟨f0, f1, f2, f3, f4, f5⟩ := hf it (by simp)
    have hl := rv.length
    have hT : Shared.TypeIs s (.ref e) "enumerate" := ⟨_, he, rfl⟩
    unfold pyNext
    refine wpAny_bind (wpAny_attempt (wpAny_callSpecial?_slot (name := Str.ofString "__next__") hT F.slot_enumerate_next
      (wpAny_call_entry F.slot_enumerate_next hT F.entry_enumerate_next ?_ (F.args_enumerate_next_1 _))))
    show wpAny _ _ (field (.ref e) 2 >>= _) _ _ _
    refine wpAny_bind (wpAny_field he rfl (x := .ref it) rfl ?_)
    refine wpAny_bind (wpAny_nextOf_tuple_end (by exact I.ok.hd hc) hit (show s.heap.IsTuple a its.toArray from p) (by simp; omega) fun h' x he' hx' => ?_)
    obtain ⟨o, ho, hc'⟩ := hx'
    refine wpAny_bind (wpAny_isInstance (T := "StopIteration") (b := true) ⟨o, ho, hc'⟩ isSubtype_stop ?_)
    exact wpAny_pure ⟨rfl, I.turned (t' := s.toks) (fun b o hb q => he' b o hb q) f0 f1 f3 f4 f5⟩
  self := fun A i s Q E st h => let ⟨⟨_, he⟩, _⟩ := st; wpAny_pyIter_enum he h
def iEnumT (K : PySem.W.Frag) (ta : TA) : TI := fun σ H R => ta σ H fun vs H1 => ∃ a xs, vs = [.ref a] ∧ SqT K H1 a xs ∧ R (IteT K a) H1
theorem pi_enumT {X : Cx} {e : Expr} {ta : TA} {p pos tpos : Pos} {elts : List Expr} {kk : Nat} (hg : Gl X "enumerate") (hm : X.mg "enumerate" = none) (ha : PA X [e] ta) (hs : starEach [e] X.env = [(false, eval e X.env)] := by rfl) :
    PI X (.Tuple elts kk tpos) (.Call (.Name "enumerate" p) [e] [] pos) (iEnumT X.K ta) := by
  refine ⟨fun pins s σ H R I h => ?_⟩
  refine Call_ (ld_blt I hg hm boot_enumerate (PyProof.Rows.callWith_type1 (thn (ha.run pos pins s σ H _ I h) fun us s1 ⟨vs, H1, I1, r1, q1⟩ => ?_) hs rfl))
  obtain ⟨a, xs, ex, hq, q⟩ := q1
  subst ex
  cases r1 with
  | cons r rr =>
    cases rr
    cases r
    obtain ⟨its, rv, p', hz⟩ := I1.tuple hq
    have hal : a < s1.heap.objs.size := by obtain ⟨o, ho, _⟩ := p'; exact Heap.lt_size ho
    refine PySem.XnP.call_enumT (show s1.heap.IsTuple a its.toArray from p') fun h' he hit hsz hk => wpAny_pyIter_enum he ?_
    have I2 : Inv X pins σ H1 { s1 with heap := h' } := I1.kept (t' := s1.toks) hk
    refine ⟨s1.heap.objs.size + 1, [s1.heap.objs.size + 1, s1.heap.objs.size], _, _, H1, rfl, I2, turn_enumT a (s1.heap.objs.size + 1) s1.heap.objs.size, ⟨⟨.none, he⟩, hit, Nat.succ_ne_self _, Nat.ne_of_lt hal, Nat.ne_of_lt (Nat.lt_succ_of_lt hal)⟩, fun b hb => ?_, q⟩
    have e' : b = s1.heap.objs.size + 1 ∨ b = s1.heap.objs.size := by simpa using hb
    have hle : s1.heap.objs.size ≤ b := by
      rcases e' with z | z
      · rw [z]; exact Nat.le_add_right _ _
      · rw [z]; exact Nat.le_refl _
    exact I1.fpOk hle (I1.hok.fresh hle)
theorem walk_enumT {K : PySem.W.Frag} {a : Addr} {xs : List V} : Walk (IteT K a) xs.length (fun H => SqT K H a xs) (YPair (fun i => some (.int (i : Nat))) (fun i => xs[i]?)) := by
  refine ⟨fun i _ hi q => ⟨xs, xs[i], q, by simp [hi]⟩, fun _ q => ⟨xs, q, Nat.le_refl _⟩, fun i H v H' _ q y => ?_⟩
  obtain ⟨T, x, h1, h2, h3, h4⟩ := y
  exact ⟨T, .int (i : Nat), x, h1, h2, h3, rfl, h4 xs q⟩
end Xn
set_option Elab.async false
set_option linter.all false
set_option maxRecDepth 100000
set_option maxHeartbeats 4000000
/-! Xc: a class's method called where what is wished of a raise hangs on the names (in a try); C(..) by the module's name of a class whose __init__ has a star and keyword-only parameters, some of which may lack. -/
namespace Xc
open PySem PySem.Spec PyProof.Rows L2 ClX
section
variable {X : Cx} {pins : List (Addr × Obj)} {σ : L2.St} {H : Hp} {s : Shared} {C g : Addr}
theorem run_cmS {CX : CXT} {k : Nat} {q : Addr} {fd : FuncData} {ps : List PySem.Str} {sp : Sp} {E : XK} {Q : VK} {us : List Value} {vs : List V} (F : FnOk X.prog X.w X.K X.mg X.base CX k g fd ps sp) (hr : Room k X.A) (hb : Binds X.K fd ps []) (hx : PassesAt CX X σ E)
    (I : Inv X ((q, PySem.W.methodObj (.ref g) (.ref C)) :: pins) σ H s) (r : Vals vs us) (h : sp (.ref C :: vs) H Q E) : wpAny (model X.prog X.w) X.A (call (.ref q) us) (EP X pins σ Q) X.xe s := by
  have hl : (Value.ref C :: us).length = ps.length := by
    rw [List.length_cons, ← r.length]
    exact F.len _ _ _ _ h
  have b := hb s (.ref C :: us) I.kIn (by rw [List.append_nil]; exact hl)
  rw [List.append_nil] at b
  have z : wpAny (model X.prog X.w) X.A (call (.ref q) us) (EP X ((q, PySem.W.methodObj (.ref g) (.ref C)) :: pins) σ Q) X.xe s := by
    refine wpAny_call (PySem.W.method_call (pin_at I) (codeAny_mono (F.run X.A X.stack s H ⟨.ref C :: us, []⟩ (.ref C :: us) (.ref C :: vs) Q E hr I.env0 b (.cons rfl r) h) fun r s' hq => ?_))
    cases r with
    | error e => exact hx _ H s e s' I hq
    | ok fl =>
      cases fl with
      | ret u => exact I.after hq
      | next => exact False.elim hq
      | brk => exact False.elim hq
      | cont => exact False.elim hq
  exact thn z fun _ _ y => unpinE y
end
/-- C.m(e, ..), C a class, m its method: what is wished of a raise may hang on the names -/
def tCMethS (C : Addr) (sp : Sp) (E : L2.St → XK) (ta : TE) (t : TA) : TE := fun σ H Q => ta σ H fun x H1 => x = .ref C ∧ t σ H1 fun vs H2 => sp (.ref C :: vs) H2 Q (E σ)
section
variable {X : Cx} {CX : CXT} {k : Nat} {C p g : Addr} {fd : FuncData} {ps : List PySem.Str} {mc : Value} {sp : Sp} {E : L2.St → XK} {o e : Expr} {es : List Expr} {m : PySem.Str} {pos apos : Pos} {ta : TE} {t : TA} {pl : Sem Bool}
theorem pe_cmethS (he : PE X o ta) (r : CRead X.K C mc) (c : CMet X.K C mc m p g) (F : FnOk X.prog X.w X.K X.mg X.base CX k g fd ps sp) (hb : Binds X.K fd ps []) (hr : Room k X.A) (hx : ∀ σ, PassesAt CX X σ (E σ)) (ha : PA X (e :: es) t)
    (hst : starEach (e :: es) X.env = (false, eval e X.env) :: starEach es X.env := by rfl) (hpl : (backTo pos (starEach es X.env)).any (·.1) = false := by rfl)
    (ht : eval (.Call (.Attribute o m apos) (e :: es) [] pos) X.env = (do
      let ov ← eval o X.env
      standAt apos.atName
      let (f, first) ← holding [ov] (getMethod ov m pl)
      callWith pos f first (backTo pos (starEach (e :: es) X.env)) (backToKw pos (keywordEach [] X.env))) := by rfl) :
    PE X (.Call (.Attribute o m apos) (e :: es) [] pos) (tCMethS C sp E ta t) := by
  refine ⟨fun pins s σ H Q I h => ?_⟩
  refine PySem.W.methodCall_KW (pl := pl) (thn (he.run pins s σ H _ I h) fun u s1 ⟨x, H1, I1, rx, ex, q⟩ => ?_) ht
  subst ex
  obtain rfl : u = Value.ref C := rx
  refine getmethcm_ok I1 r c fun s2 I2 => ?_
  refine callwith_cm I2 (base_none I1 (Nat.le_refl _)) c.fi (thn (ha.run pos _ s2 σ H1 _ I2 q) fun us s3 ⟨vs, H2, I3, rv, q2⟩ => ⟨⟨pin_at I3, I3.kIn⟩, ?_⟩) hst hpl
  exact run_cmS F hr hb (hx σ) I3 rv q2
end
/-! ### C(..) by the module's name, its __init__ with a star and keyword-only parameters -/
def tClsP (C : Addr) (sp : List V → Sp) (E : XK) (t : TA) : TE := fun σ H Q => t σ H fun vs H1 =>
  ∀ x dx, H1 x = Option.none → H1 dx = Option.none → dx ≠ x → sp [] (V.ref x :: vs) (upd (upd H1 dx (.own x)) x (.ins C dx [])) (fun v H3 => v = .non ∧ Q (.ref x) H3) E
def tClsPK (C : Addr) (m : Nat) (sp : List V → Sp) (E : XK) (t tk : TA) : TE := fun σ H Q => t σ H fun vs H1 => tk σ H1 fun zs H2 => zs.length = m ∧
  ∀ x dx, H2 x = Option.none → H2 dx = Option.none → dx ≠ x → sp zs (V.ref x :: vs) (upd (upd H2 dx (.own x)) x (.ins C dx [])) (fun v H3 => v = .non ∧ Q (.ref x) H3) E
def tCls0K (C : Addr) (m : Nat) (sp : List V → Sp) (E : XK) (tk : TA) : TE := fun σ H Q => tk σ H fun zs H2 => zs.length = m ∧
  ∀ x dx, H2 x = Option.none → H2 dx = Option.none → dx ≠ x → sp zs [V.ref x] (upd (upd H2 dx (.own x)) x (.ins C dx [])) (fun v H3 => v = .non ∧ Q (.ref x) H3) E
section
variable {X : Cx} {CX : CXT} {k : Nat} {f C : Addr} {ks : List PySem.Str} {sp : List V → Sp} {E : XK} {x : PySem.Str} {p pos : Pos} {e : Expr} {es : List Expr} {kws : List Keyword} {t tk : TA}
theorem run_clsG {pins : List (Addr × Obj)} {σ : L2.St} {H : Hp} {s : Shared} {Q : VK} {us ws : List Value} {vs zs : List V} (M : Mk X.K C f) (F : Sk.FnK X.prog X.w X.K X.mg X.base CX k f ks sp) (hr : Room (k + 1) X.A) (hx : Passes CX X E) (I : Inv X pins σ H s) (r : Vals vs us) (rz : Vals zs ws) (l2 : zs.length = ks.length)
    (h : ∀ x dx, H x = Option.none → H dx = Option.none → dx ≠ x → sp zs (V.ref x :: vs) (upd (upd H dx (.own x)) x (.ins C dx [])) (fun v H3 => v = .non ∧ Q (.ref x) H3) E) :
    wpAny (model X.prog X.w) X.A (call (.ref C) us (ks.zip ws)) (EP X pins σ Q) X.xe s := by
  have hq := h (s.heap.objs.size + 1) s.heap.objs.size (I.hok.fresh (Nat.le_succ _)) (I.hok.fresh (Nat.le_refl _)) (Nat.ne_of_lt (Nat.lt_succ_self _))
  have I4 := Inv.made (C := C) I
  refine wpAny_call (make_map (f := f) I.kIn M.makes M.init (beq_iff_eq.mp M.fn) (codeAny_mono (F _ X.stack _ _ (Value.ref (s.heap.objs.size + 1) :: us) ws (V.ref (s.heap.objs.size + 1) :: vs) zs _ E (hr.make C us (ks.zip ws))
    (I4.env0.make C us (ks.zip ws)) (.cons rfl r) rz l2 hq) fun r s' hq' => ?_))
  cases r with
  | error e => exact hx pins σ _ _ e s' I4 hq'
  | ok fl =>
    cases fl with
    | ret u =>
      obtain ⟨v, H', I5, rv, ev, q5⟩ := I4.after hq'
      subst ev
      exact ⟨rv, ⟨V.ref (s.heap.objs.size + 1), H', I5, rfl, q5⟩⟩
    | next => exact False.elim hq'
    | brk => exact False.elim hq'
    | cont => exact False.elim hq'
theorem pe_clsP (M : Mk X.K C f) (F : Sk.FnK X.prog X.w X.K X.mg X.base CX k f [] sp) (hr : Room (k + 1) X.A) (hg : Gl X x) (hm : X.mg x = some (.ref C)) (hx : Passes CX X E) (ha : PA X (e :: es) t)
    (hdb : (x == ("__debug__" : PySem.Str)) = false := by decide) (he : starEach (e :: es) X.env = (false, eval e X.env) :: starEach es X.env := by rfl) (hpl : (backTo pos (starEach es X.env)).any (·.1) = false := by rfl) :
    PE X (.Call (.Name x p) (e :: es) [] pos) (tClsP C sp E t) := by
  refine ⟨fun pins s σ H Q I h => ?_⟩
  refine wpAny_Call_Name_kw (ld_glob I hg hm ?_ hdb)
  refine PySem.W.callWith_K (h₀ := X.base) I.ok.mod.kin M.kp (thn (ha.run pos pins s σ H _ I h) fun us s1 ⟨vs, H1, I1, r, q⟩ => ⟨I1.kIn, ?_⟩) he hpl
  exact run_clsG (ws := []) M F hr hx I1 r .nil rfl q
theorem pe_clsPK (M : Mk X.K C f) (F : Sk.FnK X.prog X.w X.K X.mg X.base CX k f ks sp) (hr : Room (k + 1) X.A) (hg : Gl X x) (hm : X.mg x = some (.ref C)) (hx : Passes CX X E) (ha : PA X (e :: es) t) (hkw : PK X kws tk)
    (hall : (backToKw pos (keywordEach kws X.env)).all (·.1.isSome) = true := by rfl) (hks : (backToKw pos (keywordEach kws X.env)).filterMap (·.1) = ks := by rfl)
    (hdb : (x == ("__debug__" : PySem.Str)) = false := by decide) (he : starEach (e :: es) X.env = (false, eval e X.env) :: starEach es X.env := by rfl)
    (hpl : ((backTo pos (starEach (e :: es) X.env)).any (·.1) || (backToKw pos (keywordEach kws X.env)).any (·.1.isNone)) = false := by rfl) :
    PE X (.Call (.Name x p) (e :: es) kws pos) (tClsPK C ks.length sp E t tk) := by
  refine ⟨fun pins s σ H Q I h => ?_⟩
  refine wpAny_Call_Name_kw (ld_glob I hg hm ?_ hdb)
  refine PySem.W.callWith_KW (h₀ := X.base) I.ok.mod.kin M.kp hall (thn (ha.run pos pins s σ H _ I h) fun us s1 ⟨vs, H1, I1, r, q⟩ => ?_) hpl he
  refine thn (hkw.run pos pins s1 σ H1 _ I1 q) fun ws s2 ⟨zs, H2, I2, rz, l2, q2⟩ => ⟨I2.kIn, ?_⟩
  rw [hks]
  exact run_clsG M F hr hx I2 r rz l2 q2
theorem pe_cls0K (M : Mk X.K C f) (F : Sk.FnK X.prog X.w X.K X.mg X.base CX k f ks sp) (hr : Room (k + 1) X.A) (hg : Gl X x) (hm : X.mg x = some (.ref C)) (hx : Passes CX X E) (hkw : PK X kws tk)
    (hall : (backToKw pos (keywordEach kws X.env)).all (·.1.isSome) = true := by rfl) (hks : (backToKw pos (keywordEach kws X.env)).filterMap (·.1) = ks := by rfl)
    (hdb : (x == ("__debug__" : PySem.Str)) = false := by decide) (hpl : ((backTo pos (starEach [] X.env)).any (·.1) || (backToKw pos (keywordEach kws X.env)).any (·.1.isNone)) = false := by rfl) :
    PE X (.Call (.Name x p) [] kws pos) (tCls0K C ks.length sp E tk) := by
  refine ⟨fun pins s σ H Q I h => wpAny_Call_Name_kw (ld_glob I hg hm ?_ hdb)⟩
  refine PySem.W.callWith_KW0 (h₀ := X.base) I.ok.mod.kin M.kp hall ?_ hpl
  refine thn (hkw.run pos pins s σ H _ I h) fun ws s2 ⟨zs, H2, I2, rz, l2, q2⟩ => ⟨I2.kIn, ?_⟩
  rw [hks, List.append_nil]
  exact run_clsG (us := []) M F hr hx I2 .nil rz l2 q2
end
/-! ### such a def, called in any way -/
section
variable {CX : CXT} {P : Program} {w : World} {K : PySem.W.Frag} {mg : PySem.Str → Option Value} {base : Heap} {k n : Nat} {f : Addr} {name qual : PySem.Str} {st : Stmt} {fd : FuncData} {N ks pb : List PySem.Str} {pv : PySem.Str} {sp : List V → Sp} {Rr : Nat → Prop}
/-- n positional values, the keywords ks; g puts them (and what stands for a parameter that lacks) in the order of the parameters pb; what is left over is a new tuple -/
theorem fn_starG (g : List Value → List Value → List Value) (gV : List V → List V → List V) (F : Fun K name qual st f fd) (S : FnScope N (pb ++ [pv]) (defScope st)) (hCX : StX.CXUp CX)
    (hg : ∀ (vs zs : List V) (us ws : List Value), vs.length = n → zs.length = ks.length → Vals vs us → Vals zs ws → Vals (gV vs zs) (g us ws) ∧ (gV vs zs).length = pb.length)
    (hb : ∀ (kV doc pm : Value) (an : Option Addr) (cdv ct : Value) (us rest ws : List Value) (s : Shared) (A : Around) (Q : List (PySem.Str × Value) → Shared → Prop) (E : Value → Shared → Prop), fd = PySem.W.fnOf name qual (defArgs st) (defBody st) (defScope st) .none kV doc pm an cdv ct → us.length = n → ws.length = ks.length → Rr rest.length → K.In s.heap →
      wpAny (model P w) A (newTuple rest >>= fun t => pure (pb.zip (g us ws) ++ [(pv, t)])) Q E s → wpAny (model P w) A (bindArgs fd ⟨us ++ rest, ks.zip ws⟩) Q E s)
    (hbody : ∀ (cdv : Value) (A : Around) (outer : List Env) (s : Shared) (H : Hp) (vs rest zs : List V) (Q : VK) (E : XK), Room k (A.deeper (envOfC qual (defScope st) s.heap.objs.size f cdv)) → vs.length = n → zs.length = ks.length → sp zs (vs ++ rest) H Q E → ∀ p, H p = none →
      ∃ t, PSs (cxOf CX P w K mg base N qual (defScope st) f cdv A outer s (upd H p (.tup rest)) E) (defBody st) t ∧ t { nx := fun _ H' => Q .non H', rt := Q } (start N (gV vs zs ++ [V.ref p])) (upd H p (.tup rest)))
    (hlen : ∀ zs vs H Q E, sp zs vs H Q E → n ≤ vs.length ∧ vs.length ≤ sizeLine ∧ Rr (vs.length - n)) :
    Sk.FnK P w K mg base CX (k + 1) f ks sp := by
  obtain ⟨oc, od, kV, doc, pm, an, cdv, ct, osl, efd, lk, hcd⟩ := F.ex
  intro A outer s H us ws vs zs Q E hr e0 r rz hz hsp
  obtain ⟨hl0, hl1, hl2⟩ := hlen _ _ _ _ _ hsp
  obtain ⟨v1, v2, ev, hv1⟩ : ∃ v1 v2, vs = v1 ++ v2 ∧ v1.length = n := ⟨vs.take n, vs.drop n, (List.take_append_drop _ _).symm, by rw [List.length_take]; omega⟩
  subst ev
  obtain ⟨u1, u2, eu, r1, r2⟩ := StX.vals_split r
  subst eu
  have hn : H s.heap.objs.size = Option.none := e0.hok.fresh (Nat.le_refl _)
  have h1 : u1.length = n := by rw [← r1.length]; exact hv1
  have h2 : v2.length ≤ sizeLine := by
    rw [List.length_append] at hl1
    omega
  have h3 : u2.length ≤ sizeLine := by rw [← r2.length]; exact h2
  have h4 : ws.length = ks.length := by rw [← rz.length]; exact hz
  have h5 : Rr u2.length := by
    rw [List.length_append, hv1] at hl2
    rw [← r2.length]
    have : n + v2.length - n = v2.length := by omega
    rwa [this] at hl2
  obtain ⟨rg, lg⟩ := hg v1 zs u1 ws hv1 hz r1 rz
  have efd' := efd
  subst efd
  refine StX.run_bnd lk hcd S hr e0 (G := fun xs H2 => ∃ p, H p = Option.none ∧ xs = gV v1 zs ++ [V.ref p] ∧ H2 = upd H p (.tup v2)) (fun A' Ex Q' h => ?_) fun s2 H2 xs ⟨p, hp, ex, eH⟩ hr' => ?_
  · refine hb kV doc pm an cdv ct u1 u2 ws s _ _ _ rfl h1 h4 h5 (e0.mod.kin.keeps fun b o e => (e0.bs b o e).1) ?_
    refine wpAny_bind (wpAny_newTuple (wpAny_pure ?_) h3)
    have new : ObjOk P w (upd H s.heap.objs.size (.tup v2)) (s.heap.push ({ cls := .type "tuple", data := .seq u2.toArray } : Obj)) s.heap.objs.size (.tup v2) := ⟨h2, u2, r2, ⟨_, Heap.get?_push_size _ rfl, rfl, _, rfl⟩⟩
    have un := StX.un_laid (fs := frs outer) (s := s) (o := ({ cls := .type "tuple", data := .seq u2.toArray } : Obj)) (u := .tup v2) hn
    have z := h _ _ (gV v1 zs ++ [V.ref s.heap.objs.size]) (g u1 ws ++ [Value.ref s.heap.objs.size]) (StX.env0_laid e0 new) un rfl (fun e s' => hCX outer s H _ _ E e s' un (fun b o q => Heap.get?_push_of_some _ q) rfl) (rg.append (.cons rfl .nil))
      (by simp only [List.length_append, lg, List.length_cons, List.length_nil]) ⟨_, hn, rfl, rfl⟩
    rw [List.zip_append (by rw [← rg.length, lg])] at z
    exact z
  · subst ex eH
    exact hbody cdv A outer s2 H v1 v2 zs Q E hr' hv1 hz hsp p hp
end
/-- the look for one keyword-only default, three binds deep -/
def KwTo {α : Type} (D : Addr) (x : PySem.Str) (u : Value) (t t' : Sem α) : Prop := ∃ (β γ : Type) (k1 : Option Value → Sem β) (k2 : β → Sem γ) (k3 : γ → Sem α) (a : β), t = ((nsGet D x >>= k1) >>= k2) >>= k3 ∧ k1 (some u) = pure a ∧ t' = k2 a >>= k3
theorem KwTo.run {α : Type} {K : PySem.W.Frag} {M : Model} {A : Around} {Q : α → Shared → Prop} {E : Value → Shared → Prop} {s : Shared} {D : Addr} {x : PySem.Str} {u : Value} {t t' : Sem α} (X : K.In s.heap) (hl : PySem.W.nsIn K D x = some (some u)) (h : KwTo D x u t t') (q : wpAny M A t' Q E s) : wpAny M A t Q E s := by
  obtain ⟨β, γ, k1, k2, k3, a, e1, e2, rfl⟩ := h
  have l1 : PySem.W.Looks M s.heap (nsGet D x >>= k1) a := (PySem.W.looks_nsIn X hl).andThen (PySem.W.Looks.of_pure e2)
  rw [e1, bind_assoc]
  exact wpAny_bind (l1.here q)
end Xc
set_option Elab.async false
set_option linter.all false
set_option maxRecDepth 100000
set_option maxHeartbeats 4000000
/-! Xq: x == (), x any value. -/
namespace PySem.XqP
open Spec SeqAt
open AutoSeq1 (wpAny_loadPart')
theorem dict_eq_declines_tuple (l b : Addr) (es : Array DictEntry) (items2 : Array Value) (n n2 : Nat) (dd dd2 : Option Addr) (sl sl2 : Array (Option Value)) (hs : (l == sysModules) = false) :
    Meets (Builtin.«dict.__eq__» ⟨[.ref l, .ref b], []⟩) (fun _ R s => s.heap.get? l = some { cls := .type "dict", dict := dd, data := .dict es n, slots := sl } ∧ s.heap.get? b = some { cls := .type "tuple", dict := dd2, data := .seq items2 n2, slots := sl2 } ∧ R (.ok (.ret .notImplemented)) s) :=
  .of_wp fun prog w A R s h => by obtain ⟨hp, g, d, tk, os⟩ := s; obtain ⟨hl, hb, h⟩ := h; have f1 := F.sub_tuple_dict; wp_walk using wpAny_loadPart' hl, wpAny_loadPart' hb; exact ⟨_, rfl, h⟩
theorem tuple_eq_declines_dict (l b : Addr) (es : Array DictEntry) (items : Array Value) (n n2 : Nat) (dd dd2 : Option Addr) (sl sl2 : Array (Option Value)) :
    Meets (Builtin.«tuple.__eq__» ⟨[.ref l, .ref b], []⟩) (fun _ R s => s.heap.get? l = some { cls := .type "tuple", dict := dd, data := .seq items n, slots := sl } ∧ s.heap.get? b = some { cls := .type "dict", dict := dd2, data := .dict es n2, slots := sl2 } ∧ R (.ok (.ret .notImplemented)) s) :=
  .of_wp fun prog w A R s h => by obtain ⟨hp, g, d, tk, os⟩ := s; obtain ⟨hl, hb, h⟩ := h; have f1 : isSubtype (.type "dict") (.type "tuple") = pure false := (by rw [isSubtype_type]; kernel_rfl); wp_walk using wpAny_loadPart' hl, wpAny_loadPart' hb; exact ⟨_, rfl, h⟩
theorem dict_tuple {A : Around} {s : Shared} {l b : Addr} {ol : Obj} {n : Nat} {items2 : Array Value} (hl : s.heap.get? l = some ol) (hc : ol.cls = .type "dict") (hd : ol.data = .dict #[] n) (lo : (l == sysModules) = false) (hb : s.heap.IsTuple b items2) (hu : A.units < cLine) : RcAt A s (.ref l) (.ref b) false := fun prog w E Q h => by
  obtain ⟨cls, dd, data, sl⟩ := ol
  obtain ⟨⟨cls2, dd2, data2, sl2⟩, ho2, hc2, n2, hd2⟩ := id hb
  simp only at hc hd hc2 hd2
  subst hc hd hc2 hd2
  have hne : l ≠ b := fun e => by
    subst e
    rw [hl] at ho2
    exact absurd (congrArg Obj.cls (Option.some.inj ho2)) (by simp)
  exact (rc_eq_decline_or (k := false) ⟨_, hl, rfl⟩ ⟨_, ho2, rfl⟩ (by decide) F.sub_tuple_dict F.slot_dict_eq F.slot_tuple_eq_refl
    (fun _ hq => call_meets F.slot_dict_eq ⟨_, hl, rfl⟩ F.entry_dict_eq (F.args_dict_eq_2 _ _) (dict_eq_declines_tuple l b #[] items2 n n2 dd dd2 sl sl2 lo) ⟨hl, ho2, hq⟩)
    (fun _ hq => call_meets F.slot_tuple_eq_refl ⟨_, ho2, rfl⟩ F.entry_tuple_eq (F.args_tuple_eq_2 _ _) (tuple_eq_declines_dict b l #[] items2 n2 n dd2 dd sl2 sl) ⟨ho2, hl, hq⟩)
    (fun _ hq => wpAny_isSame_ref_other hne hl ho2 (by simp) hq) (.inr hu) h)
end PySem.XqP
namespace Xq
open PySem PySem.Spec PyProof.Rows L2 Zv
def isE : PyData → Bool
  | .tuple [] => true
  | _ => false
def rEqV (K : PySem.W.Frag) : R2 := fun x y H Q => ∃ (S : List Addr) (d : PyData) (b : Addr), Dv S H x d ∧ y = .ref b ∧ SqT K H b [] ∧ Q (.bl (isE d)) H
theorem op_eqV {X : Cx} (hu : X.A.units < cLine) : OpR X (compareOp .Eq) (rEqV X.K) := by
  intro pins s σ H x y v u Q I rx ry h
  obtain ⟨S, d, b, hd, rfl, hb, q⟩ := h
  obtain ⟨its, r2, p2, _⟩ := I.tuple hb
  cases r2
  have fin : ∀ k : Bool, k = isE d → SeqAt.RcAt X.A s v u k → wpAny (model X.prog X.w) X.A (compareOp .Eq v u) (EP X pins σ Q) X.xe s := fun k e h => PySem.EqBoolInt.of_rc h ⟨.bl k, H, I, rfl, by rw [e]; exact q⟩
  cases hd with
  | non =>
    cases rx; cases ry
    exact fin false rfl (.none_tuple p2 hu)
  | bl c =>
    cases rx; cases ry
    exact fin false rfl (.bool_tuple c p2 hu)
  | int i =>
    obtain ⟨t, rfl⟩ := rx
    cases ry
    exact fin false rfl (.int_tuple i t p2 hu)
  | str z =>
    obtain ⟨t, rfl⟩ := rx
    cases ry
    exact fin false rfl (.str_tuple z t p2 hu)
  | @lst a xs ds h n t =>
    cases rx; cases ry
    obtain ⟨i1, r1, p1, _⟩ := I.list (SqL.of h)
    exact fin false rfl (.list_tuple p1.isList p2 hu)
  | @tup a xs ds h n t =>
    refine op_eqE hu pins s σ H _ _ v u Q I rx ry ⟨a, b, xs, rfl, rfl, .inr ⟨SqT.of h, hb⟩, ?_⟩
    have e : xs.isEmpty = isE (.tuple ds) := by
      cases t with
      | nil => rfl
      | cons _ _ => rfl
    show Q (.bl xs.isEmpty) H
    rw [e]
    exact q
  | @dic a h n =>
    cases rx; cases ry
    obtain ⟨lo, o, m, h1, h2, h3⟩ := dic_at I h
    exact fin false rfl (PySem.XqP.dict_tuple h1 h2 h3 lo p2 hu)
end Xq
set_option Elab.async false
set_option linter.all false
set_option maxRecDepth 100000
set_option maxHeartbeats 1000000
/-! Zx: a tuple that shows as a tuple of figures is one; a value that shows as a figure is one. -/
namespace Zx
open PySem PySem.Spec PySem.NumText PyProof.Rows
def ch (x : Str) : List Nat := x.cps.toList
theorem ch_app (a b : Str) : ch (a ++ b) = ch a ++ ch b := cps_toList_append a b
def tl : List (List Nat) → List Nat
  | [] => [41]
  | x :: xs => 44 :: 32 :: (x ++ tl xs)
def chT : List (List Nat) → List Nat
  | [] => [40, 41]
  | [x] => 40 :: (x ++ [44, 41])
  | x :: y :: r => 40 :: (x ++ tl (y :: r))
theorem join_ch : ∀ (x : Str) (ts : List Str), ch (Str.join ", " (x :: ts)) ++ [41] = ch x ++ tl (ts.map ch)
  | x, [] => by rw [join_one]; rfl
  | x, y :: r => by
    rw [join_cons_cons, ch_app, ch_app, List.append_assoc, join_ch y r, List.append_assoc]
    rfl
theorem ch_open : ch ("(" : Str) = [40] := by decide +kernel
theorem ch_close : ch (Str.ofString ")") = [41] := by decide +kernel
theorem ch_close1 : ch (Str.ofString ",)") = [44, 41] := by decide +kernel
theorem tuple_ch : ∀ ts : List Str, ch (tupleText ts) = chT (ts.map ch)
  | [] => by decide +kernel
  | [x] => by
    show ch (("(" : Str) ++ Str.join ", " [x] ++ (Str.ofString ",)")) = _
    rw [ch_app, ch_app, join_one, ch_open, ch_close1]
    rfl
  | x :: y :: r => by
    show ch (("(" : Str) ++ Str.join ", " (x :: y :: r) ++ (Str.ofString ")")) = _
    rw [ch_app, ch_app, ch_open, ch_close, List.append_assoc, join_ch x (y :: r)]
    rfl
theorem fold_head {f : Nat → Array Nat} : ∀ (l : List Nat) (acc : Array Nat), ∃ t, l.foldl (fun out c => out ++ f c) acc = acc ++ t
  | [], acc => ⟨#[], by simp⟩
  | c :: l, acc => by
    obtain ⟨t, e⟩ := fold_head (f := f) l (acc ++ f c)
    exact ⟨f c ++ t, by rw [List.foldl_cons, e, Array.append_assoc]⟩
theorem str_head (x : Str) : ∃ cs, ch (reprText x) = reprQuote x :: cs := by
  obtain ⟨t, e⟩ := fold_head (f := fun c => (PySem.Builtin.Str.reprChar (reprQuote x) c).toArray) x.cps.toList #[reprQuote x]
  refine ⟨t.toList ++ [reprQuote x], ?_⟩
  unfold ch reprText
  rw [Array.foldl_toList] at e
  rw [e]
  simp
theorem quote_is (x : Str) : reprQuote x = 34 ∨ reprQuote x = 39 := by
  unfold reprQuote
  split
  · exact .inl rfl
  · exact .inr rfl
theorem int_ne (i : Int) : ch (PyData.shown (.int i)) ≠ [] := by
  have key : ∀ m : Nat, (Str.ofString (toString ((m : Nat) : Int))).cps.toList ≠ [] := fun m e => by
    rw [PySem.W.KIN.signs_num] at e
    have h := toDigits_len_ge 10 m
    rw [List.map_eq_nil_iff.mp e] at h
    exact absurd h (by decide)
  cases i with
  | ofNat m => exact key m
  | negSucc m =>
    intro e
    have e2 : (Str.ofString (toString (Int.negSucc m))).cps.toList = [] := e
    rw [signs_ofString] at e2
    have e3 := List.map_eq_nil_iff.mp e2
    have e4 : (toString (Int.negSucc m)).toList = ("-" ++ Nat.repr (m + 1)).toList := rfl
    rw [e4, String.toList_append] at e3
    have e5 := (List.append_eq_nil_iff.mp e3).1
    exact absurd e5 (by decide)
theorem int_one {i : Int} {n : Nat} (hn : n < 10) (h : ch (PyData.shown (.int i)) = [48 + n]) : i = n := by
  cases i with
  | ofNat m =>
    have e : (Str.ofString (toString ((m : Nat) : Int))).cps.toList = [48 + n] := h
    rw [PySem.W.KIN.signs_num] at e
    have v := PySem.W.KIN.val_back m
    rw [e] at v
    have v2 : 0 * 10 + (48 + n - 48) = m := v
    show (m : Int) = n
    omega
  | negSucc m =>
    have e : (Str.ofString (toString (Int.negSucc m))).cps.toList = [48 + n] := h
    rw [signs_ofString] at e
    have e4 : (toString (Int.negSucc m)).toList = ("-" ++ Nat.repr (m + 1)).toList := rfl
    rw [e4, String.toList_append, List.map_append] at e
    have e5 : ("-" : String).toList.map Char.toNat = [45] := by decide
    rw [e5] at e
    injection e with e6 e7
    omega
/-- the first sign of a text -/
theorem head : ∀ d : PyData, ∃ c cs, ch d.shown = c :: cs ∧ (48 ≤ c → c ≤ 57 → ∃ i, d = .int i) ∧ c ≠ 41 ∧ c ≠ 44
  | .none => ⟨78, _, (by decide +kernel : ch (Str.ofString "None") = 78 :: [111, 110, 101]), by omega, by omega, by omega⟩
  | .bool true => ⟨84, _, (by decide +kernel : ch (Str.ofString "True") = 84 :: [114, 117, 101]), by omega, by omega, by omega⟩
  | .bool false => ⟨70, _, (by decide +kernel : ch (Str.ofString "False") = 70 :: [97, 108, 115, 101]), by omega, by omega, by omega⟩
  | .int i => by
    cases e : ch (PyData.shown (.int i)) with
    | nil => exact absurd e (int_ne i)
    | cons c cs =>
      have h1 : 41 ∉ ch (PyData.shown (.int i)) := shown_int_free' (by omega) i
      have h2 : 44 ∉ ch (PyData.shown (.int i)) := shown_int_free' (by omega) i
      rw [e] at h1 h2
      exact ⟨c, cs, rfl, fun _ _ => ⟨i, rfl⟩, fun z => h1 (z ▸ List.mem_cons_self), fun z => h2 (z ▸ List.mem_cons_self)⟩
  | .str x => by
    obtain ⟨cs, e⟩ := str_head x
    have q := quote_is x
    exact ⟨_, cs, e, by omega, by omega, by omega⟩
  | .list xs => by
    refine ⟨91, ch (Str.join ", " (PyData.shownAll xs)) ++ [93], ?_, by omega, by omega, by omega⟩
    · show ch (listText _) = _
      rw [listText_eq_join, ch_app, ch_app]
      rfl
  | .tuple xs => by
    have e : ch (PyData.shown (.tuple xs)) = chT ((PyData.shownAll xs).map ch) := tuple_ch _
    have k : ∀ l, ∃ cs, chT l = 40 :: cs
      | [] => ⟨_, rfl⟩
      | [_] => ⟨_, rfl⟩
      | _ :: _ :: _ => ⟨_, rfl⟩
    obtain ⟨cs, k⟩ := k ((PyData.shownAll xs).map ch)
    exact ⟨40, cs, e.trans k, by omega, by omega, by omega⟩
  | .dict kvs => by
    refine ⟨123, ch (Str.join ", " (PyData.shownKv kvs)) ++ [125], ?_, by omega, by omega, by omega⟩
    · show ch (dictText _) = _
      unfold dictText
      rw [ch_app, ch_app]
      rfl
theorem int_free (i : Int) : 41 ∉ ch (PyData.shown (.int i)) ∧ 44 ∉ ch (PyData.shown (.int i)) := ⟨shown_int_free' (by omega) i, shown_int_free' (by omega) i⟩
/-- a value that shows as a figure -/
theorem figure {d : PyData} {n : Nat} (hn : n < 10) (h : ch d.shown = [48 + n]) : d = .int n := by
  obtain ⟨c, cs, e, hi, _⟩ := head d
  have e' := e
  rw [h] at e'
  injection e' with e1 e2
  obtain ⟨i, rfl⟩ := hi (by omega) (by omega)
  exact congrArg PyData.int (int_one hn h)
/-- a figure, and what is no part of it -/
theorem cut {d : PyData} {n : Nat} {r s : List Nat} (hn : n < 10) (hr : r.head? = some 41 ∨ r.head? = some 44) (hs : s.head? = some 41 ∨ s.head? = some 44) (h : ch d.shown ++ r = [48 + n] ++ s) : d = .int n ∧ r = s := by
  obtain ⟨c, cs, e, hi, _⟩ := head d
  have h' := h
  rw [e] at h'
  injection h' with h1 h2
  obtain ⟨i, rfl⟩ := hi (by omega) (by omega)
  have hf := int_free i
  rw [e] at hf
  cases cs with
  | nil =>
    refine ⟨?_, h2⟩
    exact congrArg PyData.int (int_one hn (by rw [e, h1]))
  | cons c2 cs =>
    have h3 : (c2 :: (cs ++ r)) = s := h2
    rw [← h3] at hs
    rcases hs with hs | hs
    · injection hs with hs
      exact absurd (List.mem_cons_of_mem _ (hs ▸ List.mem_cons_self)) hf.1
    · injection hs with hs
      exact absurd (List.mem_cons_of_mem _ (hs ▸ List.mem_cons_self)) hf.2
def fig (ns : List Nat) : List PyData := ns.map fun n => .int (n : Nat)
theorem fig_ch {n : Nat} (h : n < 10) : ch (PyData.shown (.int (n : Nat))) = [48 + n] := by
  have e : ∀ n < 10, ch (PyData.shown (.int ((n : Nat) : Int))) = [48 + n] := by decide +kernel
  exact e n h
theorem tl_head : ∀ l, (tl l).head? = some 41 ∨ (tl l).head? = some 44
  | [] => .inl rfl
  | _ :: _ => .inr rfl
def chs (ds : List PyData) : List (List Nat) := (PyData.shownAll ds).map ch
theorem tl_inj : ∀ (ds : List PyData) (ns : List Nat), (∀ n ∈ ns, n < 10) → tl (chs ds) = tl (chs (fig ns)) → ds = fig ns
  | [], [], _, _ => rfl
  | [], _ :: _, _, h => by cases h
  | _ :: _, [], _, h => by cases h
  | d :: ds, n :: ns, hn, h => by
    have h' : 44 :: 32 :: (ch d.shown ++ tl (chs ds)) = 44 :: 32 :: (ch (PyData.shown (.int (n : Nat))) ++ tl (chs (fig ns))) := h
    injection h' with _ h'
    injection h' with _ h'
    have hn0 := hn n List.mem_cons_self
    rw [fig_ch hn0] at h'
    obtain ⟨rfl, h2⟩ := cut hn0 (tl_head _) (tl_head _) h'
    rw [tl_inj ds ns (fun m hm => hn m (List.mem_cons_of_mem _ hm)) h2]
    rfl
/-- a tuple that shows as a tuple of figures is one -/
theorem tup_inj : ∀ (ds : List PyData) (ns : List Nat), (∀ n ∈ ns, n < 10) → PyData.shown (.tuple ds) = PyData.shown (.tuple (fig ns)) → ds = fig ns := by
  intro ds ns hn h
  have h : chT (chs ds) = chT (chs (fig ns)) := by
    have e1 : ch (PyData.shown (.tuple ds)) = chT (chs ds) := tuple_ch _
    have e2 : ch (PyData.shown (.tuple (fig ns))) = chT (chs (fig ns)) := tuple_ch _
    rw [← e1, ← e2, h]
  match ds, ns, hn, h with
  | [], [], _, _ => rfl
  | [], [n], hn, h =>
    have h' : [40, 41] = 40 :: (ch (PyData.shown (.int (n : Nat))) ++ [44, 41]) := h
    rw [fig_ch (hn n List.mem_cons_self)] at h'
    injection h' with _ h'
    injection h' with h' _
    omega
  | [], n :: m :: r, hn, h =>
    have h' : [40, 41] = 40 :: (ch (PyData.shown (.int (n : Nat))) ++ tl (chs (fig (m :: r)))) := h
    rw [fig_ch (hn n List.mem_cons_self)] at h'
    injection h' with _ h'
    injection h' with h' _
    omega
  | [d], [], _, h =>
    have h' : 40 :: (ch d.shown ++ [44, 41]) = [40, 41] := h
    injection h' with _ h'
    have := congrArg List.length h'
    simp at this
  | d :: e :: r, [], _, h =>
    have h' : 40 :: (ch d.shown ++ 44 :: 32 :: (ch e.shown ++ tl (chs r))) = [40, 41] := h
    injection h' with _ h'
    have := congrArg List.length h'
    simp at this
    omega
  | [d], [n], hn, h =>
    have h' : 40 :: (ch d.shown ++ [44, 41]) = 40 :: (ch (PyData.shown (.int (n : Nat))) ++ [44, 41]) := h
    injection h' with _ h'
    have hn0 := hn n List.mem_cons_self
    rw [fig_ch hn0] at h'
    obtain ⟨rfl, _⟩ := cut hn0 (.inr rfl) (.inr rfl) h'
    rfl
  | [d], n :: m :: r, hn, h =>
    have h' : 40 :: (ch d.shown ++ [44, 41]) = 40 :: (ch (PyData.shown (.int (n : Nat))) ++ tl (chs (fig (m :: r)))) := h
    injection h' with _ h'
    have hn0 := hn n List.mem_cons_self
    rw [fig_ch hn0] at h'
    obtain ⟨rfl, h2⟩ := cut hn0 (.inr rfl) (.inr rfl) h'
    cases h2
  | d :: e :: r, [n], hn, h =>
    have h' : 40 :: (ch d.shown ++ tl (chs (e :: r))) = 40 :: (ch (PyData.shown (.int (n : Nat))) ++ [44, 41]) := h
    injection h' with _ h'
    have hn0 := hn n List.mem_cons_self
    rw [fig_ch hn0] at h'
    obtain ⟨rfl, h2⟩ := cut hn0 (.inr rfl) (.inr rfl) h'
    cases h2
  | d :: e :: r, n :: m :: s, hn, h =>
    have h' : 40 :: (ch d.shown ++ tl (chs (e :: r))) = 40 :: (ch (PyData.shown (.int (n : Nat))) ++ tl (chs (fig (m :: s)))) := h
    injection h' with _ h'
    have hn0 := hn n List.mem_cons_self
    rw [fig_ch hn0] at h'
    obtain ⟨rfl, h2⟩ := cut hn0 (.inr rfl) (.inr rfl) h'
    rw [tl_inj (e :: r) (m :: s) (fun x hx => hn x (List.mem_cons_of_mem _ hx)) h2]
    rfl
end Zx
set_option Elab.async false
set_option linter.all false
set_option maxRecDepth 100000
set_option maxHeartbeats 1000000
/-! Zy: repr is one to one on lists and tuples of figures, None and small letters. -/
namespace Zy
open PySem PySem.Spec PySem.NumText PyProof.Rows Zx
def low (c : Nat) : Bool := decide (97 ≤ c ∧ c ≤ 122)
mutual
def nice : PyData → Bool
  | .none => true
  | .bool _ | .dict _ => false
  | .int i => decide (0 ≤ i ∧ i < 10)
  | .str x => x.cps.toList.all low
  | .list xs | .tuple xs => niceAll xs
def niceAll : List PyData → Bool
  | [] => true
  | x :: xs => nice x && niceAll xs
end
theorem niceAll_iff : ∀ {l : List PyData}, niceAll l = true ↔ ∀ d ∈ l, nice d = true
  | [] => by simp [niceAll]
  | x :: l => by
    rw [niceAll, Bool.and_eq_true, niceAll_iff (l := l)]
    simp
mutual
def code : PyData → List Nat
  | .none => [78, 111, 110, 101]
  | .bool _ | .dict _ => []
  | .int i => [48 + i.toNat]
  | .str x => 39 :: (x.cps.toList ++ [39])
  | .list [] => [91, 93]
  | .list (x :: r) => 91 :: (code x ++ (codes r ++ [93]))
  | .tuple [] => [40, 41]
  | .tuple [x] => 40 :: (code x ++ [44, 41])
  | .tuple (x :: y :: r) => 40 :: (code x ++ (44 :: 32 :: (code y ++ (codes r ++ [41]))))
def codes : List PyData → List Nat
  | [] => []
  | x :: r => 44 :: 32 :: (code x ++ codes r)
end
/-! ### the code is what repr shows -/
def tz : List (List Nat) → List Nat
  | [] => []
  | x :: xs => 44 :: 32 :: (x ++ tz xs)
theorem join_tz : ∀ (x : Str) (ts : List Str), ch (Str.join ", " (x :: ts)) = ch x ++ tz (ts.map ch)
  | x, [] => by rw [join_one]; exact (List.append_nil _).symm
  | x, y :: r => by
    rw [join_cons_cons, ch_app, ch_app, List.append_assoc, join_tz y r]
    rfl
theorem low_char : ∀ c, c ≤ 122 → low c = true → PySem.Builtin.Str.reprChar 39 c = [c] := by decide +kernel
theorem fold_low : ∀ (l : List Nat) (acc : Array Nat), l.all low = true → (l.foldl (fun out c => out ++ (PySem.Builtin.Str.reprChar 39 c).toArray) acc).toList = acc.toList ++ l
  | [], acc, _ => by simp
  | c :: l, acc, h => by
    rw [List.all_cons, Bool.and_eq_true] at h
    have hc : c ≤ 122 := by
      have := of_decide_eq_true h.1
      omega
    rw [List.foldl_cons, fold_low l _ h.2, low_char c hc h.1]
    simp
theorem text_code {x : Str} (h : x.cps.toList.all low = true) : ch (reprText x) = 39 :: (x.cps.toList ++ [39]) := by
  have hq : reprQuote x = 39 := by
    unfold reprQuote
    have : x.cps.contains 39 = false := by
      rw [Bool.eq_false_iff]
      intro z
      have m : 39 ∈ x.cps.toList := by simpa using z
      have := List.all_eq_true.mp h 39 m
      exact absurd this (by decide)
    rw [this]
    rfl
  unfold ch reprText
  rw [hq]
  have e := fold_low x.cps.toList #[39] h
  rw [Array.foldl_toList] at e
  rw [Array.toList_push, e]
  rfl
theorem int_code : ∀ n : Nat, n < 10 → ch (PyData.shown (.int (n : Int))) = [48 + n] := by decide +kernel
mutual
theorem code_eq : ∀ d : PyData, nice d = true → ch d.shown = code d
  | .none, _ => by decide +kernel
  | .bool _, h => by cases h
  | .dict _, h => by cases h
  | .int i, h => by
    have h' := of_decide_eq_true h
    obtain ⟨n, rfl⟩ : ∃ n : Nat, i = (n : Int) := ⟨i.toNat, by omega⟩
    have := int_code n (by omega)
    exact this
  | .str x, h => text_code h
  | .list [], _ => by decide +kernel
  | .list (x :: r), h => by
    have h' : (nice x && niceAll r) = true := h
    rw [Bool.and_eq_true] at h'
    show ch (listText (PyData.shown x :: PyData.shownAll r)) = 91 :: (code x ++ (codes r ++ [93]))
    rw [listText_eq_join, ch_app, ch_app, join_tz, codes_eq r h'.2, code_eq x h'.1]
    show [91] ++ (code x ++ codes r) ++ [93] = _
    simp
  | .tuple [], _ => by decide +kernel
  | .tuple [x], h => by
    have h' : (nice x && niceAll []) = true := h
    rw [Bool.and_eq_true] at h'
    show ch (tupleText [PyData.shown x]) = 40 :: (code x ++ [44, 41])
    rw [tuple_ch]
    show 40 :: (ch x.shown ++ [44, 41]) = _
    rw [code_eq x h'.1]
  | .tuple (x :: y :: r), h => by
    have h' : (nice x && (nice y && niceAll r)) = true := h
    rw [Bool.and_eq_true, Bool.and_eq_true] at h'
    show ch (("(" : Str) ++ Str.join ", " (PyData.shown x :: PyData.shown y :: PyData.shownAll r) ++ (Str.ofString ")")) = _
    rw [ch_app, ch_app, ch_open, ch_close, join_tz]
    show [40] ++ (ch x.shown ++ (44 :: 32 :: (ch y.shown ++ tz ((PyData.shownAll r).map ch)))) ++ [41] = 40 :: (code x ++ (44 :: 32 :: (code y ++ (codes r ++ [41]))))
    rw [codes_eq r h'.2.2, code_eq x h'.1, code_eq y h'.2.1]
    simp
theorem codes_eq : ∀ l : List PyData, niceAll l = true → tz ((PyData.shownAll l).map ch) = codes l
  | [], _ => rfl
  | x :: r, h => by
    rw [niceAll, Bool.and_eq_true] at h
    show 44 :: 32 :: (ch x.shown ++ tz ((PyData.shownAll r).map ch)) = 44 :: 32 :: (code x ++ codes r)
    rw [code_eq x h.1, codes_eq r h.2]
end
/-! ### the code is one to one -/
def hd : PyData → Nat
  | .none => 78
  | .bool _ | .dict _ => 0
  | .int i => 48 + i.toNat
  | .str _ => 39
  | .list _ => 91
  | .tuple _ => 40
theorem code_cons : ∀ d : PyData, nice d = true → ∃ cs, code d = hd d :: cs
  | .none, _ => ⟨_, rfl⟩
  | .bool _, h => by cases h
  | .dict _, h => by cases h
  | .int i, h => ⟨_, rfl⟩
  | .str x, _ => ⟨_, rfl⟩
  | .list [], _ => ⟨_, rfl⟩
  | .list (x :: r), _ => ⟨_, rfl⟩
  | .tuple [], _ => ⟨_, rfl⟩
  | .tuple [_], _ => ⟨_, rfl⟩
  | .tuple (_ :: _ :: _), _ => ⟨_, rfl⟩
theorem hd_ne : ∀ d : PyData, nice d = true → hd d ≠ 41 ∧ hd d ≠ 93
  | .none, _ => ⟨by decide, by decide⟩
  | .bool _, h => by cases h
  | .dict _, h => by cases h
  | .int i, h => by
    have h' := of_decide_eq_true h
    show 48 + i.toNat ≠ 41 ∧ 48 + i.toNat ≠ 93
    omega
  | .str x, _ => ⟨Nat.ne_of_beq_eq_false rfl, Nat.ne_of_beq_eq_false rfl⟩
  | .list _, _ => ⟨Nat.ne_of_beq_eq_false rfl, Nat.ne_of_beq_eq_false rfl⟩
  | .tuple _, _ => ⟨Nat.ne_of_beq_eq_false rfl, Nat.ne_of_beq_eq_false rfl⟩
theorem no_head {d : PyData} (h : nice d = true) {c : Nat} (hc : c = 41 ∨ c = 93) {s t : List Nat} (e : c :: s = code d ++ t) : False := by
  obtain ⟨cs, q⟩ := code_cons d h
  rw [q] at e
  injection e with e _
  have := hd_ne d h
  omega
theorem stop_eq : ∀ (x y s t : List Nat), 39 ∉ x → 39 ∉ y → x ++ 39 :: s = y ++ 39 :: t → x = y ∧ s = t
  | [], [], s, t, _, _, h => by
    injection h with _ h
    exact ⟨rfl, h⟩
  | [], c :: y, s, t, _, h2, h => by
    injection h with h _
    exact absurd (h ▸ List.mem_cons_self) h2
  | c :: x, [], s, t, h1, _, h => by
    injection h with h _
    exact absurd (h ▸ List.mem_cons_self) h1
  | c :: x, c' :: y, s, t, h1, h2, h => by
    injection h with h h'
    obtain ⟨e1, e2⟩ := stop_eq x y s t (fun z => h1 (List.mem_cons_of_mem _ z)) (fun z => h2 (List.mem_cons_of_mem _ z)) h'
    exact ⟨by rw [h, e1], e2⟩
theorem low_free {x : List Nat} (h : x.all low = true) : 39 ∉ x := fun m => absurd (List.all_eq_true.mp h 39 m) (by decide)
theorem str_ext {x y : Str} (h : x.cps.toList = y.cps.toList) : x = y := by
  obtain ⟨⟨x⟩⟩ := x
  obtain ⟨⟨y⟩⟩ := y
  have h' : x = y := h
  rw [h']
theorem hd_eq {d e : PyData} (hd' : nice d = true) (he : nice e = true) {s t : List Nat} (h : code d ++ s = code e ++ t) : hd d = hd e := by
  obtain ⟨c1, q1⟩ := code_cons d hd'
  obtain ⟨c2, q2⟩ := code_cons e he
  rw [q1, q2] at h
  injection h
mutual
theorem pf : ∀ (d e : PyData) (s t : List Nat), nice d = true → nice e = true → code d ++ s = code e ++ t → d = e ∧ s = t
  | .none, e, s, t, hn, he, h => by
    have q := hd_eq hn he h
    cases e with
    | none => exact ⟨rfl, List.append_cancel_left h⟩
    | int j =>
      have h' := of_decide_eq_true he
      have q' : 78 = 48 + j.toNat := q
      omega
    | bool _ => cases he
    | dict _ => cases he
    | str _ => exact absurd q (Nat.ne_of_beq_eq_false rfl)
    | list _ => exact absurd q (Nat.ne_of_beq_eq_false rfl)
    | tuple _ => exact absurd q (Nat.ne_of_beq_eq_false rfl)
  | .bool _, e, s, t, hn, he, h => by cases hn
  | .dict _, e, s, t, hn, he, h => by cases hn
  | .int i, e, s, t, hn, he, h => by
    have q := hd_eq hn he h
    have h1 := of_decide_eq_true hn
    cases e with
    | none =>
      have q' : 48 + i.toNat = 78 := q
      omega
    | int j =>
      have h2 := of_decide_eq_true he
      have q' : 48 + i.toNat = 48 + j.toNat := q
      have e : i = j := by omega
      subst e
      exact ⟨rfl, List.append_cancel_left h⟩
    | bool _ => cases he
    | dict _ => cases he
    | str _ =>
      have q' : 48 + i.toNat = 39 := q
      omega
    | list _ =>
      have q' : 48 + i.toNat = 91 := q
      omega
    | tuple _ =>
      have q' : 48 + i.toNat = 40 := q
      omega
  | .str x, e, s, t, hn, he, h => by
    have q := hd_eq hn he h
    cases e with
    | str y =>
      have h' : 39 :: (x.cps.toList ++ [39]) ++ s = 39 :: (y.cps.toList ++ [39]) ++ t := h
      rw [List.cons_append, List.cons_append, List.append_assoc, List.append_assoc] at h'
      injection h' with _ h'
      obtain ⟨e1, e2⟩ := stop_eq _ _ _ _ (low_free hn) (low_free he) h'
      exact ⟨by rw [str_ext e1], e2⟩
    | int j =>
      have q' : 39 = 48 + j.toNat := q
      omega
    | bool _ => cases he
    | dict _ => cases he
    | none => exact absurd q (Nat.ne_of_beq_eq_false rfl)
    | list _ => exact absurd q (Nat.ne_of_beq_eq_false rfl)
    | tuple _ => exact absurd q (Nat.ne_of_beq_eq_false rfl)
  | .list [], e, s, t, hn, he, h => by
    have q := hd_eq hn he h
    cases e with
    | list ys =>
      cases ys with
      | nil => exact ⟨rfl, List.append_cancel_left h⟩
      | cons y r =>
        have he' : (nice y && niceAll r) = true := he
        rw [Bool.and_eq_true] at he'
        have h' : 91 :: 93 :: s = 91 :: (code y ++ (codes r ++ [93])) ++ t := h
        rw [List.cons_append, List.append_assoc] at h'
        injection h' with _ h'
        exact (no_head he'.1 (.inr rfl) h').elim
    | int j =>
      have h' := of_decide_eq_true he
      have q' : 91 = 48 + j.toNat := q
      omega
    | bool _ => cases he
    | dict _ => cases he
    | none => exact absurd q (Nat.ne_of_beq_eq_false rfl)
    | str _ => exact absurd q (Nat.ne_of_beq_eq_false rfl)
    | tuple _ => exact absurd q (Nat.ne_of_beq_eq_false rfl)
  | .list (x :: r), e, s, t, hn, he, h => by
    have q := hd_eq hn he h
    have hn' : (nice x && niceAll r) = true := hn
    rw [Bool.and_eq_true] at hn'
    cases e with
    | list ys =>
      cases ys with
      | nil =>
        have h' : 91 :: (code x ++ (codes r ++ [93])) ++ s = 91 :: 93 :: t := h
        rw [List.cons_append, List.append_assoc] at h'
        injection h' with _ h'
        exact (no_head hn'.1 (.inr rfl) h'.symm).elim
      | cons y u =>
        have he' : (nice y && niceAll u) = true := he
        rw [Bool.and_eq_true] at he'
        have h' : 91 :: (code x ++ (codes r ++ [93])) ++ s = 91 :: (code y ++ (codes u ++ [93])) ++ t := h
        rw [List.cons_append, List.cons_append, List.append_assoc, List.append_assoc, List.append_assoc, List.append_assoc] at h'
        injection h' with _ h'
        obtain ⟨e1, h'⟩ := pf x y _ _ hn'.1 he'.1 h'
        obtain ⟨e2, h'⟩ := pfs r u 93 s t hn'.2 he'.2 (by decide) h'
        exact ⟨by rw [e1, e2], h'⟩
    | int j =>
      have h' := of_decide_eq_true he
      have q' : 91 = 48 + j.toNat := q
      omega
    | bool _ => cases he
    | dict _ => cases he
    | none => exact absurd q (Nat.ne_of_beq_eq_false rfl)
    | str _ => exact absurd q (Nat.ne_of_beq_eq_false rfl)
    | tuple _ => exact absurd q (Nat.ne_of_beq_eq_false rfl)
  | .tuple [], e, s, t, hn, he, h => by
    have q := hd_eq hn he h
    cases e with
    | tuple ys =>
      match ys, he, h with
      | [], _, h => exact ⟨rfl, List.append_cancel_left h⟩
      | [y], he, h =>
        have he' : (nice y && niceAll []) = true := he
        rw [Bool.and_eq_true] at he'
        have h' : 40 :: 41 :: s = 40 :: (code y ++ [44, 41]) ++ t := h
        rw [List.cons_append, List.append_assoc] at h'
        injection h' with _ h'
        exact (no_head he'.1 (.inl rfl) h').elim
      | y :: z :: u, he, h =>
        have he' : (nice y && niceAll (z :: u)) = true := he
        rw [Bool.and_eq_true] at he'
        have h' : 40 :: 41 :: s = 40 :: (code y ++ (44 :: 32 :: (code z ++ (codes u ++ [41])))) ++ t := h
        rw [List.cons_append, List.append_assoc] at h'
        injection h' with _ h'
        exact (no_head he'.1 (.inl rfl) h').elim
    | int j =>
      have q' : 40 = 48 + j.toNat := q
      omega
    | bool _ => cases he
    | dict _ => cases he
    | none => exact absurd q (Nat.ne_of_beq_eq_false rfl)
    | str _ => exact absurd q (Nat.ne_of_beq_eq_false rfl)
    | list _ => exact absurd q (Nat.ne_of_beq_eq_false rfl)
  | .tuple [x], e, s, t, hn, he, h => by
    have q := hd_eq hn he h
    have hn' : (nice x && niceAll []) = true := hn
    rw [Bool.and_eq_true] at hn'
    cases e with
    | tuple ys =>
      match ys, he, h with
      | [], _, h =>
        have h' : 40 :: (code x ++ [44, 41]) ++ s = 40 :: 41 :: t := h
        rw [List.cons_append, List.append_assoc] at h'
        injection h' with _ h'
        exact (no_head hn'.1 (.inl rfl) h'.symm).elim
      | [y], he, h =>
        have he' : (nice y && niceAll []) = true := he
        rw [Bool.and_eq_true] at he'
        have h' : 40 :: (code x ++ [44, 41]) ++ s = 40 :: (code y ++ [44, 41]) ++ t := h
        rw [List.cons_append, List.cons_append, List.append_assoc, List.append_assoc] at h'
        injection h' with _ h'
        obtain ⟨e1, h'⟩ := pf x y _ _ hn'.1 he'.1 h'
        exact ⟨by rw [e1], List.append_cancel_left h'⟩
      | y :: z :: u, he, h =>
        have he' : (nice y && niceAll (z :: u)) = true := he
        rw [Bool.and_eq_true] at he'
        have h' : 40 :: (code x ++ [44, 41]) ++ s = 40 :: (code y ++ (44 :: 32 :: (code z ++ (codes u ++ [41])))) ++ t := h
        rw [List.cons_append, List.cons_append, List.append_assoc, List.append_assoc] at h'
        injection h' with _ h'
        obtain ⟨e1, h'⟩ := pf x y _ _ hn'.1 he'.1 h'
        injection h' with _ h'
        injection h' with h' _
        exact absurd h' (by decide)
    | int j =>
      have q' : 40 = 48 + j.toNat := q
      omega
    | bool _ => cases he
    | dict _ => cases he
    | none => exact absurd q (Nat.ne_of_beq_eq_false rfl)
    | str _ => exact absurd q (Nat.ne_of_beq_eq_false rfl)
    | list _ => exact absurd q (Nat.ne_of_beq_eq_false rfl)
  | .tuple (x :: w :: r), e, s, t, hn, he, h => by
    have q := hd_eq hn he h
    have hn' : (nice x && (nice w && niceAll r)) = true := hn
    rw [Bool.and_eq_true, Bool.and_eq_true] at hn'
    cases e with
    | tuple ys =>
      match ys, he, h with
      | [], _, h =>
        have h' : 40 :: (code x ++ (44 :: 32 :: (code w ++ (codes r ++ [41])))) ++ s = 40 :: 41 :: t := h
        rw [List.cons_append, List.append_assoc] at h'
        injection h' with _ h'
        exact (no_head hn'.1 (.inl rfl) h'.symm).elim
      | [y], he, h =>
        have he' : (nice y && niceAll []) = true := he
        rw [Bool.and_eq_true] at he'
        have h' : 40 :: (code x ++ (44 :: 32 :: (code w ++ (codes r ++ [41])))) ++ s = 40 :: (code y ++ [44, 41]) ++ t := h
        rw [List.cons_append, List.cons_append, List.append_assoc, List.append_assoc] at h'
        injection h' with _ h'
        obtain ⟨e1, h'⟩ := pf x y _ _ hn'.1 he'.1 h'
        injection h' with _ h'
        injection h' with h' _
        exact absurd h' (by decide)
      | y :: z :: u, he, h =>
        have he' : (nice y && (nice z && niceAll u)) = true := he
        rw [Bool.and_eq_true, Bool.and_eq_true] at he'
        have h' : 40 :: (code x ++ (44 :: 32 :: (code w ++ (codes r ++ [41])))) ++ s = 40 :: (code y ++ (44 :: 32 :: (code z ++ (codes u ++ [41])))) ++ t := h
        simp only [List.cons_append, List.append_assoc, List.nil_append] at h'
        injection h' with _ h'
        obtain ⟨e1, h'⟩ := pf x y _ _ hn'.1 he'.1 h'
        injection h' with _ h'
        injection h' with _ h'
        obtain ⟨e2, h'⟩ := pf w z _ _ hn'.2.1 he'.2.1 h'
        obtain ⟨e3, h'⟩ := pfs r u 41 s t hn'.2.2 he'.2.2 (by decide) h'
        exact ⟨by rw [e1, e2, e3], h'⟩
    | int j =>
      have q' : 40 = 48 + j.toNat := q
      omega
    | bool _ => cases he
    | dict _ => cases he
    | none => exact absurd q (Nat.ne_of_beq_eq_false rfl)
    | str _ => exact absurd q (Nat.ne_of_beq_eq_false rfl)
    | list _ => exact absurd q (Nat.ne_of_beq_eq_false rfl)
theorem pfs : ∀ (r u : List PyData) (c : Nat) (s t : List Nat), niceAll r = true → niceAll u = true → c ≠ 44 → codes r ++ c :: s = codes u ++ c :: t → r = u ∧ s = t
  | [], [], c, s, t, _, _, _, h => by
    injection h with _ h
    exact ⟨rfl, h⟩
  | [], y :: u, c, s, t, _, _, hc, h => by
    injection h with h _
    exact absurd h hc
  | x :: r, [], c, s, t, _, _, hc, h => by
    injection h with h _
    exact absurd h.symm hc
  | x :: r, y :: u, c, s, t, hn, he, hc, h => by
    rw [niceAll, Bool.and_eq_true] at hn he
    have h' : 44 :: 32 :: (code x ++ codes r) ++ c :: s = 44 :: 32 :: (code y ++ codes u) ++ c :: t := h
    simp only [List.cons_append, List.append_assoc] at h'
    injection h' with _ h'
    injection h' with _ h'
    obtain ⟨e1, h'⟩ := pf x y _ _ hn.1 he.1 h'
    obtain ⟨e2, h'⟩ := pfs r u c s t hn.2 he.2 hc h'
    exact ⟨by rw [e1, e2], h'⟩
end
/-- repr is one to one -/
theorem shown_inj {d e : PyData} (hd : nice d = true) (he : nice e = true) (h : d.shown = e.shown) : d = e := by
  refine (pf d e [] [] hd he ?_).1
  rw [← code_eq d hd, ← code_eq e he, h]
end Zy
set_option Elab.async false
set_option linter.all false
set_option maxRecDepth 100000
set_option maxHeartbeats 4000000
/-! Xs: sorted(t, key=str) of a tuple of tuples that hold data. -/
namespace Xs
open PySem PyProof.Rows PySem.W
theorem tree_ty (i : String) (a : Addr) : Builtin.«list.sort» ⟨[.ref a], [(Str.ofString "key", .type i)]⟩ = ksk_tree a (.type i) false := rfl
section
variable {prog : Program} {w : World} {A : Around} {E : Value → Shared → Prop} {s : Shared} {β : Type} {vs : List Value} {bs : List β} {R : Value → β → Prop}
/-- sorted(t, key=f), t a tuple -/
theorem sorted_key_tup {l : Addr} {f : Value} {kw : List (Str × Value)} {b : Bool} {Q : Value → Shared → Prop} (k : β → PyData) (hl : IsTup s.heap l vs.toArray) (e : EachIs R vs bs) (hal : AllAlike (bs.map k)) (hk : Sortable (bs.map k)) (hL : bs.length ≤ sizeLine)
    (hu : ∀ x, x ∈ bs → A.units + 2 + (k x).depth < cLine) (ha1 : argsOk "sorted" ⟨[.ref l], kw⟩) (ha2 : ∀ x, argsOk "list.sort" ⟨[.ref x], kw⟩) (ht : ∀ x, Builtin.«list.sort» ⟨[.ref x], kw⟩ = ksk_tree x f b)
    (turn : ∀ (v : Value) (x : β), R v x → x ∈ bs → ∀ (h : Heap) (tk : Nat), (∀ b o, s.heap.get? b = some o → h.get? b = some o) →
      wpAny (model prog w) A.in1.in1 (call f [v]) (KeyPure (k x) { s with heap := h, toks := tk }) (fun _ _ => False) { s with heap := h, toks := tk })
    (h : ∀ (h1 h' : Heap) (d : Addr) out c tk, (∀ b o, s.heap.get? b = some o → h1.get? b = some o) → (∀ b o, h1.get? b = some o → h'.get? b = some o) → h1.objs.size ≤ d → h'.get? d = some (seqObj "list" (List.toArray out) c) → out.length = bs.length → EachIs R out (bs.mergeSort (dataLe b k)) →
      Q (.ref d) { s with heap := h', toks := tk }) :
    wpAny (model prog w) A (call (.builtin "sorted") [.ref l] kw) Q E s := by
  have hz : vs.length ≤ sizeLine := by rw [e.length]; exact hL
  obtain ⟨ol, hol, hcl, nl, hdl⟩ := hl
  refine call_function_entry_kw kind_sorted plain_sorted entry_sorted ha1 ?_
  unfold Builtin.«sorted»
  refine wpAny_bind (m := checkCount "sorted" 1 1 _) (wpAny_pure ?_)
  refine wpAny_bind (wpAny_collect_seq l (.inr rfl) hol hcl hdl (fun h1 k1 => ?_) (by rw [List.size_toArray]; exact hz))
  rw [show vs.toArray.toList = vs by simp]
  refine wpAny_bind (wpAny_newList ?_ hz)
  have hoL : (h1.push (seqObj "list" vs.toArray 0)).get? h1.objs.size = some (seqObj "list" vs.toArray 0) := Heap.get?_push_size _ rfl
  have up : ∀ {g : Heap}, KeepsBut h1.objs.size (h1.push (seqObj "list" vs.toArray 0)) g → ∀ b o, h1.get? b = some o → g.get? b = some o := fun {g} kp b o q =>
    kp b o (Nat.ne_of_lt (Heap.lt_size q)) (Heap.get?_push_of_some _ q)
  refine wpAny_bind (wpAny_holding (wpAny_call_entry_kw slot_list_sort ⟨_, hoL, rfl⟩ entry_list_sort ?_ (ha2 _)))
  rw [ht]
  refine keyH_tree (kz := bs.map k) (s := { s with heap := h1.push (seqObj "list" vs.toArray 0) }) hoL (by rw [List.length_map]; exact e.length.symm) hz hal hk (bound_map (A := A.in1.in1) hu)
    (keyH_turns (s := { s with heap := h1.push (seqObj "list" vs.toArray 0) }) e fun v x hR hx h tk kp => turn v x hR hx h tk fun b o q => up kp b o (k1 b o q)) fun h' tk out c kp hD ko => ⟨_, rfl, ?_⟩
  refine wpAny_pure ⟨_, rfl, h h1 h' h1.objs.size out c tk k1 (up kp) (Nat.le_refl _) hD ?_ (keyedOut_each k ko e)⟩
  exact (ko.length (by rw [List.length_map]; exact e.length.symm)).trans e.length
end
end Xs
namespace Xs
open PySem PySem.Spec PyProof.Rows L2 Zg PySem.W
theorem vals_refs : ∀ ys : List Addr, Vals (ys.map V.ref) (ys.map Value.ref)
  | [] => .nil
  | _ :: ys => .cons rfl (vals_refs ys)
/-- data by what str tells of them -/
abbrev byStr : List PyData → List PyData := fun ds => ds.mergeSort (dataLe false fun d => .str d.shown)
section
variable {X : Cx}
/-- sorted(t, key=str), t a tuple of objects that hold data -/
def rSortStr (K : PySem.W.Frag) : List V → List V → Hp → VK → Prop := fun vs zs H Q => ∃ (a : Addr) (xs : List Addr) (ds : List PyData), vs = [V.ref a] ∧ zs = [.ty "str"] ∧ SqT K H a (xs.map V.ref) ∧ DpAll K H (xs.map V.ref) ds ∧
  (∀ d ∈ ds, d.showable = true ∧ d.hasDict = false ∧ d.depth ≤ 58 ∧ d.shown.length ≤ sizeLine) ∧
  ∀ (ys : List Addr) (p : Addr), ys.length = ds.length → H p = none → DpAll K H (ys.map V.ref) (byStr ds) → Q (.ref p) (upd H p (.lst (ys.map V.ref)))
theorem dpAll_iff {K : PySem.W.Frag} {H : Hp} : ∀ {xs : List Addr} {ds : List PyData}, DpAll K H (xs.map V.ref) ds → EachIs (fun v (q : Addr × PyData) => v = Value.ref q.1 ∧ Dp K H (.ref q.1) q.2) (xs.map Value.ref) (xs.zip ds) ∧ (xs.zip ds).map Prod.snd = ds
  | [], _, .nil => ⟨.nil, rfl⟩
  | x :: xs, d :: ds, .cons h t => by
    obtain ⟨h1, h2⟩ := dpAll_iff t
    exact ⟨.cons ⟨rfl, h⟩ h1, congrArg (d :: ·) h2⟩
theorem each_dp {K : PySem.W.Frag} {H : Hp} : ∀ {out : List Value} {qs : List (Addr × PyData)}, EachIs (fun v (q : Addr × PyData) => v = Value.ref q.1 ∧ Dp K H (.ref q.1) q.2) out qs → out = (qs.map Prod.fst).map Value.ref ∧ DpAll K H ((qs.map Prod.fst).map V.ref) (qs.map Prod.snd)
  | _, _, .nil => ⟨rfl, .nil⟩
  | _, _, .cons h t => by
    obtain ⟨h1, h2⟩ := each_dp t
    obtain ⟨rfl, h⟩ := h
    exact ⟨by rw [h1]; rfl, .cons h h2⟩
theorem cr_sortStr {k : Nat} (hgd : Gd X.A) (hr : Room k X.A) : CallRK X (.builtin "sorted") [Str.ofString "key"] (rSortStr X.K) := by
  intro pins s σ H vs zs us ws Q I r rz h
  obtain ⟨a, xs, ds, rfl, rfl, hs, hd, hok, q⟩ := h
  obtain ⟨its, rv, hl, hz⟩ := I.tuple hs
  obtain ⟨u, rfl, ru⟩ := vals1 r
  obtain rfl : u = Value.ref a := ru
  obtain ⟨w1, rfl, e1⟩ := vals1 rz
  obtain rfl : w1 = Value.type "str" := e1
  have ei : its = xs.map Value.ref := refs_at rv
  subst ei
  rw [List.length_map] at hz
  obtain ⟨e, e2⟩ := dpAll_iff hd
  have hlen := e.length
  rw [List.length_map] at hlen
  have hdl : ds.length = xs.length := by
    rw [← e2, List.length_map, hlen]
  have hu := hr.un
  refine sorted_key_tup (k := fun q : Addr × PyData => .str q.2.shown) (b := false) hl e (fun d hd d' hd' => ?_) (.inr fun d hd => ?_) (by rw [← hlen]; exact hz) (fun x hx => ?_) (ksk_s1 _ _) (fun _ => ksk_l1 _ _) (fun x => tree_ty "str" x) (fun v x hR hx h tk kp => ?_) fun h1 h' d out c tk k1 kp hd hn ho hE => ?_
  · obtain ⟨q, _, rfl⟩ := List.mem_map.mp hd
    obtain ⟨q', _, rfl⟩ := List.mem_map.mp hd'
    rfl
  · obtain ⟨q, _, rfl⟩ := List.mem_map.mp hd
    exact ⟨nofun, nofun⟩
  · show X.A.units + 2 + 0 < cLine
    omega
  · obtain ⟨rfl, hx2⟩ := hR
    have hm : x.2 ∈ ds := by rw [← e2]; exact List.mem_map_of_mem hx
    obtain ⟨h1, h2, h3, h4⟩ := hok _ hm
    obtain ⟨as, rd⟩ := Dp.reads I x.2 _ _ hx2 rfl
    refine str_of_reads rd h1 (fun z => by rw [h2] at z; cases z) hgd (by show X.A.units + 1 + 1 + (x.2.depth + 3) < cLine; omega) kp (fun h' u tk2 hk => ?_) h4
    exact ⟨h', tk2, rfl, hk, .str _ _⟩
  · obtain ⟨rfl, hD⟩ := each_dp hE
    have em : ((xs.zip ds).mergeSort (dataLe false fun q : Addr × PyData => .str q.2.shown)).map Prod.snd = byStr ds := by
      refine (List.map_mergeSort (f := Prod.snd) (s := dataLe false fun d : PyData => .str d.shown) fun a _ b _ => ?_).trans (congrArg byStr e2)
      rfl
    rw [em] at hD
    have hol : (((xs.zip ds).mergeSort (dataLe false fun q : Addr × PyData => .str q.2.shown)).map Prod.fst).length = ds.length := by
      rw [List.length_map] at ho
      rw [ho, ← hlen, hdl]
    have I1 : Inv X pins σ H { s with heap := h1 } := I.kept (t' := s.toks) k1
    have hz' : ((((xs.zip ds).mergeSort (dataLe false fun q : Addr × PyData => .str q.2.shown)).map Prod.fst).map V.ref).length ≤ sizeLine := by
      rw [List.length_map, hol, hdl]
      exact hz
    exact ⟨.ref d, _, I1.laid (t' := tk) kp hd (o := .lst ((((xs.zip ds).mergeSort (dataLe false fun q : Addr × PyData => .str q.2.shown)).map Prod.fst).map V.ref)) ⟨hz', _, c, vals_refs _, hn⟩, rfl, q _ d hol (I1.hok.fresh hd) hD⟩
end
/-! ### the sorted lists -/
theorem byStr_perm (ds : List PyData) : (byStr ds).Perm ds := List.mergeSort_perm _ _
theorem str_ext {x y : PySem.Str} (h : x.cps.toList = y.cps.toList) : x = y := by
  obtain ⟨⟨x⟩⟩ := x
  obtain ⟨⟨y⟩⟩ := y
  have h' : x = y := h
  rw [h']
theorem byStr_eq {ds es : List PyData} (inj : ∀ d ∈ ds, ∀ e ∈ ds, d.shown = e.shown → d = e) (h : ds.Perm es) : byStr ds = byStr es := by
  have tl := sortLe_total (listOrd itemOrd) false (fun d : PyData => keyToks (.str d.shown))
  have srt : ∀ l : List PyData, (byStr l).Pairwise fun a b => dataLe false (fun d : PyData => .str d.shown) a b = true := fun l => List.pairwise_mergeSort (le := dataLe false fun d : PyData => .str d.shown) (fun a b c => tl.trans a b c) (fun a b => by
    have := tl.total a b
    rw [Bool.or_eq_true]
    first
      | exact this
      | (rw [Bool.or_eq_true] at this; exact this)) l
  refine List.Perm.eq_of_pairwise (le := fun a b => dataLe false (fun d : PyData => .str d.shown) a b = true) (fun a b ha hb h1 h2 => ?_) (srt ds) (srt es) ((byStr_perm ds).trans (h.trans (byStr_perm es).symm))
  have ha' : a ∈ ds := (byStr_perm ds).mem_iff.mp ha
  have hb' : b ∈ ds := h.mem_iff.mpr ((byStr_perm es).mem_iff.mp hb)
  rw [dataLe_str] at h1 h2
  exact inj a ha' b hb' (str_ext (List.le_antisymm (of_decide_eq_true h1) (of_decide_eq_true h2)))
theorem byStr_iff {ds es : List PyData} (inj : ∀ d ∈ ds, ∀ e ∈ ds, d.shown = e.shown → d = e) : byStr ds = byStr es ↔ ds.Perm es :=
  ⟨fun h => (byStr_perm ds).symm.trans ((List.Perm.of_eq h).trans (byStr_perm es)), byStr_eq inj⟩
end Xs
set_option Elab.async false
set_option linter.all false
set_option maxRecDepth 100000
set_option maxHeartbeats 4000000
/-! Xk: a def that may raise, called where it does not; C.m(k = v, ..), m a classmethod, by keywords alone. -/
namespace Xk
open PySem PySem.Spec PyProof.Rows L2 ClX
section
variable {P : Program} {w : World} {K : PySem.W.Frag} {mg : PySem.Str → Option Value} {base : Heap} {k : Nat} {f : Addr} {fd : FuncData} {ps : List PySem.Str} {sp : Sp}
/-- what is promised where no raise is wished -/
theorem calm (F : FnOk P w K mg base (L2N.CX P w) k f fd ps sp) : FnOk P w K mg base CX0 k f fd ps (fun vs H Q _ => sp vs H Q E0) :=
  ⟨fun vs H Q E h => F.len vs H Q E0 h, fun A outer s H args us vs Q E hr e0 hb hv hs => codeAny_mono (F.run A outer s H args us vs Q E0 hr e0 hb hv hs) fun r s' hq => by
    cases r with
    | error e =>
      obtain ⟨a, B, H', cls, d, _, _, _, _, _, _, _, h⟩ := hq
      exact h.elim
    | ok fl => cases fl <;> exact hq⟩
end
/-- C.m(k = v, ..) -/
def tCMethKw (C : Addr) (n : Nat) (sp : Sp) (gV : List V → List V → List V) (E : XK) (ta : TE) (tk : TA) : TE := fun σ H Q => ta σ H fun x H1 => x = .ref C ∧ tk σ H1 fun zs H2 => zs.length = n ∧ sp (gV [.ref C] zs) H2 Q E
section
variable {X : Cx} {CX : CXT} {k : Nat} {C p g : Addr} {fd : FuncData} {ps ks : List PySem.Str} {mc : Value} {sp : Sp} {E : XK} {o : Expr} {kws : List Keyword} {m : PySem.Str} {pos apos : Pos} {ta : TE} {tk : TA} {gg : List Value → List Value → List Value} {gV : List V → List V → List V} {pl : Sem Bool}
theorem run_cmKw {pins : List (Addr × Obj)} {σ : L2.St} {H : Hp} {s : Shared} {q : Addr} {Q : VK} {ws : List Value} {zs : List V} (F : FnOk X.prog X.w X.K X.mg X.base CX k g fd ps sp) (hr : Room k X.A) (hb : KBn X.K fd ps 1 ks gg gV) (hx : Passes CX X E)
    (I : Inv X ((q, PySem.W.methodObj (.ref g) (.ref C)) :: pins) σ H s) (rz : Vals zs ws) (l2 : zs.length = ks.length) (h : sp (gV [.ref C] zs) H Q E) : wpAny (model X.prog X.w) X.A (call (.ref q) [] (ks.zip ws)) (EP X pins σ Q) X.xe s := by
  have r1 : Vals [V.ref C] [Value.ref C] := .cons rfl .nil
  have z : wpAny (model X.prog X.w) X.A (call (.ref q) [] (ks.zip ws)) (EP X ((q, PySem.W.methodObj (.ref g) (.ref C)) :: pins) σ Q) X.xe s := by
    refine wpAny_call (PySem.W.method_call (pin_at I) (codeAny_mono (F.run X.A X.stack s H ⟨[.ref C], ks.zip ws⟩ (gg [.ref C] ws) (gV [.ref C] zs) Q E hr I.env0 (hb.to s [.ref C] ws I.kIn rfl (rz.length.symm.trans l2)) (hb.rel r1 rz) h) fun r s' hq => ?_))
    cases r with
    | error e => exact hx _ σ H s e s' I hq
    | ok fl =>
      cases fl with
      | ret u => exact I.after hq
      | next => exact False.elim hq
      | brk => exact False.elim hq
      | cont => exact False.elim hq
  exact thn z fun _ _ y => unpinE y
theorem pe_cmethKw (he : PE X o ta) (r : CRead X.K C mc) (c : CMet X.K C mc m p g) (F : FnOk X.prog X.w X.K X.mg X.base CX k g fd ps sp) (hr : Room k X.A) (hb : KBn X.K fd ps 1 ks gg gV) (hx : Passes CX X E) (hkw : PK X kws tk)
    (hall : (backToKw pos (keywordEach kws X.env)).all (·.1.isSome) = true := by rfl) (hks : (backToKw pos (keywordEach kws X.env)).filterMap (·.1) = ks := by rfl)
    (hpl : ((backTo pos (starEach [] X.env)).any (·.1) || (backToKw pos (keywordEach kws X.env)).any (·.1.isNone)) = false := by rfl)
    (ht : eval (.Call (.Attribute o m apos) [] kws pos) X.env = (do
      let ov ← eval o X.env
      standAt apos.atName
      let (f, first) ← holding [ov] (getMethod ov m pl)
      callWith pos f first (backTo pos (starEach [] X.env)) (backToKw pos (keywordEach kws X.env))) := by rfl) :
    PE X (.Call (.Attribute o m apos) [] kws pos) (tCMethKw C ks.length sp gV E ta tk) := by
  refine ⟨fun pins s σ H Q I h => ?_⟩
  refine PySem.W.methodCall_KW (pl := pl) (thn (he.run pins s σ H _ I h) fun u s1 ⟨x, H1, I1, rx, ex, q⟩ => ?_) ht
  subst ex
  obtain rfl : u = Value.ref C := rx
  refine getmethcm_ok I1 r c fun s2 I2 => ?_
  refine PySem.W.callWith_of hpl (PySem.W.keeps_M c.fi) (PyProof.Rows.evalArgs_kw2_nil hall (thn (hkw.run pos _ s2 σ H1 _ I2 q) fun ws s3 ⟨zs, H2, I3, rz, l2, q2⟩ => ⟨⟨pin_at I3, I3.kIn⟩, ?_⟩))
  rw [hks]
  exact run_cmKw F hr hb hx I3 rz l2 q2
end
end Xk
set_option Elab.async false
set_option linter.all false
set_option maxRecDepth 100000
set_option maxHeartbeats 4000000
/-! k02: the text, the draws. -/
namespace K02
open PySem PySem.Spec PyProof.Rows L2 Zg Zr Zd Zv
/-! ### the orders of keywords -/
def pm0 {α : Type} (l : List α) : List α := l
theorem pm0_rel {zs : List V} {ws : List Value} (r : Vals zs ws) : Vals (pm0 zs) (pm0 ws) := r
theorem pm0_len (n : Nat) (zs : List V) (h : zs.length = n) : (pm0 zs).length = n := h
/-- two keywords in the other order -/
def pm10 {α : Type} : List α → List α
  | [a, b] => [b, a]
  | l => l
theorem pm10_rel {zs : List V} {ws : List Value} (r : Vals zs ws) : Vals (pm10 zs) (pm10 ws) := by
  match zs, ws, r with
  | _, _, .nil => exact .nil
  | _, _, .cons a .nil => exact .cons a .nil
  | _, _, .cons a (.cons b .nil) => exact .cons b (.cons a .nil)
  | _, _, .cons a (.cons b (.cons c r)) => exact .cons a (.cons b (.cons c r))
theorem pm10_len (n : Nat) (zs : List V) (h : zs.length = n) : (pm10 zs).length = n := by
  match zs, h with
  | [], h => exact h
  | [_], h => exact h
  | [_, _], h => exact h
  | _ :: _ :: _ :: _, h => exact h
/-! ### the text -/
def topS (i : Nat) : Stmt := PySem.Challenge.pw_plugcaller_k02_stores_of_any_value.main.body.getD i (.Pass ⟨0, 0, 0, 0⟩)
abbrev s__wall : Stmt := topS 0
abbrev N__wall : List PySem.Str := ["k"]
abbrev P__wall : List PySem.Str := ["k"]
theorem sc__wall : FnScope N__wall P__wall (defScope s__wall) := ⟨rfl, rfl, rfl, by decide +kernel, rfl, by decide +kernel, by decide +kernel⟩
abbrev s_BadStore_init : Stmt := inClass (topS 3) 0
abbrev N_BadStore_init : List PySem.Str := ["self", "part"]
abbrev P_BadStore_init : List PySem.Str := ["self", "part"]
theorem sc_BadStore_init : FnScope N_BadStore_init P_BadStore_init (defScope s_BadStore_init) := ⟨rfl, rfl, rfl, by decide +kernel, rfl, by decide +kernel, by decide +kernel⟩
abbrev s_is_integer : Stmt := topS 12
abbrev N_is_integer : List PySem.Str := ["thing"]
abbrev P_is_integer : List PySem.Str := ["thing"]
theorem sc_is_integer : FnScope N_is_integer P_is_integer (defScope s_is_integer) := ⟨rfl, rfl, rfl, by decide +kernel, rfl, by decide +kernel, by decide +kernel⟩
abbrev s_is_name : Stmt := topS 13
abbrev N_is_name : List PySem.Str := ["thing", "letter"]
abbrev P_is_name : List PySem.Str := ["thing"]
theorem sc_is_name : FnScope N_is_name P_is_name (defScope s_is_name) := ⟨rfl, rfl, rfl, by decide +kernel, rfl, by decide +kernel, by decide +kernel⟩
abbrev s_are_ascending : Stmt := topS 14
abbrev N_are_ascending : List PySem.Str := ["thing", "one", "other"]
abbrev P_are_ascending : List PySem.Str := ["thing"]
theorem sc_are_ascending : FnScope N_are_ascending P_are_ascending (defScope s_are_ascending) := ⟨rfl, rfl, rfl, by decide +kernel, rfl, by decide +kernel, by decide +kernel⟩
abbrev s_is_state : Stmt := topS 15
abbrev N_is_state : List PySem.Str := ["size", "thing"]
abbrev P_is_state : List PySem.Str := ["size", "thing"]
theorem sc_is_state : FnScope N_is_state P_is_state (defScope s_is_state) := ⟨rfl, rfl, rfl, by decide +kernel, rfl, by decide +kernel, by decide +kernel⟩
abbrev s_are_states : Stmt := topS 16
abbrev N_are_states : List PySem.Str := ["size", "thing", "one"]
abbrev P_are_states : List PySem.Str := ["size", "thing"]
theorem sc_are_states : FnScope N_are_states P_are_states (defScope s_are_states) := ⟨rfl, rfl, rfl, by decide +kernel, rfl, by decide +kernel, by decide +kernel⟩
abbrev s_is_size : Stmt := topS 17
abbrev N_is_size : List PySem.Str := ["thing"]
abbrev P_is_size : List PySem.Str := ["thing"]
theorem sc_is_size : FnScope N_is_size P_is_size (defScope s_is_size) := ⟨rfl, rfl, rfl, by decide +kernel, rfl, by decide +kernel, by decide +kernel⟩
abbrev s_is_action : Stmt := topS 18
abbrev N_is_action : List PySem.Str := ["size", "thing", "then"]
abbrev P_is_action : List PySem.Str := ["size", "thing"]
theorem sc_is_action : FnScope N_is_action P_is_action (defScope s_is_action) := ⟨rfl, rfl, rfl, by decide +kernel, rfl, by decide +kernel, by decide +kernel⟩
abbrev s_check_store : Stmt := topS 19
abbrev N_check_store : List PySem.Str := ["size", "actions", "resting", "names", "action"]
abbrev P_check_store : List PySem.Str := ["size", "actions", "resting"]
theorem sc_check_store : FnScope N_check_store P_check_store (defScope s_check_store) := ⟨rfl, rfl, rfl, by decide +kernel, rfl, by decide +kernel, by decide +kernel⟩
abbrev s_ways_from : Stmt := topS 20
abbrev N_ways_from : List PySem.Str := ["actions", "state", "found", "waiting", "at", "here", "name", "moves", "then"]
abbrev P_ways_from : List PySem.Str := ["actions", "state"]
theorem sc_ways_from : FnScope N_ways_from P_ways_from (defScope s_ways_from) := ⟨rfl, rfl, rfl, by decide +kernel, rfl, by decide +kernel, by decide +kernel⟩
abbrev s_shown_states : Stmt := topS 21
abbrev N_shown_states : List PySem.Str := ["states", "state"]
abbrev P_shown_states : List PySem.Str := ["states"]
theorem sc_shown_states : FnScope N_shown_states P_shown_states (defScope s_shown_states) := ⟨rfl, rfl, rfl, by decide +kernel, rfl, by decide +kernel, by decide +kernel⟩
abbrev s_integer_in : Stmt := topS 22
abbrev N_integer_in : List PySem.Str := ["word", "sign"]
abbrev P_integer_in : List PySem.Str := ["word"]
theorem sc_integer_in : FnScope N_integer_in P_integer_in (defScope s_integer_in) := ⟨rfl, rfl, rfl, by decide +kernel, rfl, by decide +kernel, by decide +kernel⟩
abbrev s_states_in : Stmt := topS 23
abbrev N_states_in : List PySem.Str := ["word", "found", "part"]
abbrev P_states_in : List PySem.Str := ["word"]
theorem sc_states_in : FnScope N_states_in P_states_in (defScope s_states_in) := ⟨rfl, rfl, rfl, by decide +kernel, rfl, by decide +kernel, by decide +kernel⟩
abbrev s_moves_in : Stmt := topS 24
abbrev N_moves_in : List PySem.Str := ["word", "parts", "part"]
abbrev P_moves_in : List PySem.Str := ["word"]
theorem sc_moves_in : FnScope N_moves_in P_moves_in (defScope s_moves_in) := ⟨rfl, rfl, rfl, by decide +kernel, rfl, by decide +kernel, by decide +kernel⟩
abbrev s_size_in : Stmt := topS 25
abbrev N_size_in : List PySem.Str := ["line", "words"]
abbrev P_size_in : List PySem.Str := ["line"]
theorem sc_size_in : FnScope N_size_in P_size_in (defScope s_size_in) := ⟨rfl, rfl, rfl, by decide +kernel, rfl, by decide +kernel, by decide +kernel⟩
abbrev s_resting_in : Stmt := topS 26
abbrev N_resting_in : List PySem.Str := ["line", "size", "words"]
abbrev P_resting_in : List PySem.Str := ["line", "size"]
theorem sc_resting_in : FnScope N_resting_in P_resting_in (defScope s_resting_in) := ⟨rfl, rfl, rfl, by decide +kernel, rfl, by decide +kernel, by decide +kernel⟩
abbrev s_action_in : Stmt := topS 27
abbrev N_action_in : List PySem.Str := ["line", "size", "word", "parts", "action"]
abbrev P_action_in : List PySem.Str := ["line", "size"]
theorem sc_action_in : FnScope N_action_in P_action_in (defScope s_action_in) := ⟨rfl, rfl, rfl, by decide +kernel, rfl, by decide +kernel, by decide +kernel⟩
abbrev s_actions_in : Stmt := topS 28
abbrev N_actions_in : List PySem.Str := ["lines", "size", "first", "found", "number", "line", "action"]
abbrev P_actions_in : List PySem.Str := ["lines", "size", "first"]
theorem sc_actions_in : FnScope N_actions_in P_actions_in (defScope s_actions_in) := ⟨rfl, rfl, rfl, by decide +kernel, rfl, by decide +kernel, by decide +kernel⟩
abbrev s_store_of_lines : Stmt := topS 29
abbrev N_store_of_lines : List PySem.Str := ["lines", "size", "resting"]
abbrev P_store_of_lines : List PySem.Str := ["lines"]
theorem sc_store_of_lines : FnScope N_store_of_lines P_store_of_lines (defScope s_store_of_lines) := ⟨rfl, rfl, rfl, by decide +kernel, rfl, by decide +kernel, by decide +kernel⟩
abbrev s_Store_init : Stmt := inClass (topS 30) 0
abbrev N_Store_init : List PySem.Str := ["self", "size", "resting", "actions", "state"]
abbrev P_Store_init : List PySem.Str := ["self", "size", "resting", "actions"]
theorem sc_Store_init : FnScope N_Store_init P_Store_init (defScope s_Store_init) := ⟨rfl, rfl, rfl, by decide +kernel, rfl, by decide +kernel, by decide +kernel⟩
abbrev s_Store_of : Stmt := inClass (topS 30) 1
abbrev N_Store_of : List PySem.Str := ["cls", "size", "actions", "resting"]
abbrev P_Store_of : List PySem.Str := ["cls", "size", "actions", "resting"]
theorem sc_Store_of : FnScope N_Store_of P_Store_of (defScope s_Store_of) := ⟨rfl, rfl, rfl, by decide +kernel, rfl, by decide +kernel, by decide +kernel⟩
abbrev s_Store_eq : Stmt := inClass (topS 30) 5
abbrev N_Store_eq : List PySem.Str := ["self", "other"]
abbrev P_Store_eq : List PySem.Str := ["self", "other"]
theorem sc_Store_eq : FnScope N_Store_eq P_Store_eq (defScope s_Store_eq) := ⟨rfl, rfl, rfl, by decide +kernel, rfl, by decide +kernel, by decide +kernel⟩
abbrev s_Store_contains : Stmt := inClass (topS 30) 6
abbrev N_Store_contains : List PySem.Str := ["self", "name"]
abbrev P_Store_contains : List PySem.Str := ["self", "name"]
theorem sc_Store_contains : FnScope N_Store_contains P_Store_contains (defScope s_Store_contains) := ⟨rfl, rfl, rfl, by decide +kernel, rfl, by decide +kernel, by decide +kernel⟩
abbrev s_well : Stmt := topS 32
abbrev N_well : List PySem.Str := ["script", "told", "blend", "number"]
abbrev P_well : List PySem.Str := ["script"]
theorem sc_well : FnScope N_well P_well (defScope s_well) := ⟨rfl, rfl, rfl, by decide +kernel, rfl, by decide +kernel, by decide +kernel⟩
abbrev s_drawn : Stmt := topS 33
abbrev N_drawn : List PySem.Str := ["well", "many", "seed", "number"]
abbrev P_drawn : List PySem.Str := ["well", "many"]
theorem sc_drawn : FnScope N_drawn P_drawn (defScope s_drawn) := ⟨rfl, rfl, rfl, by decide +kernel, rfl, by decide +kernel, by decide +kernel⟩
abbrev s_one_of : Stmt := topS 34
abbrev N_one_of : List PySem.Str := ["well", "some"]
abbrev P_one_of : List PySem.Str := ["well", "some"]
theorem sc_one_of : FnScope N_one_of P_one_of (defScope s_one_of) := ⟨rfl, rfl, rfl, by decide +kernel, rfl, by decide +kernel, by decide +kernel⟩
abbrev s_name : Stmt := topS 35
abbrev N_name : List PySem.Str := ["well", "many", "k"]
abbrev P_name : List PySem.Str := ["well"]
theorem sc_name : FnScope N_name P_name (defScope s_name) := ⟨rfl, rfl, rfl, by decide +kernel, rfl, by decide +kernel, by decide +kernel⟩
abbrev s_moves : Stmt := topS 36
abbrev N_moves : List PySem.Str := ["well", "large", "found", "k", "then"]
abbrev P_moves : List PySem.Str := ["well", "large"]
theorem sc_moves : FnScope N_moves P_moves (defScope s_moves) := ⟨rfl, rfl, rfl, by decide +kernel, rfl, by decide +kernel, by decide +kernel⟩
abbrev s_store : Stmt := topS 37
abbrev N_store : List PySem.Str := ["well", "large", "rows", "k", "name", "row", "rests", "state"]
abbrev P_store : List PySem.Str := ["well"]
theorem sc_store : FnScope N_store P_store (defScope s_store) := ⟨rfl, rfl, rfl, by decide +kernel, rfl, by decide +kernel, by decide +kernel⟩
abbrev s_odd : Stmt := topS 38
abbrev N_odd : List PySem.Str := ["well", "some"]
abbrev P_odd : List PySem.Str := ["well"]
theorem sc_odd : FnScope N_odd P_odd (defScope s_odd) := ⟨rfl, rfl, rfl, by decide +kernel, rfl, by decide +kernel, by decide +kernel⟩
abbrev s_tuple_bent : Stmt := topS 39
abbrev N_tuple_bent : List PySem.Str := ["well", "item", "at", "way", "inner"]
abbrev P_tuple_bent : List PySem.Str := ["well", "item"]
theorem sc_tuple_bent : FnScope N_tuple_bent P_tuple_bent (defScope s_tuple_bent) := ⟨rfl, rfl, rfl, by decide +kernel, rfl, by decide +kernel, by decide +kernel⟩
abbrev s_bent : Stmt := topS 40
abbrev N_bent : List PySem.Str := ["well", "parts", "at", "part"]
abbrev P_bent : List PySem.Str := ["well", "parts"]
theorem sc_bent : FnScope N_bent P_bent (defScope s_bent) := ⟨rfl, rfl, rfl, by decide +kernel, rfl, by decide +kernel, by decide +kernel⟩
abbrev s_is_whole : Stmt := topS 41
abbrev N_is_whole : List PySem.Str := ["item"]
abbrev P_is_whole : List PySem.Str := ["item"]
theorem sc_is_whole : FnScope N_is_whole P_is_whole (defScope s_is_whole) := ⟨rfl, rfl, rfl, by decide +kernel, rfl, by decide +kernel, by decide +kernel⟩
abbrev s_w_is_name : Stmt := topS 42
abbrev N_w_is_name : List PySem.Str := ["item", "sign"]
abbrev P_w_is_name : List PySem.Str := ["item"]
theorem sc_w_is_name : FnScope N_w_is_name P_w_is_name (defScope s_w_is_name) := ⟨rfl, rfl, rfl, by decide +kernel, rfl, by decide +kernel, by decide +kernel⟩
abbrev s_w_is_action : Stmt := topS 43
abbrev N_w_is_action : List PySem.Str := ["large", "item", "odd", "then"]
abbrev P_w_is_action : List PySem.Str := ["large", "item"]
theorem sc_w_is_action : FnScope N_w_is_action P_w_is_action (defScope s_w_is_action) := ⟨rfl, rfl, rfl, by decide +kernel, rfl, by decide +kernel, by decide +kernel⟩
abbrev s_fault : Stmt := topS 44
abbrev N_fault : List PySem.Str := ["large", "rows", "rests", "k", "row", "other", "one", "falls"]
abbrev P_fault : List PySem.Str := ["large", "rows", "rests"]
theorem sc_fault : FnScope N_fault P_fault (defScope s_fault) := ⟨rfl, rfl, rfl, by decide +kernel, rfl, by decide +kernel, by decide +kernel⟩
abbrev s_of : Stmt := topS 45
abbrev N_of : List PySem.Str := ["large", "rows", "rests", "found", "bad"]
abbrev P_of : List PySem.Str := ["large", "rows", "rests"]
theorem sc_of : FnScope N_of P_of (defScope s_of) := ⟨rfl, rfl, rfl, by decide +kernel, rfl, by decide +kernel, by decide +kernel⟩
abbrev s_made : Stmt := topS 46
abbrev N_made : List PySem.Str := ["large", "rows", "rests"]
abbrev P_made : List PySem.Str := ["large", "rows", "rests"]
theorem sc_made : FnScope N_made P_made (defScope s_made) := ⟨rfl, rfl, rfl, by decide +kernel, rfl, by decide +kernel, by decide +kernel⟩
abbrev s_by_class : Stmt := topS 47
abbrev N_by_class : List PySem.Str := ["large", "rows", "rests", "found", "e"]
abbrev P_by_class : List PySem.Str := ["large", "rows", "rests"]
theorem sc_by_class : FnScope N_by_class P_by_class (defScope s_by_class) := ⟨rfl, rfl, rfl, by decide +kernel, rfl, by decide +kernel, by decide +kernel⟩
abbrev s_is_so : Stmt := topS 48
abbrev N_is_so : List PySem.Str := ["told", "large", "rows", "rests", "names", "row", "due", "name"]
abbrev P_is_so : List PySem.Str := ["told", "large", "rows", "rests"]
theorem sc_is_so : FnScope N_is_so P_is_so (defScope s_is_so) := ⟨rfl, rfl, rfl, by decide +kernel, rfl, by decide +kernel, by decide +kernel⟩
abbrev s_values_right : Stmt := topS 49
abbrev N_values_right : List PySem.Str := ["large", "rows", "rests", "was", "fault", "told", "one"]
abbrev P_values_right : List PySem.Str := ["large", "rows", "rests"]
theorem sc_values_right : FnScope N_values_right P_values_right (defScope s_values_right) := ⟨rfl, rfl, rfl, by decide +kernel, rfl, by decide +kernel, by decide +kernel⟩
abbrev s_equals_right : Stmt := topS 50
abbrev N_equals_right : List PySem.Str := ["well", "large", "rows", "rests", "one", "other", "is_due", "things", "row", "item"]
abbrev P_equals_right : List PySem.Str := ["well", "large", "rows", "rests"]
theorem sc_equals_right : FnScope N_equals_right P_equals_right (defScope s_equals_right) := ⟨rfl, rfl, rfl, by decide +kernel, rfl, by decide +kernel, by decide +kernel⟩
abbrev s_law : Stmt := topS 51
abbrev N_law : List PySem.Str := ["script", "well", "turn", "parts", "twins", "row", "again", "bent"]
abbrev P_law : List PySem.Str := ["script"]
theorem sc_law : FnScope N_law P_law (defScope s_law) := ⟨rfl, rfl, rfl, by decide +kernel, rfl, by decide +kernel, by decide +kernel⟩
structure Txt (K : PySem.W.Frag) (mg : PySem.Str → Option Value) : Type where
  a_BadStore_init : Addr
  d_BadStore_init : FuncData
  F_BadStore_init : Fun K "__init__" "BadStore.__init__" s_BadStore_init a_BadStore_init d_BadStore_init
  b_BadStore_init : Binds K d_BadStore_init P_BadStore_init []
  a_is_integer : Addr
  d_is_integer : FuncData
  F_is_integer : Fun K "is_integer" "is_integer" s_is_integer a_is_integer d_is_integer
  g_is_integer : mg "is_integer" = some (.ref a_is_integer)
  b_is_integer : Binds K d_is_integer P_is_integer []
  a_is_name : Addr
  d_is_name : FuncData
  F_is_name : Fun K "is_name" "is_name" s_is_name a_is_name d_is_name
  g_is_name : mg "is_name" = some (.ref a_is_name)
  b_is_name : Binds K d_is_name P_is_name []
  a_are_ascending : Addr
  d_are_ascending : FuncData
  F_are_ascending : Fun K "are_ascending" "are_ascending" s_are_ascending a_are_ascending d_are_ascending
  g_are_ascending : mg "are_ascending" = some (.ref a_are_ascending)
  b_are_ascending : Binds K d_are_ascending P_are_ascending []
  a_is_state : Addr
  d_is_state : FuncData
  F_is_state : Fun K "is_state" "is_state" s_is_state a_is_state d_is_state
  g_is_state : mg "is_state" = some (.ref a_is_state)
  b_is_state : Binds K d_is_state P_is_state []
  a_are_states : Addr
  d_are_states : FuncData
  F_are_states : Fun K "are_states" "are_states" s_are_states a_are_states d_are_states
  g_are_states : mg "are_states" = some (.ref a_are_states)
  b_are_states : Binds K d_are_states P_are_states []
  a_is_size : Addr
  d_is_size : FuncData
  F_is_size : Fun K "is_size" "is_size" s_is_size a_is_size d_is_size
  g_is_size : mg "is_size" = some (.ref a_is_size)
  b_is_size : Binds K d_is_size P_is_size []
  a_is_action : Addr
  d_is_action : FuncData
  F_is_action : Fun K "is_action" "is_action" s_is_action a_is_action d_is_action
  g_is_action : mg "is_action" = some (.ref a_is_action)
  b_is_action : Binds K d_is_action P_is_action []
  a_check_store : Addr
  d_check_store : FuncData
  F_check_store : Fun K "check_store" "check_store" s_check_store a_check_store d_check_store
  g_check_store : mg "check_store" = some (.ref a_check_store)
  b_check_store : Binds K d_check_store P_check_store []
  a_ways_from : Addr
  d_ways_from : FuncData
  F_ways_from : Fun K "ways_from" "ways_from" s_ways_from a_ways_from d_ways_from
  g_ways_from : mg "ways_from" = some (.ref a_ways_from)
  b_ways_from : Binds K d_ways_from P_ways_from []
  a_Store_init : Addr
  d_Store_init : FuncData
  F_Store_init : Fun K "__init__" "Store.__init__" s_Store_init a_Store_init d_Store_init
  a_Store_of : Addr
  d_Store_of : FuncData
  F_Store_of : Fun K "of" "Store.of" s_Store_of a_Store_of d_Store_of
  b_Store_of : Binds K d_Store_of P_Store_of []
  a_Store_eq : Addr
  d_Store_eq : FuncData
  F_Store_eq : Fun K "__eq__" "Store.__eq__" s_Store_eq a_Store_eq d_Store_eq
  b_Store_eq : Binds K d_Store_eq P_Store_eq []
  a_Store_contains : Addr
  d_Store_contains : FuncData
  F_Store_contains : Fun K "__contains__" "Store.__contains__" s_Store_contains a_Store_contains d_Store_contains
  b_Store_contains : Binds K d_Store_contains P_Store_contains []
  a_well : Addr
  d_well : FuncData
  F_well : Fun K "_law_well" "_law_well" s_well a_well d_well
  g_well : mg "_law_well" = some (.ref a_well)
  b_well : Binds K d_well P_well []
  a_drawn : Addr
  d_drawn : FuncData
  F_drawn : Fun K "_law_drawn" "_law_drawn" s_drawn a_drawn d_drawn
  g_drawn : mg "_law_drawn" = some (.ref a_drawn)
  b_drawn : Binds K d_drawn P_drawn []
  a_one_of : Addr
  d_one_of : FuncData
  F_one_of : Fun K "_law_one_of" "_law_one_of" s_one_of a_one_of d_one_of
  g_one_of : mg "_law_one_of" = some (.ref a_one_of)
  b_one_of : Binds K d_one_of P_one_of []
  a_name : Addr
  d_name : FuncData
  F_name : Fun K "_law_name" "_law_name" s_name a_name d_name
  g_name : mg "_law_name" = some (.ref a_name)
  b_name : Binds K d_name P_name []
  a_moves : Addr
  d_moves : FuncData
  F_moves : Fun K "_law_moves" "_law_moves" s_moves a_moves d_moves
  g_moves : mg "_law_moves" = some (.ref a_moves)
  b_moves : Binds K d_moves P_moves []
  a_store : Addr
  d_store : FuncData
  F_store : Fun K "_law_store" "_law_store" s_store a_store d_store
  g_store : mg "_law_store" = some (.ref a_store)
  b_store : Binds K d_store P_store []
  a_odd : Addr
  d_odd : FuncData
  F_odd : Fun K "_law_odd" "_law_odd" s_odd a_odd d_odd
  g_odd : mg "_law_odd" = some (.ref a_odd)
  b_odd : Binds K d_odd P_odd []
  a_tuple_bent : Addr
  d_tuple_bent : FuncData
  F_tuple_bent : Fun K "_law_tuple_bent" "_law_tuple_bent" s_tuple_bent a_tuple_bent d_tuple_bent
  g_tuple_bent : mg "_law_tuple_bent" = some (.ref a_tuple_bent)
  b_tuple_bent : Binds K d_tuple_bent P_tuple_bent []
  a_bent : Addr
  d_bent : FuncData
  F_bent : Fun K "_law_bent" "_law_bent" s_bent a_bent d_bent
  g_bent : mg "_law_bent" = some (.ref a_bent)
  b_bent : Binds K d_bent P_bent []
  a_is_whole : Addr
  d_is_whole : FuncData
  F_is_whole : Fun K "_law_is_whole" "_law_is_whole" s_is_whole a_is_whole d_is_whole
  g_is_whole : mg "_law_is_whole" = some (.ref a_is_whole)
  b_is_whole : Binds K d_is_whole P_is_whole []
  a_w_is_name : Addr
  d_w_is_name : FuncData
  F_w_is_name : Fun K "_law_is_name" "_law_is_name" s_w_is_name a_w_is_name d_w_is_name
  g_w_is_name : mg "_law_is_name" = some (.ref a_w_is_name)
  b_w_is_name : Binds K d_w_is_name P_w_is_name []
  a_w_is_action : Addr
  d_w_is_action : FuncData
  F_w_is_action : Fun K "_law_is_action" "_law_is_action" s_w_is_action a_w_is_action d_w_is_action
  g_w_is_action : mg "_law_is_action" = some (.ref a_w_is_action)
  b_w_is_action : Binds K d_w_is_action P_w_is_action []
  a_fault : Addr
  d_fault : FuncData
  F_fault : Fun K "_law_fault" "_law_fault" s_fault a_fault d_fault
  g_fault : mg "_law_fault" = some (.ref a_fault)
  b_fault : Binds K d_fault P_fault []
  a_of : Addr
  d_of : FuncData
  F_of : Fun K "_law_of" "_law_of" s_of a_of d_of
  g_of : mg "_law_of" = some (.ref a_of)
  b_of : Binds K d_of P_of []
  a_made : Addr
  d_made : FuncData
  F_made : Fun K "_law_made" "_law_made" s_made a_made d_made
  g_made : mg "_law_made" = some (.ref a_made)
  b_made : Binds K d_made P_made []
  a_by_class : Addr
  d_by_class : FuncData
  F_by_class : Fun K "_law_by_class" "_law_by_class" s_by_class a_by_class d_by_class
  g_by_class : mg "_law_by_class" = some (.ref a_by_class)
  b_by_class : Binds K d_by_class P_by_class []
  a_is_so : Addr
  d_is_so : FuncData
  F_is_so : Fun K "_law_is_so" "_law_is_so" s_is_so a_is_so d_is_so
  g_is_so : mg "_law_is_so" = some (.ref a_is_so)
  b_is_so : Binds K d_is_so P_is_so []
  a_values_right : Addr
  d_values_right : FuncData
  F_values_right : Fun K "_law_values_right" "_law_values_right" s_values_right a_values_right d_values_right
  g_values_right : mg "_law_values_right" = some (.ref a_values_right)
  b_values_right : Binds K d_values_right P_values_right []
  a_equals_right : Addr
  d_equals_right : FuncData
  F_equals_right : Fun K "_law_equals_right" "_law_equals_right" s_equals_right a_equals_right d_equals_right
  g_equals_right : mg "_law_equals_right" = some (.ref a_equals_right)
  b_equals_right : Binds K d_equals_right P_equals_right []
  a_law : Addr
  d_law : FuncData
  F_law : Fun K "law" "law" s_law a_law d_law
  g_law : mg "law" = some (.ref a_law)
  b_law : Binds K d_law P_law []
  C_Store : Addr
  g_Store : mg "Store" = some (.ref C_Store)
  cl_Store : Cls K C_Store
  no_Store_size : NoAttr K C_Store "size"
  no_Store_actions : NoAttr K C_Store "actions"
  no_Store_resting : NoAttr K C_Store "resting"
  no_Store_moves_by_name : NoAttr K C_Store "moves_by_name"
  no_Store_ways_by_state : NoAttr K C_Store "ways_by_state"
  mk_Store : Mk K C_Store a_Store_init
  p_Store_of : Addr
  me_Store_of : ClX.CMet K C_Store (.type "type") "of" p_Store_of a_Store_of
  rd_Store : ClX.CRead K C_Store (.type "type")
  C_FlowError : Addr
  g_FlowError : mg "FlowError" = some (.ref C_FlowError)
  cf_FlowError : Xv.cfB K C_FlowError = true
  C_BadStore : Addr
  g_BadStore : mg "BadStore" = some (.ref C_BadStore)
  E_BadStore : Xv.EC K C_BadStore C_FlowError ["part"]
  iC_BadStore : PySem.W.findIn K (.ref C_BadStore) "__init__" = some (some (.ref a_BadStore_init))
  tI_BadStore : PySem.W.typeIn K (.ref a_BadStore_init) = some (.type "function")
  nd : [C_BadStore, C_FlowError].Nodup
  dfl : Addr
  dfD : Addr
  k_dfl : d_Store_init.kwdefaults = .ref dfD
  n_dfl : PySem.W.nsIn K dfD "resting" = some (some (.ref dfl))
  e_dfl : ∃ (o : Obj) (n : Nat), K.lookup dfl = some o ∧ o.cls = .type "tuple" ∧ o.data = .seq #[] n
  ins_Store : Xo.insB K C_Store = true
  eq_Store : PySem.W.findIn K (.ref C_Store) "__eq__" = some (some (.ref a_Store_eq))
  eqf_Store : PySem.W.isFn K (.ref a_Store_eq) = true
  in_Store : PySem.W.findIn K (.ref C_Store) "__contains__" = some (some (.ref a_Store_contains))
  inf_Store : PySem.W.isFn K (.ref a_Store_contains) = true
  kb_is_name_thing : KB0 K d_is_name P_is_name ["thing"] pm0 pm0
  n_all : mg "all" = none
  n_bool : mg "bool" = none
  n_dict : mg "dict" = none
  n_enumerate : mg "enumerate" = none
  n_int : mg "int" = none
  n_isinstance : mg "isinstance" = none
  n_len : mg "len" = none
  n_list : mg "list" = none
  n_range : mg "range" = none
  n_repr : mg "repr" = none
  n_sorted : mg "sorted" = none
  n_str : mg "str" = none
  n_tuple : mg "tuple" = none
  n_zip : mg "zip" = none
  m_LETTERS : ∃ u, mg "LETTERS" = some u ∧ RelV (.str "abcdefghijklmnopqrstuvwxyz") u
  m_LONGEST_NAME : ∃ u, mg "LONGEST_NAME" = some u ∧ RelV (.int 8) u
  m_MOST_STATES : ∃ u, mg "MOST_STATES" = some u ∧ RelV (.int 3) u
  m_PAIR : ∃ u, mg "PAIR" = some u ∧ RelV (.int 2) u
/-! ### the well -/
/-- a dict of the well -/
def WK (l : Addr) (b c : Int) : List (Key × V) := [(.inr "told", .ref l), (.inr "blend", .int b), (.inr "count", .int c)]
theorem wk_told (l : Addr) (b c : Int) : valV (WK l b c) (.inr "told") = some (.ref l) := by rfl
theorem wk_blend (l : Addr) (b c : Int) : valV (WK l b c) (.inr "blend") = some (.int b) := by rfl
theorem wk_count (l : Addr) (b c : Int) : valV (WK l b c) (.inr "count") = some (.int c) := by rfl
theorem wk_put (l : Addr) (b c d : Int) : putK (WK l b c) (.inr "count") (.int d) = WK l b d := by rfl
/-- a well stands at w, its numbers in the list at l; so many draws at most were made -/
def Well (H : Hp) (w l : Addr) (C : Nat) : Prop := w ≠ l ∧ ∃ (b c : Int) (ns : List Int), H w = some (.dK (WK l b c)) ∧ H l = some (.lst (ns.map V.int)) ∧ 0 ≤ b ∧ b < 2147483587 ∧ 0 ≤ c ∧ c ≤ (C : Int) ∧ ns.length ≤ 63
theorem Well.mono {H : Hp} {w l : Addr} {C C' : Nat} (h : Well H w l C) (q : C ≤ C') : Well H w l C' := by
  obtain ⟨n, b, c, ns, h1, h2, h3, h4, h5, h6, h7⟩ := h
  exact ⟨n, b, c, ns, h1, h2, h3, h4, h5, by omega, h7⟩
theorem Well.same {H H' : Hp} {w l : Addr} {C : Nat} (h : Well H w l C) (k : Same H H') : Well H' w l C := by
  obtain ⟨n, b, c, ns, h1, h2, r⟩ := h
  exact ⟨n, b, c, ns, k _ _ h1, k _ _ h2, r⟩
abbrev LIM : Nat := 1000000000
section
variable {P : Program} {w : World} {K : PySem.W.Frag} {mg : PySem.Str → Option Value} {base : Heap}
def sp_law (K : PySem.W.Frag) : Sp := fun vs H Q _ => ∃ (a : Addr) (ns : List Int), vs = [.ref a] ∧ SqL K H a (ns.map V.int) ∧ ns.length ≤ 63 ∧ ∀ (H' : Hp), Q (.bl true) H'
def sp_well (K : PySem.W.Frag) : Sp := fun vs H Q _ => ∃ (a : Addr) (ns : List Int), vs = [.ref a] ∧ SqL K H a (ns.map V.int) ∧ ns.length ≤ 63 ∧
  ∀ (H' : Hp) (w l : Addr), Same H H' → H w = none → H l = none → Well H' w l 0 → Q (.ref w) H'
def sp_drawn : Sp := fun vs H Q _ => ∃ (w l : Addr) (m : Int) (C : Nat), vs = [.ref w, .int m] ∧ Well H w l C ∧ C < LIM ∧ 0 < m ∧ m < 1073741824 ∧
  ∀ (H' : Hp) (r : Int), Kp [w, l] H H' → Well H' w l (C + 1) → 0 ≤ r → r < m → Q (.int r) H'
theorem cut63 {ns : List Int} (h : ns.length ≤ 63) : cutV (ns.map V.int) none (some 63) = ns.map V.int := by
  unfold cutV
  rw [HT.sIx_none, show HT.sIx (ns.map V.int).length (ns.map V.int).length (some 63) = min 63 (ns.map V.int).length from HT.sIx_nat _ _ 63, List.length_map]
  rw [show min 63 ns.length = ns.length by omega]
  show List.take (ns.length - 0) (ns.map V.int) = _
  exact List.take_of_length_le (by rw [List.length_map]; omega)
theorem mod_in {a m : Int} (h : 0 < m) : 0 ≤ a % m ∧ a % m < m := ⟨Int.emod_nonneg _ (by omega), Int.emod_lt_of_pos _ h⟩
theorem cmul_mod {x m j : Int} (h : 0 < m) (h2 : m ≤ 2 ^ 64) : CMul (x % m) j := .inl ⟨by have := (mod_in (a := x) h).1; omega, by have := (mod_in (a := x) h).2; omega⟩
theorem ok_well (T : Txt K mg) : FnOk P w K mg base CX0 1 T.a_well T.d_well P_well (sp_well K) := by
  refine T.F_well.ok sc_well (fun vs H Q E h => by obtain ⟨a, ns, rfl, _⟩ := h; rfl) (fun cdv A outer s H vs Q E hr h => ?_)
  refine ⟨_, (pss_cons (ps_par (i := 1) (j := 2) (by rfl) sc_well.nd rfl rfl (by decide) rfl rfl (pa_cons (pe_callTy call_list_of (by rfl) T.n_list (by decide +kernel) (pa_cons (pe_slice sl_list (pv 0) po_none (po_some pe_int)) pa_nil)) (pa_cons pe_int pa_nil)) (by rfl))
    (pss_cons (ps_for PassesOwn.never rfl (pi_list (pv 1)) (pg_name (i := 3) sc_well.nd rfl (Or.inl rfl)) (pss_one (ps_set (i := 2) sc_well.nd rfl (Or.inl rfl) (pe_op op_mod (pe_callTy call_int1 (by rfl) T.n_int (by decide +kernel) (pa_cons (pe_op op_add (pe_op op_add (pe_op op_mul (pv 2) pe_int) (pe_op op_mod (pe_callTy call_int1 (by rfl) T.n_int (by decide +kernel) (pa_cons (pv 3) pa_nil)) pe_int)) pe_int) pa_nil)) pe_int))))
    (pss_one (ps_ret (pe_disp (pps_cons pe_str (pe_revL (pv 1)) (pps_cons pe_str (pv 2) (pps_cons pe_str pe_int pps_nil))) (by rfl) (by rfl) (fun z => by cases z) (by decide)))))), ?_⟩
  obtain ⟨a, ns, rfl, hS, hl, q⟩ := h
  refine ⟨_, rfl, 63, rfl, a, ns.map V.int, rfl, hS, fun p hp => ?_⟩
  rw [cut63 hl]
  refine ⟨p, _, rfl, .inl (SqL.of upd_same), fun l hl2 => ?_⟩
  refine ⟨_, _, rfl, ?_⟩
  have pl : l ≠ p := fun e => by
    rw [e, upd_same] at hl2
    cases hl2
  have hl0 : H l = none := by rw [upd_ne pl] at hl2; exact hl2
  have s1 : Same H (upd (upd H p (.lst (ns.map V.int))) l (.lst (ns.map V.int))) := fun b o e => by
    rw [upd_ne (ne_of_none e hl0), upd_ne (ne_of_none e hp)]
    exact e
  generalize hH : upd (upd H p (.lst (ns.map V.int))) l (.lst (ns.map V.int)) = H2 at s1 ⊢
  have hL : H2 l = some (.lst (ns.map V.int)) := by rw [← hH]; exact upd_same
  refine ⟨_, rfl, l, rfl, ⟨_, SqL.of hL⟩, for_list (K := K) (a := l) (xs := ns.map V.int) (fun i σ H' => ∃ (b : Int) (y : Option V), σ = [some (.ref a), some (.ref l), some (.int b), y] ∧ H' = H2 ∧ 0 ≤ b ∧ b < 2147483587)
    ⟨52363, none, rfl, rfl, by decide, by decide⟩ (fun i σ H' _ ⟨_, _, _, e, _⟩ => by rw [e]; exact SqL.of hL) ?_ ?_⟩
  · rintro i x σ H' hi ⟨b, y, rfl, rfl, hb0, hb1⟩
    obtain ⟨z, rfl⟩ : ∃ z, x = V.int z := by
      rw [List.getElem?_map] at hi
      cases e : ns[i]? with
      | none => rw [e] at hi; cases hi
      | some z => rw [e] at hi; exact ⟨z, (Option.some.inj hi).symm⟩
    refine ⟨_, rfl, _, _, rfl, rfl, .inr ⟨by decide, by decide⟩, _, rfl, .inl ⟨_, rfl, _, _, rfl, rfl, (by decide : (0 : Int) < 2147483629), _, _, rfl, rfl, _, _, rfl, rfl, .inl ⟨_, rfl, _, _, rfl, rfl, (by decide : (0 : Int) < 2147483587), ?_⟩⟩⟩
    exact ⟨_, _, rfl, rfl, (mod_in (by decide)).1, (mod_in (by decide)).2⟩
  · rintro σ H' ⟨b, y, rfl, rfl, hb0, hb1⟩
    refine fun d hd => ?_
    have dl : d ≠ l := fun e => by
      rw [e, hL] at hd
      cases hd
    refine ⟨_, rfl, l, ns.map V.int, rfl, SqL.of (by rw [upd_ne dl.symm]; exact hL), fun r hr2 => ?_⟩
    have rd : r ≠ d := fun e => by
      rw [e, upd_same] at hr2
      cases hr2
    have hr0 : H' r = none := by rw [upd_ne rd] at hr2; exact hr2
    refine ⟨_, rfl, ?_⟩
    refine ⟨by rw [upd_ne rd.symm]; exact upd_same, WK r b 0, rfl, (by show 3 ≤ 15; decide), ?_⟩
    refine q _ d r (fun x o e => ?_) (s1.free hd) (s1.free hr0) ⟨rd.symm, b, 0, ns.reverse, ?_, ?_, hb0, hb1, by decide, by decide, by rw [List.length_reverse]; exact hl⟩
    · have e2 := s1 x o e
      rw [upd_ne (ne_of_none e2 hd), upd_ne (ne_of_none e2 hr0), upd_ne (ne_of_none e2 hd)]
      exact e2
    · exact upd_same
    · rw [upd_ne rd, upd_same, List.map_reverse]

theorem ok_drawn (T : Txt K mg) : FnOk P w K mg base CX0 1 T.a_drawn T.d_drawn P_drawn sp_drawn := by
  refine T.F_drawn.ok sc_drawn (fun vs H Q E h => by obtain ⟨w, l, m, C, rfl, _⟩ := h; rfl) (fun cdv A outer s H vs Q E hr h => ?_)
  refine ⟨_, (pss_cons (ps_dput (hu_of hr) (pv 0) pe_str (pe_op op_add (pe_dget (hu_of hr) (pv 0) pe_str (fun _ _ => rfl)) pe_int) rfl)
    (pss_cons (ps_set (i := 2) sc_drawn.nd rfl (Or.inl rfl) (pe_op op_add (pe_dget (hu_of hr) (pv 0) pe_str (fun _ _ => rfl)) (pe_op op_mul (pe_op op_mul pe_int (pe_dget (hu_of hr) (pv 0) pe_str (fun _ _ => rfl))) (pe_dget (hu_of hr) (pv 0) pe_str (fun _ _ => rfl)))))
    (pss_cons (ps_if (pt_cmpR (op_neD hr.units) (pe_dget (hu_of hr) (pv 0) pe_str (fun _ _ => rfl)) (pe_lst pa_nil) (nomark _)) (pss_cons (ps_set (i := 3) sc_drawn.nd rfl (Or.inl rfl) (pe_bm0 PySem.F.plainAttrs_list PySem.F.slot_list_pop PySem.F.type_list_pop mt_pop (pe_dget (hu_of hr) (pv 0) pe_str (fun _ _ => rfl))))
    (pss_cons (ps_if (pt_cmpR op_ge (pv 3) (pe_op op_pow pe_int pe_int) (nomark _)) (pss_cons (ps_expr (pe_bm PySem.F.plainAttrs_list PySem.F.slot_list_append PySem.F.type_list_append mt_append (pe_dget (hu_of hr) (pv 0) pe_str (fun _ _ => rfl)) (pa_cons (pe_op op_fdiv (pv 3) (pv 1)) pa_nil)))
    (pss_one (ps_ret (pe_op op_mod (pe_callTy call_int1 (by rfl) T.n_int (by decide +kernel) (pa_cons (pv 3) pa_nil)) (pv 1))))) pss_nil)
    (pss_one (ps_set (i := 2) sc_drawn.nd rfl (Or.inl rfl) (pe_op op_add (pv 2) (pv 3)))))) pss_nil)
    (pss_cons (ps_set (i := 2) sc_drawn.nd rfl (Or.inl rfl) (pe_op op_mod (pe_callTy call_int1 (by rfl) T.n_int (by decide +kernel) (pa_cons (pe_op op_mul (pe_op op_mod (pe_callTy call_int1 (by rfl) T.n_int (by decide +kernel) (pa_cons (pv 2) pa_nil)) pe_int) pe_int) pa_nil)) pe_int))
    (pss_cons (ps_set (i := 2) sc_drawn.nd rfl (Or.inl rfl) (pe_op op_mod (pe_callTy call_int1 (by rfl) T.n_int (by decide +kernel) (pa_cons (pe_op op_add (pe_op op_add (pe_op op_mul (pv 2) (pv 2)) (pe_op op_mul pe_int (pv 2))) pe_int) pa_nil)) pe_int))
    (pss_one (ps_ret (pe_op op_mod (pe_callTy call_int1 (by rfl) T.n_int (by decide +kernel) (pa_cons (pe_op op_fdiv (pe_op op_mod (pe_callTy call_int1 (by rfl) T.n_int (by decide +kernel) (pa_cons (pe_op op_mul (pv 2) pe_int) pa_nil)) pe_int) pe_int) pa_nil)) (pv 1))))))))), ?_⟩
  obtain ⟨w, l, m, C, rfl, ⟨wl, b, c, ns, hw, hl, b0, b1, c0, c1, n63⟩, hC, m0, m1, q⟩ := h
  refine ⟨_, rfl, w, _, rfl, DGet.k (k := .inr "count") hw, _, _, rfl, rfl, _, rfl, w, _, rfl, DPut.k (k := .inr "count") hw (by show 3 < sizeLine; decide), ?_⟩
  rw [wk_put]
  -- the heap with one draw more
  have k1 : Kp [w, l] H (upd H w (.dK (WK l b (c + 1)))) := (Kp.refl _ H).wr (.inl List.mem_cons_self)
  have hw1 : (upd H w (.dK (WK l b (c + 1)))) w = some (.dK (WK l b (c + 1))) := upd_same
  have hl1 : (upd H w (.dK (WK l b (c + 1)))) l = some (.lst (ns.map V.int)) := by rw [upd_ne wl.symm]; exact hl
  generalize upd H w (.dK (WK l b (c + 1))) = H1 at k1 hw1 hl1 ⊢
  have hC' : (C : Int) < 1000000000 := Int.ofNat_lt.mpr hC
  -- seed
  refine ⟨_, rfl, w, _, rfl, DGet.k (k := .inr "blend") hw1, _, rfl, w, _, rfl, DGet.k (k := .inr "count") hw1, _, _, rfl, rfl, .inl ⟨by decide, by decide⟩, _, rfl, w, _, rfl, DGet.k (k := .inr "count") hw1, _, _, rfl, rfl, .inr ⟨by omega, by omega⟩, _, _, rfl, rfl, ?_⟩
  show tSeq _ _ _ _ _
  generalize b + 60289 * (c + 1) * (c + 1) = seed
  -- if well['told'] != []
  refine ⟨_, rfl, w, _, rfl, DGet.k (k := .inr "told") hw1, Nat.zero_le _, fun p hp => ?_⟩
  have pw : p ≠ w := fun e => by
    rw [e, hw1] at hp
    cases hp
  have pl : p ≠ l := fun e => by
    rw [e, hl1] at hp
    cases hp
  have k2 : Kp [w, l] H (upd H1 p (.lst [])) := k1.trans (Kp.new hp)
  have hw2 : (upd H1 p (.lst [])) w = some (.dK (WK l b (c + 1))) := by rw [upd_ne pw.symm]; exact hw1
  have hl2 : (upd H1 p (.lst [])) l = some (.lst (ns.map V.int)) := by rw [upd_ne pl.symm]; exact hl1
  refine ⟨.list (ns.map .int), .list [], .lst (SqL.of hl2) (dp_ints ns), .lst (SqL.of upd_same) .nil, shaped_ints ns, rfl, _, rfl, ?_⟩
  generalize upd H1 p (.lst []) = H2 at k2 hw2 hl2 ⊢
  rw [eqv_empty]
  have hW2 : ∀ ns' : List Int, ns'.length ≤ 63 → ∀ H3 : Hp, H3 w = some (.dK (WK l b (c + 1))) → H3 l = some (.lst (ns'.map V.int)) → Well H3 w l (C + 1) := fun ns' h63 H3 e1 e2 =>
    ⟨wl, b, c + 1, ns', e1, e2, b0, b1, by omega, by omega, h63⟩
  -- what is left to do, the seed in its slot
  cases ns with
  | nil =>
    refine iteF ?_
    refine ⟨_, rfl, .inl ⟨_, rfl, _, _, rfl, rfl, (by decide : (0 : Int) < 2147483629), _, _, rfl, rfl, cmul_mod (by decide) (by decide), .inl ⟨_, rfl, _, _, rfl, rfl, (by decide : (0 : Int) < 2147483647), ?_⟩⟩⟩
    refine ⟨_, rfl, _, rfl, _, _, rfl, rfl, cmul_mod (by decide) (by decide), _, rfl, _, _, rfl, rfl, .inl ⟨by decide, by decide⟩, _, _, rfl, rfl, _, _, rfl, rfl, .inl ⟨_, rfl, _, _, rfl, rfl, (by decide : (0 : Int) < 2147483563), ?_⟩⟩
    refine ⟨_, rfl, _, _, rfl, rfl, cmul_mod (by decide) (by decide), .inl ⟨_, rfl, _, _, rfl, rfl, (by decide : (0 : Int) < 2147483587), _, _, rfl, rfl, ⟨by decide, by decide⟩, .inl ⟨_, rfl, _, rfl, _, _, rfl, rfl, m0, ?_⟩⟩⟩
    exact q _ _ k2 (hW2 [] (by decide) _ hw2 hl2) (mod_in m0).1 (mod_in m0).2
  | cons z r =>
    refine iteT ?_
    -- number = well['told'].pop()
    have hlast : ((z :: r).map V.int)[((z :: r).map V.int).length - 1]? = some (V.int ((z :: r).getLast (List.cons_ne_nil z r))) := by
      rw [List.length_map, List.getElem?_map, ← List.getLast?_eq_getElem?, List.getLast?_eq_getLast (List.cons_ne_nil z r)]
      rfl
    have hdrop : ((z :: r).map V.int).dropLast = (z :: r).dropLast.map V.int := by rw [List.map_dropLast]
    have hlen : ((z :: r).dropLast).length ≤ 62 := by
      rw [List.length_dropLast]
      omega
    refine ⟨_, rfl, w, _, rfl, DGet.k (k := .inr "told") hw2, .inl ⟨rfl, _, SqL.of hl2⟩, l, _, _, rfl, rfl, hl2, hlast, ?_⟩
    generalize (z :: r).getLast (List.cons_ne_nil z r) = number
    rw [hdrop]
    generalize (z :: r).dropLast = more at hlen
    have hw3 : (upd H2 l (.lst (more.map V.int))) w = some (.dK (WK l b (c + 1))) := by rw [upd_ne wl]; exact hw2
    have hl3 : (upd H2 l (.lst (more.map V.int))) l = some (.lst (more.map V.int)) := upd_same
    have k3 : Kp [w, l] H (upd H2 l (.lst (more.map V.int))) := k2.wr (.inl (List.mem_cons_of_mem _ List.mem_cons_self))
    generalize upd H2 l (.lst (more.map V.int)) = H3 at k3 hw3 hl3 ⊢
    -- if number >= 10 ** 18
    refine ⟨_, rfl, _, _, rfl, rfl, ⟨by decide, by decide, by decide⟩, _, _, rfl, rfl, _, rfl, ite2 (fun e => ?_) (fun e => ?_)⟩
    · refine ⟨_, rfl, w, _, rfl, DGet.k (k := .inr "told") hw3, .inl ⟨rfl, _, SqL.of hl3⟩, _, rfl, _, rfl, _, _, rfl, rfl, ⟨m0, m1⟩, l, _, _, rfl, rfl, hl3, by rw [List.length_map, sizeLine_eq]; omega, ?_⟩
      refine ⟨_, rfl, .inl ⟨_, rfl, _, rfl, _, _, rfl, rfl, m0, ?_⟩⟩
      refine q _ _ (k3.wr (.inl (List.mem_cons_of_mem _ List.mem_cons_self))) (hW2 (more ++ [number / m]) (by rw [List.length_append, List.length_singleton]; omega) _ (by rw [upd_ne wl]; exact hw3) (by rw [upd_same, List.map_append]; rfl)) (mod_in m0).1 (mod_in m0).2
    · refine ⟨_, rfl, _, rfl, _, _, rfl, rfl, ?_⟩
      refine ⟨_, rfl, .inl ⟨_, rfl, _, _, rfl, rfl, (by decide : (0 : Int) < 2147483629), _, _, rfl, rfl, cmul_mod (by decide) (by decide), .inl ⟨_, rfl, _, _, rfl, rfl, (by decide : (0 : Int) < 2147483647), ?_⟩⟩⟩
      refine ⟨_, rfl, _, rfl, _, _, rfl, rfl, cmul_mod (by decide) (by decide), _, rfl, _, _, rfl, rfl, .inl ⟨by decide, by decide⟩, _, _, rfl, rfl, _, _, rfl, rfl, .inl ⟨_, rfl, _, _, rfl, rfl, (by decide : (0 : Int) < 2147483563), ?_⟩⟩
      refine ⟨_, rfl, _, _, rfl, rfl, cmul_mod (by decide) (by decide), .inl ⟨_, rfl, _, _, rfl, rfl, (by decide : (0 : Int) < 2147483587), _, _, rfl, rfl, ⟨by decide, by decide⟩, .inl ⟨_, rfl, _, rfl, _, _, rfl, rfl, m0, ?_⟩⟩⟩
      exact q _ _ k3 (hW2 more (by omega) _ hw3 hl3) (mod_in m0).1 (mod_in m0).2
end
end K02
set_option Elab.async false
set_option linter.all false
set_option maxRecDepth 100000
set_option maxHeartbeats 4000000
/-! k02: is_integer .. are_states. -/
namespace K02
open PySem PySem.Spec PyProof.Rows L2 Zg Zr Zd Zv
/-! ### what the program's small questions answer -/
def isInt (d : PyData) : Bool := isA "int" d && !isA "bool" d
def ABC : List Nat := ("abcdefghijklmnopqrstuvwxyz" : PySem.Str).cps.toList
def isName : PyData → Bool
  | .str x => decide (1 ≤ x.length) && decide (x.length ≤ 8) && x.cps.toList.all fun c => decide (c ∈ ABC)
  | _ => false
section
variable {P : Program} {w : World} {K : PySem.W.Frag} {mg : PySem.Str → Option Value} {base : Heap}
def sp_val (F : PyData → Bool) : Sp := fun vs H Q _ => ∃ (S : List Addr) (v : V) (d : PyData), vs = [v] ∧ Dv S H v d ∧ okv d = true ∧ ∀ (H' : Hp), Same H H' → Q (.bl (F d)) H'
theorem len1 {vs : List V} {v : V} (e : vs = [v]) : vs.length = 1 := by rw [e]; rfl
theorem ok_is_integer (T : Txt K mg) : FnOk P w K mg base CX0 1 T.a_is_integer T.d_is_integer P_is_integer (sp_val isInt) := by
  refine T.F_is_integer.ok sc_is_integer (fun vs H Q E h => by obtain ⟨S, v, d, rfl, _⟩ := h; rfl) (fun cdv A outer s H vs Q E hr h => ?_)
  refine ⟨_, (pss_one (ps_ret (pe_and (pe_callB call_isi (by rfl) T.n_isinstance (by decide +kernel) (pa_cons (pv 0) (pa_cons (pe_bltn (v := .ty "int") (u := .type "int") (by rfl) T.n_int (by decide +kernel) rfl) pa_nil))) (pe_one (pe_not (pe_callB call_isi (by rfl) T.n_isinstance (by decide +kernel) (pa_cons (pv 0) (pa_cons (pe_bltn (v := .ty "bool") (u := .type "bool") (by rfl) T.n_bool (by decide +kernel) rfl) pa_nil)))))))), ?_⟩
  obtain ⟨S, v, d, rfl, hd, hv, q⟩ := h
  refine ⟨_, rfl, v, .ty "int", _, _, _, rfl, .ty _, hd.ty, kit_all K _ (by decide) _ (tyD_mem d), ?_⟩
  have q' := q H (Same.refl H)
  refine ⟨_, rfl, ite2 (fun e => ?_) (fun e => ?_)⟩
  · refine ⟨_, rfl, v, .ty "bool", _, _, _, rfl, .ty _, hd.ty, kit_all K _ (by decide) _ (tyD_mem d), _, rfl, ?_⟩
    unfold isInt isA at q'
    rw [e] at q'
    exact q'
  · unfold isInt isA at q'
    rw [Bool.not_eq_true] at e
    rw [e] at q'
    exact q'
theorem ok_is_name (T : Txt K mg) : FnOk P w K mg base CX0 1 T.a_is_name T.d_is_name P_is_name (sp_val isName) := by
  refine T.F_is_name.ok sc_is_name (fun vs H Q E h => by obtain ⟨S, v, d, rfl, _⟩ := h; rfl) (fun cdv A outer s H vs Q E hr h => ?_)
  refine ⟨_, (pss_cons (ps_if (PW.pt (pw_or (pt_not (pt_val (pe_callB call_isi (by rfl) T.n_isinstance (by decide +kernel) (pa_cons (pv 0) (pa_cons (pe_bltn (v := .ty "str") (u := .type "str") (by rfl) T.n_str (by decide +kernel) rfl) pa_nil))))) (pw_or1 (pt_not (pt_chain op_le op_le pe_int (pe_callB call_len_str (by rfl) T.n_len (by decide +kernel) (pa_cons (pv 0) pa_nil)) (C8.pe_gc rfl T.m_LONGEST_NAME)))))) (pss_one (ps_ret pe_bl)) pss_nil)
    (pss_one (ps_ret (pe_callB (cr_all rfl) (by rfl) T.n_all (by decide +kernel) (pa_cons (pe_lc (own := [("letter", 1)]) rfl sc_is_name.nd (pi_str (pv 0)) (blkOk_by (own := [("letter", 1)]) (N := N_is_name) (sc := defScope s_is_name) (by decide +kernel)) (fun _ _ _ _ _ => (pg_name (i := 1) sc_is_name.nd rfl (Or.inl rfl))) (fun _ _ _ _ _ => pts_nil) (fun _ _ _ _ _ => (pe_cmpR op_in_sign (pv 1) (C8.pe_gc rfl T.m_LETTERS) rfl))) pa_nil))))), ?_⟩
  obtain ⟨S, v, d, rfl, hd, hv, q⟩ := h
  refine ⟨_, rfl, v, .ty "str", _, _, _, rfl, .ty _, hd.ty, kit_all K _ (by decide) _ (tyD_mem d), _, rfl, ?_⟩
  by_cases hs : isA "str" d = true
  · obtain ⟨x, rfl, rfl⟩ := hd.text hs
    refine iteF ?_
    have hx : x.length ≤ 1000 := by
      have h' : (PyData.strOk x && decide (x.length ≤ 1000)) = true := hv
      rw [Bool.and_eq_true] at h'
      exact of_decide_eq_true h'.2
    have qF : isName (.str x) = false → Q (.bl false) H := fun e => by
      have q' := q H (Same.refl H)
      rw [e] at q'
      exact q'
    refine ⟨_, rfl, x, rfl, by rw [sizeLine_eq]; omega, _, _, rfl, rfl, _, rfl, ite2 (fun e => ?_) (fun e => ?_)⟩
    · refine ⟨_, _, rfl, rfl, _, rfl, ?_⟩
      by_cases h8 : (x.length : Int) ≤ 8
      · rw [decide_eq_true h8]
        refine iteF ?_
        refine ⟨_, rfl, x, rfl, fun D hD => ?_⟩
        refine lc_it (walk_str (z := x)) (fun i H' => Same H H' ∧ H' D = some (.lst (((x.cps.toList.take i).map fun c => decide (c ∈ ABC)).map V.bl))) ⟨same_new hD, upd_same⟩ (fun _ _ _ _ => True.intro) ?_ ?_
        · rintro i y H1 H2 hi ⟨k, hDl⟩ ⟨rfl, c, hc, rfl⟩
          have hc' : x.cps.toList[i]? = some c := by simpa using hc
          refine ⟨rfl, _, rfl, c, _, rfl, rfl, _, hDl, ?_, ?_, ?_⟩
          · rw [List.length_map, List.length_map, List.length_take, sizeLine_eq]
            have : x.cps.toList.length = x.length := by simp [PySem.Str.length]
            omega
          · exact fun b o eb => by rw [upd_ne (ne_of_none eb hD)]; exact k _ _ eb
          · rw [upd_same, List.take_succ, hc', List.map_append, List.map_append]
            rfl
        · rintro H1 ⟨k, hDl⟩
          refine ⟨D, _, rfl, SqL.of hDl, ?_⟩
          have q' := q H1 k
          have e2 : isName (.str x) = ((x.cps.toList.take x.cps.size).map fun c => decide (c ∈ ABC)).all id := by
            have h1 : 1 ≤ x.length := by have := of_decide_eq_true e; omega
            show (decide (1 ≤ x.length) && decide (x.length ≤ 8) && x.cps.toList.all fun c => decide (c ∈ ABC)) = _
            rw [decide_eq_true h1, decide_eq_true (by omega : x.length ≤ 8), List.all_map, show x.cps.size = x.cps.toList.length by simp, List.take_length]
            rfl
          rw [e2] at q'
          exact q'
      · rw [decide_eq_false h8]
        refine iteT ?_
        refine qF ?_
        show (decide (1 ≤ x.length) && decide (x.length ≤ 8) && x.cps.toList.all fun c => decide (c ∈ ABC)) = false
        rw [decide_eq_false (by omega : ¬ x.length ≤ 8), Bool.and_false]
        rfl
    · have h1 : ¬ 1 ≤ x.length := fun h => e (decide_eq_true (by omega))
      refine ⟨_, rfl, iteT ?_⟩
      refine qF ?_
      show (decide (1 ≤ x.length) && decide (x.length ≤ 8) && x.cps.toList.all fun c => decide (c ∈ ABC)) = false
      rw [decide_eq_false h1]
      rfl
  · have e : isB "str" (tyD d) = false := by rw [Bool.not_eq_true] at hs; exact hs
    rw [e]
    refine iteT (iteT ?_)
    have q' := q H (Same.refl H)
    have e2 : isName d = false := by
      cases d with
      | str x => exact absurd rfl hs
      | _ => rfl
    rw [e2] at q'
    exact q'
/-- one below the next -/
def asc : List Int → Bool
  | [] => true
  | [_] => true
  | a :: b :: r => decide (a < b) && asc (b :: r)
theorem asc_all : ∀ ns : List Int, asc ns = ((ns.zip ns.tail).map fun p => decide (p.1 < p.2)).all id
  | [] => rfl
  | [_] => rfl
  | a :: b :: r => by
    show (decide (a < b) && asc (b :: r)) = _
    rw [asc_all (b :: r)]
    rfl
/-- the empty tuple that stands in what was written -/
def EmpK (K : PySem.W.Frag) (t : Addr) : Prop := ∃ (o : Obj) (n : Nat), K.lookup t = some o ∧ o.cls = .type "tuple" ∧ o.data = .seq #[] n
/-- a tuple, whatever else is made -/
def Sq (K : PySem.W.Frag) (H : Hp) (a : Addr) (xs : List V) : Prop := H a = some (.tup xs) ∨ (xs = [] ∧ EmpK K a)
theorem Sq.same {K : PySem.W.Frag} {H H' : Hp} {a : Addr} {xs : List V} (h : Sq K H a xs) (k : Same H H') : Sq K H' a xs := h.imp (k _ _) id
theorem Sq.sqt {K : PySem.W.Frag} {H : Hp} {a : Addr} {xs : List V} (h : Sq K H a xs) : SqT K H a xs := by
  rcases h with h | ⟨rfl, o, n, h1, h2, h3⟩
  · exact SqT.of h
  · exact .inr ⟨o, #[], n, h1, h2, h3, Nat.zero_le _, .nil⟩
theorem Sq.ty {K : PySem.W.Frag} {H : Hp} {a : Addr} {xs : List V} (h : Sq K H a xs) : TyX K H (.ref a) (.type "tuple") := by
  rcases h with h | ⟨rfl, o, n, h1, h2, h3⟩
  · exact .base (.tup h)
  · exact .kTuple h1 h2
theorem slQ_from {K : PySem.W.Frag} {H : Hp} {Q : VK} {a : Addr} {xs : List V} {n : Int} {k : Nat} (hn : n = (k : Int)) (ha : Sq K H a xs) (q : ∀ H' p, Same H H' → Sq K H' p (xs.drop k) → Q (.ref p) H') : rSlA K (.ref a) (some n) none H Q := by
  rcases ha with ha | ⟨rfl, he⟩
  · exact slA_from hn ha fun H' p k1 hp _ => q H' p k1 (.inl hp)
  · subst hn
    refine ⟨a, [], rfl, Sq.sqt (.inr ⟨rfl, he⟩), fun hw => q H a (Same.refl H) (.inr ⟨List.drop_nil, he⟩), fun hw p hp => q _ p (same_new hp) (.inl ?_)⟩
    rw [upd_same]
    unfold cutV
    simp
/-- a value, or the empty tuple that was written -/
def Rv (K : PySem.W.Frag) (S : List Addr) (H : Hp) (v : V) (d : PyData) : Prop := Dv S H v d ∨ ∃ t, v = .ref t ∧ d = .tuple [] ∧ EmpK K t
theorem Rv.kp {K : PySem.W.Frag} {S : List Addr} {H H' : Hp} {v : V} {d : PyData} (h : Rv K S H v d) (k : Kp S H H') : Rv K S H' v d := h.imp (Dv.kp k) id
theorem Rv.sub {K : PySem.W.Frag} {S S' : List Addr} {H : Hp} {v : V} {d : PyData} (h : Rv K S H v d) (e : ∀ a ∈ S', a ∈ S) : Rv K S' H v d := h.imp (Dv.sub e) id
theorem Rv.fresh {K : PySem.W.Frag} {S : List Addr} {H : Hp} {p : Addr} {v : V} {d : PyData} (n : H p = none) (h : Rv K S H v d) : Rv K (p :: S) H v d := h.imp (Dv.fresh n) id
theorem Rv.ty {K : PySem.W.Frag} {S : List Addr} {H : Hp} {v : V} {d : PyData} (h : Rv K S H v d) : TyX K H v (.type (tyD d)) := by
  rcases h with h | ⟨t, rfl, rfl, o, n, h1, h2, h3⟩
  · exact h.ty
  · exact .kTuple h1 h2
theorem Rv.tuple {K : PySem.W.Frag} {S : List Addr} {H : Hp} {v : V} {d : PyData} (h : Rv K S H v d) (e : isA "tuple" d = true) : ∃ a xs ds, v = .ref a ∧ d = .tuple ds ∧ Sq K H a xs ∧ DvAll S H xs ds := by
  rcases h with h | ⟨t, rfl, rfl, he⟩
  · obtain ⟨a, xs, ds, h1, h2, h3, _, h4⟩ := h.tuple e
    exact ⟨a, xs, ds, h1, h2, .inl h3, h4⟩
  · exact ⟨t, [], [], rfl, rfl, .inr ⟨rfl, he⟩, .nil⟩
def sp_asc (K : PySem.W.Frag) : Sp := fun vs H Q _ => ∃ (a : Addr) (ns : List Int), vs = [.ref a] ∧ Sq K H a (ns.map V.int) ∧ ns.length ≤ 1000 ∧ ∀ (H' : Hp), Same H H' → Q (.bl (asc ns)) H'
theorem walk_zipT {K : PySem.W.Frag} {a b : Addr} {xs ys : List V} {n : Nat} (hn : n = min xs.length ys.length) : Walk (RZ.ItzT K a b) n (fun H => SqT K H a xs ∧ SqT K H b ys) (YPair (fun i => xs[i]?) (fun i => ys[i]?)) := by
  subst hn
  refine ⟨fun i _ hi q => ?_, fun _ q => ⟨xs, ys, q.1, q.2, by omega⟩, fun i H v H' _ q y => ?_⟩
  · have h1 : i < xs.length := by omega
    have h2 : i < ys.length := by omega
    exact ⟨xs, ys, xs[i], ys[i], q.1, q.2, by simp [h1], by simp [h2]⟩
  · obtain ⟨T, x, z, h1, h2, h3, h4, h5⟩ := y
    exact ⟨T, x, z, h1, h2, h3, h4 xs q.1, h5 ys q.2⟩
theorem ok_are_ascending (T : Txt K mg) : FnOk P w K mg base CX0 1 T.a_are_ascending T.d_are_ascending P_are_ascending (sp_asc K) := by
  refine T.F_are_ascending.ok sc_are_ascending (fun vs H Q E h => by obtain ⟨a, ns, rfl, _⟩ := h; rfl) (fun cdv A outer s H vs Q E hr h => ?_)
  refine ⟨_, (pss_one (ps_ret (pe_and (pe_callB call_isi (by rfl) T.n_isinstance (by decide +kernel) (pa_cons (pv 0) (pa_cons (pe_bltn (v := .ty "tuple") (u := .type "tuple") (by rfl) T.n_tuple (by decide +kernel) rfl) pa_nil))) (pe_one (pe_callB (cr_all rfl) (by rfl) T.n_all (by decide +kernel) (pa_cons (pe_lc (own := [("one", 1), ("other", 2)]) rfl sc_are_ascending.nd (RZ.pi_zipA (by rfl) T.n_zip (pa_cons (pv 0) (pa_cons (pe_slice sl_tupA (pv 0) (po_some pe_int) po_none) pa_nil))) (blkOk_by (own := [("one", 1), ("other", 2)]) (N := N_are_ascending) (sc := defScope s_are_ascending) (by decide +kernel)) (fun _ _ _ _ _ => (show PG _ _ (gTup K 2 _) from (pg_tup (by rfl) (pgs_cons (pg_name (i := 1) sc_are_ascending.nd rfl (Or.inl rfl)) (pgs_cons (pg_name (i := 2) sc_are_ascending.nd rfl (Or.inl rfl)) pgs_nil))))) (fun _ _ _ _ _ => pts_nil) (fun _ _ _ _ _ => (pe_cmpR op_lt (pv 1) (pv 2) (nomark _)))) pa_nil)))))), ?_⟩
  obtain ⟨a, ns, rfl, ha, hl, q⟩ := h
  refine ⟨_, rfl, .ref a, .ty "tuple", _, _, true, rfl, .ty _, ha.ty, rfl, _, rfl, ?_⟩
  refine iteT ?_
  refine ⟨_, rfl, _, rfl, 1, rfl, ?_⟩
  dsimp only [tNoPart]
  refine slQ_from (K := K) (n := 1) (k := 1) rfl ha fun H1 b k1 hb => ?_
  have hnl : (ns.zip ns.tail).length = min ((ns.map V.int).length) (((ns.map V.int).drop 1).length) := by
    rw [List.length_zip, List.length_map, List.length_drop, List.length_map, List.length_tail]
  refine ⟨a, b, _, _, rfl, .inr ⟨(ha.same k1).sqt, hb.sqt, fun D hD => ?_⟩⟩
  refine lc_it (walk_zipT (n := (ns.zip ns.tail).length) hnl) (fun i H' => Same H1 H' ∧ H' D = some (.lst ((((ns.zip ns.tail).take i).map fun p => decide (p.1 < p.2)).map V.bl))) ⟨same_new hD, upd_same⟩ (fun i H' _ p => ⟨((ha.same k1).same p.1).sqt, (hb.same p.1).sqt⟩) ?_ ?_
  · rintro i x H2 H3 hi ⟨k, hDl⟩ ⟨t, y, z, rfl, ht, rfl, hy, hz⟩
    have hi1 : i < ns.length ∧ i < ns.tail.length := by
      rw [List.length_zip] at hi
      omega
    dsimp only [] at hy hz
    have e1 : y = .int ns[i] := by
      rw [List.getElem?_map, List.getElem?_eq_getElem hi1.1] at hy
      exact (Option.some.inj hy).symm
    have hi2 : i + 1 < ns.length := by have := hi1.2; rw [List.length_tail] at this; omega
    have e2 : z = .int ns.tail[i] := by
      rw [List.getElem?_drop, List.getElem?_map, Nat.add_comm, List.getElem?_eq_getElem hi2] at hz
      rw [List.getElem_tail]
      exact (Option.some.inj hz).symm
    subst e1
    subst e2
    have tD : D ≠ t := ne_of_none hDl ht
    refine ⟨_, _, rfl, SqT.of upd_same, rfl, _, _, rfl, _, _, rfl, rfl, rfl, _, rfl, _, rfl, _, _, rfl, rfl, _, by rw [upd_ne tD]; exact hDl, ?_, ?_, ?_⟩
    · rw [List.length_map, List.length_map, List.length_take, sizeLine_eq]
      omega
    · exact fun b o eb => by
        rw [upd_ne (ne_of_none eb hD)]
        exact same_new ht _ _ (k _ _ eb)
    · rw [upd_same, List.take_succ, List.getElem?_eq_getElem hi, List.map_append, List.map_append, List.getElem_zip]
      rfl
  · rintro H2 ⟨k, hDl⟩
    refine ⟨D, _, rfl, SqL.of hDl, ?_⟩
    rw [List.take_length]
    have q' := q H2 (k1.trans k)
    rw [asc_all] at q'
    exact q'
def isSt (n : Int) : PyData → Bool
  | .int i => decide (0 ≤ i) && decide (i < n)
  | _ => false
def sp_state : Sp := fun vs H Q _ => ∃ (n : Int) (S : List Addr) (v : V) (d : PyData), vs = [.int n, v] ∧ Dv S H v d ∧ okv d = true ∧ ∀ (H' : Hp), Same H H' → Q (.bl (isSt n d)) H'
theorem ok_is_state (T : Txt K mg) : FnOk P w K mg base CX0 2 T.a_is_state T.d_is_state P_is_state sp_state := by
  refine T.F_is_state.ok sc_is_state (fun vs H Q E h => by obtain ⟨n, S, v, d, rfl, _⟩ := h; rfl) (fun cdv A outer s H vs Q E hr h => ?_)
  refine ⟨_, (pss_one (ps_ret (pe_and (pe_call (ok_is_integer T) (hr.mono (by decide)) (by rfl) T.g_is_integer T.F_is_integer.kp T.b_is_integer .nil pass0 (pa_cons (pv 1) pa_nil)) (pe_one (pe_chain op_le op_lt pe_int (pv 1) (pv 0)))))), ?_⟩
  obtain ⟨n, S, v, d, rfl, hd, hv, q⟩ := h
  refine ⟨_, rfl, S, v, d, rfl, hd, hv, fun H1 k1 => ?_⟩
  have q' := q H1 k1
  refine ⟨_, rfl, ite2 (fun e => ?_) (fun e => ?_)⟩
  · have e2 : isA "int" d = true ∧ isA "bool" d = false := by
      have h : (isA "int" d && !isA "bool" d) = true := e
      rw [Bool.and_eq_true, Bool.not_eq_true'] at h
      exact h
    obtain ⟨i, rfl, rfl⟩ := hd.number e2.1 e2.2
    refine ⟨_, rfl, _, _, rfl, rfl, _, rfl, ite2 (fun h => ?_) (fun h => ?_)⟩
    · refine ⟨_, rfl, _, _, rfl, rfl, ?_⟩
      have e3 : isSt n (.int i) = decide (i < n) := by
        show (decide (0 ≤ i) && decide (i < n)) = _
        rw [h]; rfl
      rw [e3] at q'
      exact q'
    · have e3 : isSt n (.int i) = false := by
        show (decide (0 ≤ i) && decide (i < n)) = _
        rw [Bool.not_eq_true] at h
        rw [h]; rfl
      rw [e3] at q'
      exact q'
  · have e3 : isSt n d = false := by
      cases d with
      | int i => exact absurd rfl e
      | _ => rfl
    rw [e3] at q'
    exact q'
def intOf : PyData → Int
  | .int i => i
  | _ => 0
def areStates (n : Int) : PyData → Bool
  | .tuple ds => ds.all (isSt n) && asc (ds.map intOf)
  | _ => false
theorem ints_of {n : Int} {S : List Addr} {H : Hp} : ∀ {xs : List V} {ds : List PyData}, DvAll S H xs ds → ds.all (isSt n) = true → xs = (ds.map intOf).map V.int
  | _, _, .nil, _ => rfl
  | _, _, .cons h t, e => by
    rw [List.all_cons, Bool.and_eq_true] at e
    rw [List.map_cons, List.map_cons, ← ints_of t e.2]
    cases h with
    | int i => rfl
    | non => cases e.1
    | bl b => cases e.1
    | str x => cases e.1
    | lst h n t => cases e.1
    | tup h n t => cases e.1
    | dic h n => cases e.1
def sp_states (K : PySem.W.Frag) : Sp := fun vs H Q _ => ∃ (n : Int) (S : List Addr) (v : V) (d : PyData), vs = [.int n, v] ∧ Rv K S H v d ∧ okv d = true ∧ ∀ (H' : Hp), Same H H' → Q (.bl (areStates n d)) H'
theorem ok_are_states (T : Txt K mg) : FnOk P w K mg base CX0 3 T.a_are_states T.d_are_states P_are_states (sp_states K) := by
  refine T.F_are_states.ok sc_are_states (fun vs H Q E h => by obtain ⟨n, S, v, d, rfl, _⟩ := h; rfl) (fun cdv A outer s H vs Q E hr h => ?_)
  refine ⟨_, (pss_one (ps_ret (pe_and (pe_callB call_isi (by rfl) T.n_isinstance (by decide +kernel) (pa_cons (pv 1) (pa_cons (pe_bltn (v := .ty "tuple") (u := .type "tuple") (by rfl) T.n_tuple (by decide +kernel) rfl) pa_nil))) (pe_and (pe_callB (cr_all rfl) (by rfl) T.n_all (by decide +kernel) (pa_cons (pe_lc (own := [("one", 2)]) rfl sc_are_states.nd (pi_tup (pv 1)) (blkOk_by (own := [("one", 2)]) (N := N_are_states) (sc := defScope s_are_states) (by decide +kernel)) (fun _ _ _ _ _ => (pg_name (i := 2) sc_are_states.nd rfl (Or.inl rfl))) (fun _ _ _ _ _ => pts_nil) (fun _ _ _ _ _ => (pe_call (ok_is_state T) (hr.mono (by decide)) (by rfl) T.g_is_state T.F_is_state.kp T.b_is_state .nil pass0 (pa_cons (pv 0) (pa_cons (pv 2) pa_nil))))) pa_nil)) (pe_one (pe_call (ok_are_ascending T) (hr.mono (by decide)) (by rfl) T.g_are_ascending T.F_are_ascending.kp T.b_are_ascending .nil pass0 (pa_cons (pv 1) pa_nil))))))), ?_⟩
  obtain ⟨n, S, v, d, rfl, hd, hv, q⟩ := h
  refine ⟨_, rfl, v, .ty "tuple", _, _, _, rfl, .ty _, hd.ty, kit_all K _ (by decide) _ (tyD_mem d), ?_⟩
  refine ⟨_, rfl, ite2 (fun e => ?_) (fun e => ?_)⟩
  · obtain ⟨a, xs, ds, rfl, rfl, ha, hx⟩ := hd.tuple e
    obtain ⟨hl, hok⟩ := okv_tup hv
    refine ⟨_, rfl, a, rfl, ⟨_, ha.sqt⟩, fun D hD => ?_⟩
    refine lc_tup (K := K) (a := a) (xs := xs) (fun i H' => Same H H' ∧ H' D = some (.lst (((ds.take i).map (isSt n)).map V.bl))) ⟨same_new hD, upd_same⟩ (fun i H' _ p => (ha.same p.1).sqt) ?_ ?_
    · rintro i x H1 hi ⟨k, hDl⟩
      obtain ⟨d, hdi, hdx⟩ := hx.get hi
      refine ⟨rfl, _, rfl, _, rfl, n, S, x, d, rfl, hdx.kp (Kp.of k), hok d (List.mem_of_getElem? hdi), fun H2 k2 => ?_⟩
      refine ⟨_, k2 _ _ hDl, ?_, ?_, ?_⟩
      · rw [List.length_map, List.length_map, List.length_take, sizeLine_eq]
        omega
      · exact fun b o eb => by
          rw [upd_ne (ne_of_none eb hD)]
          exact k2 _ _ (k _ _ eb)
      · rw [upd_same, List.take_succ, hdi, List.map_append, List.map_append]
        rfl
    · rintro H1 ⟨k, hDl⟩
      rw [hx.length, List.take_length] at hDl
      refine ⟨D, _, rfl, SqL.of hDl, _, rfl, ?_⟩
      have e1 : (ds.map (isSt n)).all id = ds.all (isSt n) := by rw [List.all_map]; rfl
      rw [e1]
      refine ite2 (fun e2 => ?_) (fun e2 => ?_)
      · have hxi := ints_of hx e2
        refine ⟨_, rfl, a, ds.map intOf, rfl, by rw [← hxi]; exact ha.same k, by rw [List.length_map]; exact hl, fun H2 k2 => ?_⟩
        have q' := q H2 (k.trans k2)
        have e3 : areStates n (.tuple ds) = asc (ds.map intOf) := by
          show (ds.all (isSt n) && _) = _
          rw [e2]; rfl
        rw [e3] at q'
        exact q'
      · have q' := q H1 k
        have e3 : areStates n (.tuple ds) = false := by
          show (ds.all (isSt n) && _) = _
          rw [Bool.not_eq_true] at e2
          rw [e2]; rfl
        rw [e3] at q'
        exact q'
  · have q' := q H (Same.refl H)
    have e3 : areStates n d = false := by
      cases d with
      | tuple ds => exact absurd rfl e
      | _ => rfl
    rw [e3] at q'
    exact q'
def isSz : PyData → Bool
  | .int i => decide (1 ≤ i) && decide (i ≤ 3)
  | _ => false
theorem ok_is_size (T : Txt K mg) : FnOk P w K mg base CX0 2 T.a_is_size T.d_is_size P_is_size (sp_val isSz) := by
  refine T.F_is_size.ok sc_is_size (fun vs H Q E h => by obtain ⟨S, v, d, rfl, _⟩ := h; rfl) (fun cdv A outer s H vs Q E hr h => ?_)
  refine ⟨_, (pss_one (ps_ret (pe_and (pe_call (ok_is_integer T) (hr.mono (by decide)) (by rfl) T.g_is_integer T.F_is_integer.kp T.b_is_integer .nil pass0 (pa_cons (pv 0) pa_nil)) (pe_one (pe_chain op_le op_le pe_int (pv 0) (C8.pe_gc rfl T.m_MOST_STATES)))))), ?_⟩
  obtain ⟨S, v, d, rfl, hd, hv, q⟩ := h
  refine ⟨_, rfl, S, v, d, rfl, hd, hv, fun H1 k1 => ?_⟩
  have q' := q H1 k1
  refine ⟨_, rfl, ite2 (fun e => ?_) (fun e => ?_)⟩
  · have e2 : isA "int" d = true ∧ isA "bool" d = false := by
      have h : (isA "int" d && !isA "bool" d) = true := e
      rw [Bool.and_eq_true, Bool.not_eq_true'] at h
      exact h
    obtain ⟨i, rfl, rfl⟩ := hd.number e2.1 e2.2
    refine ⟨_, rfl, _, _, rfl, rfl, _, rfl, ite2 (fun h => ?_) (fun h => ?_)⟩
    · refine ⟨_, _, rfl, rfl, ?_⟩
      have e3 : isSz (.int i) = decide (i ≤ 3) := by
        show (decide (1 ≤ i) && decide (i ≤ 3)) = _
        rw [h]; rfl
      rw [e3] at q'
      exact q'
    · have e3 : isSz (.int i) = false := by
        show (decide (1 ≤ i) && decide (i ≤ 3)) = _
        rw [Bool.not_eq_true] at h
        rw [h]; rfl
      rw [e3] at q'
      exact q'
  · have e3 : isSz d = false := by
      cases d with
      | int i => exact absurd rfl e
      | _ => rfl
    rw [e3] at q'
    exact q'
end
end K02
set_option Elab.async false
set_option linter.all false
set_option maxRecDepth 100000
set_option maxHeartbeats 4000000
/-! k02: is_action, check_store. -/
namespace K02
open PySem PySem.Spec PyProof.Rows L2 Zg Zr Zd Zv
def isMv (n : Int) : PyData → Bool
  | .none => true
  | d => isSt n d
def isAct (n : Int) : PyData → Bool
  | .tuple [a, .tuple ms] => isName a && decide ((ms.length : Int) = n) && ms.all (isMv n)
  | _ => false
theorem two_of {α : Type} {l : List α} (h : l.length = 2) : ∃ a b, l = [a, b] := by
  match l, h with
  | [a, b], _ => exact ⟨a, b, rfl⟩
theorem isAct_not {n : Int} {ds : List PyData} (h : ds.length ≠ 2) : isAct n (.tuple ds) = false := by
  match ds, h with
  | [], _ => rfl
  | [_], _ => rfl
  | [_, _], h => exact absurd rfl h
  | _ :: b :: _ :: _, _ => cases b <;> rfl
theorem ne_len {a : Nat} : (!decide (V.int (a : Int) = V.int 2)) = true ↔ a ≠ 2 := by
  rw [Bool.not_eq_true', decide_eq_false_iff_not]
  constructor
  · intro h e
    subst e
    exact h rfl
  · intro h e
    injection e with e
    omega
section
variable {P : Program} {w : World} {K : PySem.W.Frag} {mg : PySem.Str → Option Value} {base : Heap}
def sp_action : Sp := fun vs H Q _ => ∃ (n : Int) (S : List Addr) (v : V) (d : PyData), vs = [.int n, v] ∧ Dv S H v d ∧ okv d = true ∧ ∀ (H' : Hp), Same H H' → Q (.bl (isAct n d)) H'
theorem ok_is_action (T : Txt K mg) : FnOk P w K mg base CX0 3 T.a_is_action T.d_is_action P_is_action sp_action := by
  refine T.F_is_action.ok sc_is_action (fun vs H Q E h => by obtain ⟨n, S, v, d, rfl, _⟩ := h; rfl) (fun cdv A outer s H vs Q E hr h => ?_)
  refine ⟨_, (pss_cons (ps_if (PW.pt (pw_or (pt_not (pt_val (pe_callB call_isi (by rfl) T.n_isinstance (by decide +kernel) (pa_cons (pv 1) (pa_cons (pe_bltn (v := .ty "tuple") (u := .type "tuple") (by rfl) T.n_tuple (by decide +kernel) rfl) pa_nil))))) (pw_or (pt_cmpR op_ne (pe_callB call_len_seq (by rfl) T.n_len (by decide +kernel) (pa_cons (pv 1) pa_nil)) (C8.pe_gc rfl T.m_PAIR) (nomark _)) (pw_or1 (pt_not (pt_val (pe_call (ok_is_name T) (hr.mono (by decide)) (by rfl) T.g_is_name T.F_is_name.kp T.b_is_name .nil pass0 (pa_cons (pe_ix ix_tup (pv 1) pe_int (fun _ _ => rfl)) pa_nil)))))))) (pss_one (ps_ret pe_bl)) pss_nil)
    (pss_cons (ps_if (PW.pt (pw_or (pt_not (pt_val (pe_callB call_isi (by rfl) T.n_isinstance (by decide +kernel) (pa_cons (pe_ix ix_tup (pv 1) pe_int (fun _ _ => rfl)) (pa_cons (pe_bltn (v := .ty "tuple") (u := .type "tuple") (by rfl) T.n_tuple (by decide +kernel) rfl) pa_nil))))) (pw_or1 (pt_cmpR op_ne (pe_callB call_len_seq (by rfl) T.n_len (by decide +kernel) (pa_cons (pe_ix ix_tup (pv 1) pe_int (fun _ _ => rfl)) pa_nil)) (pv 0) (nomark _))))) (pss_one (ps_ret pe_bl)) pss_nil)
    (pss_one (ps_ret (pe_callB (cr_all rfl) (by rfl) T.n_all (by decide +kernel) (pa_cons (pe_lc (own := [("then", 2)]) rfl sc_is_action.nd (pi_tup (pe_ix ix_tup (pv 1) pe_int (fun _ _ => rfl))) (blkOk_by (own := [("then", 2)]) (N := N_is_action) (sc := defScope s_is_action) (by decide +kernel)) (fun _ _ _ _ _ => (pg_name (i := 2) sc_is_action.nd rfl (Or.inl rfl))) (fun _ _ _ _ _ => pts_nil) (fun _ _ _ _ _ => (pe_or (pe_cmpR op_isN (pv 2) pe_non (nomark _)) (pe_one (pe_call (ok_is_state T) (hr.mono (by decide)) (by rfl) T.g_is_state T.F_is_state.kp T.b_is_state .nil pass0 (pa_cons (pv 0) (pa_cons (pv 2) pa_nil))))))) pa_nil)))))), ?_⟩
  obtain ⟨n, S, v, d, rfl, hd, hv, q⟩ := h
  have qF : isAct n d = false → ∀ H', Same H H' → Q (.bl false) H' := fun e H' k => by
    have q' := q H' k
    rw [e] at q'
    exact q'
  refine ⟨_, rfl, v, .ty "tuple", _, _, _, rfl, .ty _, hd.ty, kit_all K _ (by decide) _ (tyD_mem d), _, rfl, ?_⟩
  by_cases e : isA "tuple" d = true
  · obtain ⟨a, xs, ds, rfl, rfl, ha, _, hx⟩ := hd.tuple e
    obtain ⟨hl, hok⟩ := okv_tup hv
    have hxl := hx.length
    refine iteF ?_
    refine ⟨_, rfl, a, _, rfl, .inr (SqT.of ha), rfl, _, rfl, ite2 (fun e2 => ?_) (fun e2 => ?_)⟩
    · exact iteT (qF (isAct_not fun h => ne_len.mp e2 (hxl.trans h)) H (Same.refl H))
    · have e3 : xs.length = 2 := Decidable.byContradiction fun h => e2 (ne_len.mpr h)
      obtain ⟨nm, mv, rfl⟩ := two_of (hxl.symm.trans e3)
      cases hx with
      | @cons v0 vs0 _ _ h0 hx =>
      cases hx with
      | @cons v1 vs1 _ _ h1 hx =>
      cases hx
      refine ⟨_, rfl, a, _, 0, _, rfl, rfl, SqT.of ha, atI_nat (j := 0) rfl, S, v0, nm, rfl, h0, hok nm (by simp), fun H1 k1 => ⟨_, rfl, ?_⟩⟩
      have ha1 := k1 _ _ ha
      have h1' := h1.kp (Kp.of k1)
      cases e4 : isName nm with
      | false =>
        refine iteT (qF ?_ H1 k1)
        cases mv with
        | tuple ms => show (isName nm && _ && _) = false; rw [e4]; rfl
        | _ => rfl
      | true =>
        refine iteF ?_
        refine ⟨_, rfl, a, _, 1, _, rfl, rfl, SqT.of ha1, atI_nat (j := 1) rfl, v1, .ty "tuple", _, _, _, rfl, .ty _, h1'.ty, kit_all K _ (by decide) _ (tyD_mem mv), _, rfl, ?_⟩
        by_cases e5 : isA "tuple" mv = true
        · obtain ⟨b, ys, ms, rfl, rfl, hb, _, hy⟩ := h1'.tuple e5
          obtain ⟨hl2, hok2⟩ := okv_tup (hok (.tuple ms) (by simp))
          have hyl := hy.length
          have eA : isAct n (.tuple [nm, .tuple ms]) = (decide ((ms.length : Int) = n) && ms.all (isMv n)) := by
            show (isName nm && _ && _) = _
            rw [e4]; rfl
          refine iteF ?_
          refine ⟨_, rfl, a, _, 1, _, rfl, rfl, SqT.of ha1, atI_nat (j := 1) rfl, b, _, rfl, .inr (SqT.of hb), _, rfl, rfl, _, rfl, ite2 (fun e6 => ?_) (fun e6 => ?_)⟩
          · refine qF ?_ H1 k1
            rw [eA, decide_eq_false, Bool.false_and]
            intro h
            rw [← h, hyl] at e6
            rw [decide_eq_true rfl] at e6
            cases e6
          · have e7 : (ms.length : Int) = n := Decidable.byContradiction fun h => e6 (by
              rw [decide_eq_false (fun h' => h (by injection h' with h'; rw [← hyl]; exact h'))]
              rfl)
            refine ⟨_, rfl, a, _, 1, _, rfl, rfl, SqT.of ha1, atI_nat (j := 1) rfl, b, rfl, ⟨_, SqT.of hb⟩, fun D hD => ?_⟩
            refine lc_tup (K := K) (a := b) (xs := ys) (fun i H' => Same H1 H' ∧ H' D = some (.lst (((ms.take i).map (isMv n)).map V.bl))) ⟨same_new hD, upd_same⟩ (fun i H' _ p => SqT.of (p.1 _ _ hb)) ?_ ?_
            · rintro i x H2 hi ⟨k, hDl⟩
              obtain ⟨d, hdi, hdx⟩ := hy.get hi
              have fin : ∀ H3, Same H2 H3 → ∃ acc, H3 D = some (.lst acc) ∧ acc.length < sizeLine ∧ (Same H1 (upd H3 D (.lst (acc ++ [V.bl (isMv n d)]))) ∧ (upd H3 D (.lst (acc ++ [V.bl (isMv n d)]))) D = some (.lst (((ms.take (i + 1)).map (isMv n)).map V.bl))) := fun H3 k3 => by
                refine ⟨_, k3 _ _ hDl, ?_, ?_, ?_⟩
                · rw [List.length_map, List.length_map, List.length_take, sizeLine_eq]
                  omega
                · exact fun b o eb => by
                    rw [upd_ne (ne_of_none eb hD)]
                    exact k3 _ _ (k _ _ eb)
                · rw [upd_same, List.take_succ, hdi, List.map_append, List.map_append]
                  rfl
              refine ⟨rfl, _, rfl, rfl, _, rfl, ?_⟩
              by_cases e8 : d = .none
              · subst e8
                cases hdx
                exact iteT (fin H2 (Same.refl H2))
              · have ex : ¬ x = V.non := fun e => by
                  subst e
                  cases hdx
                  exact e8 rfl
                rw [decide_eq_false ex]
                refine iteF ?_
                refine ⟨_, rfl, _, rfl, n, S, x, d, rfl, hdx.kp (Kp.of k), hok2 d (List.mem_of_getElem? hdi), fun H3 k3 => ?_⟩
                have f := fin H3 k3
                have e9 : isMv n d = isSt n d := by
                  cases d with
                  | none => exact absurd rfl e8
                  | _ => rfl
                rw [e9] at f
                exact f
            · rintro H2 ⟨k, hDl⟩
              rw [hyl, List.take_length] at hDl
              refine ⟨D, _, rfl, SqL.of hDl, ?_⟩
              have q' := q H2 (k1.trans k)
              rw [eA, decide_eq_true e7, Bool.true_and] at q'
              rw [show ((ms.map (isMv n)).all id) = ms.all (isMv n) by rw [List.all_map]; rfl]
              exact q'
        · have e6 : isB "tuple" (tyD mv) = false := by rw [Bool.not_eq_true] at e5; exact e5
          rw [e6]
          refine iteT (iteT (qF ?_ H1 k1))
          cases mv with
          | tuple ms => exact absurd rfl e5
          | _ => rfl
  · have e6 : isB "tuple" (tyD d) = false := by rw [Bool.not_eq_true] at e; exact e
    rw [e6]
    refine iteT (iteT (qF ?_ H (Same.refl H)))
    cases d with
    | tuple ds => exact absurd rfl e
    | _ => rfl
end
end K02
set_option Elab.async false
set_option linter.all false
set_option maxRecDepth 100000
set_option maxHeartbeats 4000000
/-! k02: actions, check_store. -/
namespace K02
open PySem PySem.Spec PyProof.Rows L2 Zg Zr Zd Zv Xu
/-! ### actions -/
abbrev Act := PySem.Str × List (Option Nat)
def mvD : Option Nat → PyData
  | none => .none
  | some k => .int (k : Nat)
def mvV : Option Nat → V
  | none => .non
  | some k => .int (k : Nat)
def actD (a : Act) : PyData := .tuple [.str a.1, .tuple (a.2.map mvD)]
structure Acts (n : Nat) (acts : List Act) : Prop where
  nm : ∀ a ∈ acts, isName (.str a.1) = true
  ln : ∀ a ∈ acts, a.2.length = n
  mv : ∀ a ∈ acts, ∀ m ∈ a.2, ∀ k, m = some k → k < n
  nd : (acts.map (·.1)).Nodup
  few : acts.length ≤ 20
  sz : n ≤ 3
theorem abc_ok : ∀ c ∈ ABC, c < 0x110000 := by decide +kernel
theorem isName_ok {x : PySem.Str} (h : isName (.str x) = true) : okv (.str x) = true ∧ 1 ≤ x.length ∧ x.length ≤ 8 := by
  have h' : (decide (1 ≤ x.length) && decide (x.length ≤ 8) && x.cps.toList.all fun c => decide (c ∈ ABC)) = true := h
  rw [Bool.and_eq_true, Bool.and_eq_true, decide_eq_true_iff, decide_eq_true_iff, List.all_eq_true] at h'
  refine ⟨?_, h'.1.1, h'.1.2⟩
  show (PyData.strOk x && decide (x.length ≤ 1000)) = true
  rw [decide_eq_true (by omega), Bool.and_true]
  show x.cps.all _ = true
  rw [← Array.all_toList, List.all_eq_true]
  intro c hc
  exact decide_eq_true (abc_ok c (of_decide_eq_true (h'.2 c hc)))
theorem mvD_ok {n : Nat} {m : Option Nat} (hn : n ≤ 3) (h : ∀ k, m = some k → k < n) : okv (mvD m) = true ∧ isMv n (mvD m) = true := by
  cases m with
  | none => exact ⟨rfl, rfl⟩
  | some k =>
    have := h k rfl
    refine ⟨decide_eq_true ?_, ?_⟩
    · rw [Int.natAbs_natCast]
      exact Nat.lt_of_lt_of_le (by omega : k < 10) (by decide)
    · show (decide ((0 : Int) ≤ (k : Int)) && decide ((k : Int) < (n : Int))) = true
      rw [decide_eq_true (by omega), decide_eq_true (by omega)]
      rfl
theorem Acts.okv {n : Nat} {acts : List Act} (A : Acts n acts) : ∀ a ∈ acts, okv (actD a) = true := fun a ha => by
  show (decide (2 ≤ 1000) && okvAll [.str a.1, .tuple (a.2.map mvD)]) = true
  rw [show decide (2 ≤ 1000) = true from rfl, Bool.true_and, okvAll_iff]
  intro d hd
  rcases List.mem_cons.mp hd with rfl | hd
  · exact (isName_ok (A.nm a ha)).1
  · cases List.mem_singleton.mp hd
    show (decide (_ ≤ 1000) && okvAll (a.2.map mvD)) = true
    rw [List.length_map, A.ln a ha, decide_eq_true (by have := A.sz; omega), Bool.true_and, okvAll_iff]
    intro d hd
    obtain ⟨m, hm, rfl⟩ := List.mem_map.mp hd
    exact (mvD_ok A.sz (A.mv a ha m hm)).1
theorem Acts.isAct {n : Nat} {acts : List Act} (A : Acts n acts) : ∀ a ∈ acts, isAct n (actD a) = true := fun a ha => by
  show (isName (.str a.1) && decide ((((a.2.map mvD).length : Nat) : Int) = (n : Int)) && (a.2.map mvD).all (isMv n)) = true
  rw [A.nm a ha, List.length_map, A.ln a ha, decide_eq_true rfl, Bool.true_and, Bool.true_and, List.all_eq_true]
  intro d hd
  obtain ⟨m, hm, rfl⟩ := List.mem_map.mp hd
  exact (mvD_ok A.sz (A.mv a ha m hm)).2
/-- an action as it stands -/
theorem act_at {S : List Addr} {H : Hp} {v : V} {a : Act} (h : Dv S H v (actD a)) : ∃ p m, v = .ref p ∧ H p = some (.tup [.str a.1, .ref m]) ∧ p ∉ S ∧ Dv S H (.ref m) (.tuple (a.2.map mvD)) := by
  cases h with
  | @tup p xs ds hp hn hx =>
    cases hx with
    | @cons v0 vs0 _ _ h0 hx =>
    cases hx with
    | @cons v1 vs1 _ _ h1 hx =>
    cases hx
    cases h0
    cases h1 with
    | @tup m ys ds hm hnm hy => exact ⟨p, m, rfl, hp, hn, .tup hm hnm hy⟩
theorem dvs_at {S : List Addr} {H : Hp} : ∀ {xs : List V} {ms : List (Option Nat)}, DvAll S H xs (ms.map mvD) → xs = ms.map mvV
  | _, [], .nil => rfl
  | _, m :: ms, .cons h t => by
    rw [dvs_at t, List.map_cons]
    congr 1
    cases m with
    | none => cases h; rfl
    | some k => cases h; rfl
theorem moves_at {S : List Addr} {H : Hp} {m : Addr} {ms : List (Option Nat)} (h : Dv S H (.ref m) (.tuple (ms.map mvD))) : H m = some (.tup (ms.map mvV)) := by
  cases h with
  | @tup m ys ds hm hnm hy => rw [dvs_at hy] at hm; exact hm
section
variable {P : Program} {w : World} {K : PySem.W.Frag} {mg : PySem.Str → Option Value} {base : Heap}
/-- an action's name, of any value -/
def nmOf : PyData → PySem.Str
  | .tuple (.str x :: _) => x
  | _ => ""
/-- the first row that is no action, or whose name was there -/
def badRow (n : Int) : List PySem.Str → List PyData → Option PyData
  | _, [] => none
  | ns, d :: ds => if isAct n d = true ∧ nmOf d ∉ ns then badRow n (ns ++ [nmOf d]) ds else some d
/-- the part that is at fault -/
def chk (sd : PyData) (ds : List PyData) (rd : PyData) : Option PyData := match sd with
  | .int n => if isSz (.int n) = true then (match badRow n [] ds with
    | some d => some d
    | none => if areStates n rd = true then none else some (.str "resting")) else some (.str "size")
  | _ => some (.str "size")
theorem chk_int {n : Int} {ds : List PyData} {rd : PyData} : chk (.int n) ds rd = if isSz (.int n) = true then (match badRow n [] ds with
    | some d => some d
    | none => if areStates n rd = true then none else some (.str "resting")) else some (.str "size") := rfl
theorem badRow_cons {n : Int} {ns : List PySem.Str} {d : PyData} {ds : List PyData} : badRow n ns (d :: ds) = if isAct n d = true ∧ nmOf d ∉ ns then badRow n (ns ++ [nmOf d]) ds else some d := rfl
theorem isAct_shape {n : Int} {d : PyData} (h : isAct n d = true) : ∃ (x : PySem.Str) (ms : List PyData), d = .tuple [.str x, .tuple ms] ∧ nmOf d = x := by
  unfold isAct at h
  split at h
  · rename_i a ms
    rw [Bool.and_eq_true, Bool.and_eq_true] at h
    cases a with
    | str x => exact ⟨x, ms, rfl, rfl⟩
    | _ => exact absurd h.1.1 (by simp [isName])
  · cases h
theorem ok_BadStore_init (T : Txt K mg) : FnOk P w K mg base CX0 1 T.a_BadStore_init T.d_BadStore_init P_BadStore_init (spIni T.C_BadStore ["part"]) := by
  refine T.F_BadStore_init.ok sc_BadStore_init (fun vs H Q E h => by obtain ⟨a, ws, H0, rfl, hl, _⟩ := h; rw [List.length_cons, hl]; rfl) (fun cdv A outer s H vs Q E hr h => ?_)
  refine ⟨_, (pss_one (Xu.ps_put (pv 0) (pv 1))), ?_⟩
  obtain ⟨a, ws, H0, rfl, hl, ha, h0, hr0, q⟩ := h
  obtain ⟨y0, rfl⟩ : ∃ y0, ws = [y0] := by
    match ws, hl with
    | [y], _ => exact ⟨y, rfl⟩
  exact ⟨_, rfl, _, rfl, a, T.C_BadStore, rfl, T.E_BadStore.ox, T.E_BadStore.no _ List.mem_cons_self, .inl ⟨ha, fun dx hd ne => q dx _ (Made.first ha hd ne h0 hr0)⟩⟩
/-- what BadStore tells -/
def Bad (T : Txt K mg) (S : List Addr) (H : Hp) (E : XK) (f : PyData) : Prop := ∀ (d : Addr) (H' : Hp) (v : V), Same H H' → H' d = some (.xd [("part", v)]) → Dv S H' v f → E (.ref T.C_BadStore) (some d) H'
def sp_check (T : Txt K mg) : Sp := fun vs H Q E => ∃ (S : List Addr) (sv r : V) (sd rd : PyData) (a : Addr) (xs : List V) (ds : List PyData), vs = [sv, .ref a, r] ∧ Dv S H sv sd ∧ okv sd = true ∧ H a = some (.tup xs) ∧ DvAll S H xs ds ∧ okvAll ds = true ∧ ds.length ≤ 20 ∧ Rv K S H r rd ∧ okv rd = true ∧
  match chk sd ds rd with
    | none => ∀ (H' : Hp), Same H H' → Q .non H'
    | some f => Bad T S H E f
theorem raise_bad {T : Txt K mg} {S : List Addr} {H H1 : Hp} {E : XK} {v : V} {f : PyData} (b : Bad T S H E f) (k : Same H H1) (hv : Dv S H1 v f) : ∀ d, H1 d = none → E (.ref T.C_BadStore) (some d) (upd H1 d (.xd [("part", v)])) := fun d hd =>
  b d _ v (k.trans (same_new hd)) upd_same (hv.kp (Kp.new hd))
theorem ok_check_store (T : Txt K mg) : FnOk P w K mg base (L2N.CX P w) 5 T.a_check_store T.d_check_store P_check_store (sp_check T) := by
  refine Xv.okXN T.F_check_store sc_check_store (fun vs H Q E h => by obtain ⟨S, sv, r, sd, rd, a, xs, ds, rfl, _⟩ := h; rfl) (fun cdv A outer s H vs Q E hr h => ?_)
  refine ⟨_, (pss_cons (ps_if (pt_not (pt_val (pe_call (ok_is_size T) (hr.mono (by omega)) (by rfl) T.g_is_size T.F_is_size.kp T.b_is_size .nil pass0 (pa_cons (pv 0) pa_nil)))) (pss_one (L2N.ps_raise rfl (L2N.takes_of rfl rfl rfl rfl) (Xw.pmk_E T.E_BadStore.ox T.iC_BadStore T.tI_BadStore (ok_BadStore_init T) (hr.mono (by decide)) T.b_BadStore_init rfl pass0 rfl T.g_BadStore (pa_cons pe_str pa_nil)))) pss_nil)
    (pss_cons (ps_set (i := 3) sc_check_store.nd rfl (Or.inl rfl) (pe_lst pa_nil))
    (pss_cons (ps_for (passes_of rfl) rfl (pi_tup (pv 1)) (pg_name (i := 4) sc_check_store.nd rfl (Or.inl rfl)) (pss_cons (ps_if (PW.pt (pw_or (pt_not (pt_val (pe_call (ok_is_action T) (hr.mono (by omega)) (by rfl) T.g_is_action T.F_is_action.kp T.b_is_action .nil pass0 (pa_cons (pv 0) (pa_cons (pv 4) pa_nil))))) (pw_or1 (pt_cmpR op_in_seq (pe_ix ix_tup (pv 4) pe_int (fun _ _ => rfl)) (pv 3) (by rfl))))) (pss_one (L2N.ps_raise rfl (L2N.takes_of rfl rfl rfl rfl) (Xw.pmk_E T.E_BadStore.ox T.iC_BadStore T.tI_BadStore (ok_BadStore_init T) (hr.mono (by decide)) T.b_BadStore_init rfl pass0 rfl T.g_BadStore (pa_cons (pv 4) pa_nil)))) pss_nil)
    (pss_one (ps_expr (pe_bm PySem.F.plainAttrs_list PySem.F.slot_list_append PySem.F.type_list_append mt_append (pv 3) (pa_cons (pe_ix ix_tup (pv 4) pe_int (fun _ _ => rfl)) pa_nil))))))
    (pss_one (ps_if (pt_not (pt_val (pe_call (ok_are_states T) (hr.mono (by omega)) (by rfl) T.g_are_states T.F_are_states.kp T.b_are_states .nil pass0 (pa_cons (pv 0) (pa_cons (pv 2) pa_nil))))) (pss_one (L2N.ps_raise rfl (L2N.takes_of rfl rfl rfl rfl) (Xw.pmk_E T.E_BadStore.ox T.iC_BadStore T.tI_BadStore (ok_BadStore_init T) (hr.mono (by decide)) T.b_BadStore_init rfl pass0 rfl T.g_BadStore (pa_cons pe_str pa_nil)))) pss_nil))))), ?_⟩
  obtain ⟨S, sv, r, sd, rd, a, xs, ds, rfl, hs, os, ha, hx, ox, h20, hrd, ord, q⟩ := h
  refine ⟨_, rfl, S, sv, sd, rfl, hs, os, fun H1 k1 => ⟨_, rfl, ?_⟩⟩
  cases hz : isSz sd with
  | false =>
    have e : chk sd ds rd = some (.str "size") := by
      cases sd with
      | int n => rw [chk_int, if_neg (by rw [hz]; exact Bool.false_ne_true)]
      | _ => rfl
    rw [e] at q
    exact ⟨rfl, raise_bad q k1 (.str _)⟩
  | true =>
    obtain ⟨n, rfl⟩ : ∃ n, sd = .int n := by
      cases sd with
      | int n => exact ⟨n, rfl⟩
      | _ => cases hz
    cases hs
    have e : chk (.int n) ds rd = (match badRow n [] ds with
      | some d => some d
      | none => if areStates n rd = true then none else some (.str "resting")) := by rw [chk_int, if_pos hz]
    rw [e] at q
    refine iteF ?_
    refine ⟨Nat.zero_le _, fun D hD => ?_⟩
    have ha1 := k1 _ _ ha
    have hx1 := hx.kp (Kp.of k1)
    have aD : a ≠ D := ne_of_none ha1 hD
    have hxl := hx.length
    refine ⟨_, rfl, a, rfl, ⟨_, SqT.of (same_new hD _ _ ha1)⟩, for_tup (K := K) (a := a) (xs := xs) (fun i σ H' => ∃ (y : Option V) (ns : List PySem.Str), σ = [some (.int n), some (.ref a), some r, some (.ref D), y] ∧ Same H1 H' ∧ H' D = some (.lst (ns.map V.str)) ∧ ns.length = i ∧ badRow n [] ds = badRow n ns (ds.drop i)) ⟨none, [], rfl, same_new hD, upd_same, rfl, rfl⟩ (fun i σ H' _ ⟨_, _, _, k, _⟩ => SqT.of (k _ _ ha1)) ?_ ?_⟩
    · rintro i x σ H' hi ⟨y, ns, rfl, k, hDl, hnl, hb⟩
      obtain ⟨d, hdi, hdx⟩ := hx1.get hi
      obtain ⟨hil, hde⟩ := List.getElem?_eq_some_iff.mp hdi
      have hdrop : ds.drop i = d :: ds.drop (i + 1) := by rw [← hde, List.getElem_cons_drop]
      rw [hdrop] at hb
      have od : okv d = true := okvAll_iff.mp ox d (List.mem_of_getElem? hdi)
      refine ⟨_, rfl, _, rfl, n, S, x, d, rfl, hdx.kp (Kp.of k), od, fun H2 k2 => ⟨_, rfl, ?_⟩⟩
      have kk : Same H H2 := k1.trans (k.trans k2)
      have bad : badRow n ns (d :: ds.drop (i + 1)) = some d → Bad T S H E d := fun e2 => by
        rw [hb, e2] at q
        exact q
      cases hA : isAct n d with
      | false =>
        refine ⟨_, rfl, rfl, raise_bad (bad (by rw [badRow_cons, if_neg (fun z => by rw [hA] at z; exact Bool.false_ne_true z.1)])) kk ((hdx.kp (Kp.of k)).kp (Kp.of k2))⟩
      | true =>
        obtain ⟨nm, ms, rfl, hnm⟩ := isAct_shape hA
        obtain ⟨p, vs2, rfl, hp, _, hv2⟩ : ∃ p vs2, x = .ref p ∧ H1 p = some (.tup vs2) ∧ p ∉ S ∧ DvAll S H1 vs2 [.str nm, .tuple ms] := by
          cases hdx with
          | tup h1 h2 h3 => exact ⟨_, _, rfl, h1, h2, h3⟩
        obtain ⟨m, rfl⟩ : ∃ m, vs2 = [.str nm, m] := by
          cases hv2 with
          | cons h0 h1 =>
            cases h0
            cases h1 with
            | cons h1 h2 =>
              cases h2
              exact ⟨_, rfl⟩
        have hp2 := k2 _ _ (k _ _ hp)
        have hD2 := k2 _ _ hDl
        have hin : inV (.str nm) (ns.map V.str) = decide (nm ∈ ns) := by
          rw [Bool.eq_iff_iff, decide_eq_true_iff]
          unfold inV
          rw [List.any_eq_true]
          constructor
          · rintro ⟨v, hv, e⟩
            obtain ⟨z, hz, rfl⟩ := List.mem_map.mp hv
            have e' : z = nm := beq_iff_eq.mp e
            rw [← e']
            exact hz
          · intro h
            exact ⟨.str nm, List.mem_map.mpr ⟨nm, h, rfl⟩, beq_iff_eq.mpr rfl⟩
        refine ⟨_, rfl, p, _, 0, _, rfl, rfl, SqT.of hp2, atI_nat (j := 0) rfl, _, rfl, D, _, rfl, .inl (SqL.of hD2), rfl, ?_, _, rfl, ?_⟩
        · rw [List.all_map]
          exact List.all_eq_true.mpr fun _ _ => rfl
        rw [hin]
        by_cases hm : nm ∈ ns
        · rw [decide_eq_true hm]
          exact iteT ⟨_, rfl, rfl, raise_bad (bad (by rw [badRow_cons, if_neg (fun z => z.2 (by rw [hnm]; exact hm))])) kk ((hdx.kp (Kp.of k)).kp (Kp.of k2))⟩
        · rw [decide_eq_false hm]
          refine iteF ?_
          refine ⟨_, rfl, .inl ⟨rfl, _, SqL.of hD2⟩, _, rfl, p, _, 0, _, rfl, rfl, SqT.of hp2, atI_nat (j := 0) rfl, D, _, _, rfl, rfl, hD2, ?_, ?_⟩
          · rw [List.length_map, sizeLine_eq]
            omega
          · refine ⟨_, ns ++ [nm], rfl, ?_, ?_, ?_, ?_⟩
            · exact fun b o eb => by
                rw [upd_ne (ne_of_none eb hD)]
                exact k2 _ _ (k _ _ eb)
            · rw [upd_same, List.map_append]
              rfl
            · rw [List.length_append, List.length_singleton, hnl]
            · rw [hb]
              rw [badRow_cons, if_pos ⟨hA, by rw [hnm]; exact hm⟩, hnm]
    · rintro σ H' ⟨y, ns, rfl, k, hDl, hnl, hb⟩
      rw [hxl, List.drop_length] at hb
      have hb' : badRow n [] ds = none := hb
      rw [hb'] at q
      refine ⟨_, rfl, _, rfl, n, S, r, rd, rfl, (hrd.kp (Kp.of k1)).kp (Kp.of k), ord, fun H2 k2 => ⟨_, rfl, ?_⟩⟩
      have kk : Same H H2 := k1.trans (k.trans k2)
      cases hst : areStates n rd with
      | true =>
        rw [if_pos hst] at q
        exact iteF (q H2 kk)
      | false =>
        rw [if_neg (by rw [hst]; exact Bool.false_ne_true)] at q
        exact ⟨rfl, raise_bad q kk (.str _)⟩
end
end K02
set_option Elab.async false
set_option linter.all false
set_option maxRecDepth 100000
set_option maxHeartbeats 4000000
/-! k02: ways by plain functions. -/
namespace K02
open PySem
/-! ### the first action that leads from a state to another one -/
def tg (a : Act) (p : Nat) : Option Nat := (a.2[p]?).getD none
def Fst (acts : List Act) (p q : Nat) : Option PySem.Str := (acts.find? fun a => tg a p == some q).map (·.1)
/-- the first shortest way, by hand: two steps are enough -/
def R (acts : List Act) (one q : Nat) : Option (List PySem.Str) :=
  if q = one then some [] else
    match Fst acts one q with
    | some a => some [a]
    | none =>
      match Fst acts one (3 - one - q), Fst acts (3 - one - q) q with
      | some a, some b => some [a, b]
      | _, _ => none
theorem fst_lt {n : Nat} {acts : List Act} (A : Acts n acts) {p q : Nat} {x : PySem.Str} (h : Fst acts p q = some x) : q < n := by
  unfold Fst at h
  cases e : acts.find? fun a => tg a p == some q with
  | none => rw [e] at h; cases h
  | some a =>
    have hm := List.mem_of_find?_eq_some e
    have ht : tg a p = some q := by simpa using List.find?_some e
    unfold tg at ht
    cases e2 : a.2[p]? with
    | none => rw [e2] at ht; cases ht
    | some m =>
      rw [e2] at ht
      exact A.mv a hm m (List.mem_of_getElem? e2) q ht
theorem R_lt {n : Nat} {acts : List Act} (A : Acts n acts) {one q : Nat} {w : List PySem.Str} (ho : one < n) (h : R acts one q = some w) : q < n := by
  unfold R at h
  split at h
  · omega
  · split at h
    · rename_i e; exact fst_lt A e
    · split at h
      · rename_i e; exact fst_lt A e
      · cases h
/-! ### what a search has found -/
abbrev Fnd := List (Nat × List PySem.Str)
/-- so many states have been looked at -/
structure Bf (acts : List Act) (n one at_ : Nat) (W : Fnd) : Prop where
  nd : (W.map (·.1)).Nodup
  lt : ∀ e ∈ W, e.1 < n
  hd : W[0]? = some (one, [])
  sound : ∀ e ∈ W, R acts one e.1 = some e.2
  comp : ∀ i e, i < at_ → W[i]? = some e → ∀ t x, Fst acts e.1 t = some x → t ∈ W.map (·.1)
  le : at_ ≤ W.length
/-- the state at at_ is being looked at, so many actions are done -/
structure Bi (acts : List Act) (n one at_ here : Nat) (hw : List PySem.Str) (j : Nat) (W : Fnd) : Prop where
  bf : Bf acts n one at_ W
  hr : W[at_]? = some (here, hw)
  do_ : ∀ a ∈ acts.take j, ∀ t, tg a here = some t → t ∈ W.map (·.1)
theorem Bf.start {n : Nat} {acts : List Act} {one : Nat} (h : one < n) : Bf acts n one 0 [(one, [])] := by
  refine ⟨List.nodup_cons.mpr ⟨List.not_mem_nil, List.nodup_nil⟩, fun e he => ?_, rfl, fun e he => ?_, fun i e hi => absurd hi (Nat.not_lt_zero _), Nat.zero_le _⟩
  · cases List.mem_singleton.mp he
    exact h
  · cases List.mem_singleton.mp he
    show R acts one one = some []
    unfold R
    rw [if_pos rfl]
theorem nodup_len : ∀ {n : Nat} {l : List Nat}, l.Nodup → (∀ x ∈ l, x < n) → l.length ≤ n
  | 0, l, _, h => by
    cases l with
    | nil => exact Nat.le_refl _
    | cons x l => exact absurd (h x List.mem_cons_self) (Nat.not_lt_zero _)
  | n + 1, l, h1, h2 => by
    have h3 := nodup_len (n := n) (l := l.erase n) (h1.erase n) fun x hx => by
      have hx2 := (List.Nodup.mem_erase_iff h1).mp hx
      have := h2 x hx2.2
      have := hx2.1
      omega
    by_cases hm : n ∈ l
    · rw [List.length_erase_of_mem hm] at h3
      omega
    · rw [List.erase_of_not_mem hm] at h3
      omega
theorem Bf.len {acts : List Act} {n one at_ : Nat} {W : Fnd} (b : Bf acts n one at_ W) : W.length ≤ n := by
  have := nodup_len b.nd (n := n) fun x hx => by
    obtain ⟨e, he, rfl⟩ := List.mem_map.mp hx
    exact b.lt e he
  rwa [List.length_map] at this
theorem Bf.one_lt {acts : List Act} {n one at_ : Nat} {W : Fnd} (b : Bf acts n one at_ W) : one < n := b.lt _ (List.mem_of_getElem? b.hd)
theorem Bf.enter {acts : List Act} {n one at_ : Nat} {W : Fnd} (b : Bf acts n one at_ W) {here : Nat} {hw : List PySem.Str} (h : W[at_]? = some (here, hw)) : Bi acts n one at_ here hw 0 W := ⟨b, h, fun a ha => by rw [List.take_zero] at ha; cases ha⟩
theorem Bi.skip {acts : List Act} {n one at_ here : Nat} {hw : List PySem.Str} {j : Nat} {W : Fnd} (b : Bi acts n one at_ here hw j W) {a : Act} (ha : acts[j]? = some a) (h : ∀ t, tg a here = some t → t ∈ W.map (·.1)) : Bi acts n one at_ here hw (j + 1) W := by
  refine ⟨b.bf, b.hr, fun x hx => ?_⟩
  rw [List.take_succ, ha] at hx
  rcases List.mem_append.mp hx with hx | hx
  · exact b.do_ x hx
  · cases List.mem_singleton.mp hx
    exact h
theorem Bi.leave {acts : List Act} {n one at_ here : Nat} {hw : List PySem.Str} {W : Fnd} (b : Bi acts n one at_ here hw acts.length W) : Bf acts n one (at_ + 1) W := by
  refine ⟨b.bf.nd, b.bf.lt, b.bf.hd, b.bf.sound, fun i e hi he t x hf => ?_, (List.getElem?_eq_some_iff.mp b.hr).1⟩
  by_cases h : i < at_
  · exact b.bf.comp i e h he t x hf
  · obtain rfl : i = at_ := by omega
    rw [b.hr] at he
    cases he
    unfold Fst at hf
    cases e : acts.find? fun a => tg a here == some t with
    | none => rw [e] at hf; cases hf
    | some a =>
      refine b.do_ a ?_ t (by simpa using List.find?_some e)
      rw [List.take_length]
      exact List.mem_of_find?_eq_some e
theorem Bi.add {acts : List Act} {n one at_ here : Nat} {hw : List PySem.Str} {j : Nat} {W : Fnd} (A : Acts n acts) (b : Bi acts n one at_ here hw j W) {a : Act} {t : Nat} (ha : acts[j]? = some a) (ht : tg a here = some t) (hn : t ∉ W.map (·.1)) :
    Bi acts n one at_ here hw (j + 1) (W ++ [(t, hw ++ [a.1])]) := by
  have hat : at_ < W.length := (List.getElem?_eq_some_iff.mp b.hr).1
  have hf : Fst acts here t = some a.1 := by
    unfold Fst
    have : acts.find? (fun a => tg a here == some t) = some a := by
      refine List.find?_eq_some_iff_append.mpr ⟨by rw [ht]; exact beq_self_eq_true _, acts.take j, acts.drop (j + 1), ?_, fun x hx => ?_⟩
      · obtain ⟨hl, e⟩ := List.getElem?_eq_some_iff.mp ha
        rw [← e, List.getElem_cons_drop, List.take_append_drop]
      · rw [Bool.not_eq_true']
        exact beq_eq_false_iff_ne.mpr fun e => hn (b.do_ x hx t e)
    rw [this]
    rfl
  have htn : t < n := fst_lt A hf
  have hhm : here ∈ W.map (·.1) := List.mem_map.mpr ⟨_, List.mem_of_getElem? b.hr, rfl⟩
  have hhn : here < n := b.bf.lt _ (List.mem_of_getElem? b.hr)
  have hom : one ∈ W.map (·.1) := List.mem_map.mpr ⟨_, List.mem_of_getElem? b.bf.hd, rfl⟩
  have hon := b.bf.one_lt
  have to : t ≠ one := fun e => hn (e ▸ hom)
  have th : t ≠ here := fun e => hn (e ▸ hhm)
  have hR : R acts one here = some hw := b.bf.sound _ (List.mem_of_getElem? b.hr)
  have hRt : R acts one t = some (hw ++ [a.1]) := by
    by_cases ho : here = one
    · subst ho
      unfold R at hR
      rw [if_pos rfl] at hR
      cases hR
      unfold R
      rw [if_neg to, hf]
      rfl
    · have h0 : 0 < at_ := Nat.pos_of_ne_zero fun e => by
        subst e
        have := b.hr.symm.trans b.bf.hd
        cases this
        exact ho rfl
      have hno : ∀ x, Fst acts one t ≠ some x := fun x e => hn (b.bf.comp 0 _ h0 b.bf.hd t x e)
      have hnone : Fst acts one t = none := by
        cases e : Fst acts one t with
        | none => rfl
        | some x => exact absurd e (hno x)
      have n3 := A.sz
      have ez : 3 - one - t = here := by omega
      have ez2 : 3 - one - here = t := by omega
      unfold R at hR
      rw [if_neg ho, ez2, hnone] at hR
      unfold R
      rw [if_neg to, hnone, ez, hf]
      cases e : Fst acts one here with
      | none => rw [e] at hR; cases hR
      | some x =>
        rw [e] at hR
        cases hR
        rfl
  refine ⟨⟨?_, fun e he => ?_, ?_, fun e he => ?_, fun i e hi he u x hu => ?_, ?_⟩, ?_, fun x hx u hu => ?_⟩
  · rw [List.map_append]
    refine List.nodup_append.mpr ⟨b.bf.nd, List.nodup_cons.mpr ⟨List.not_mem_nil, List.nodup_nil⟩, fun x hx y hy e => ?_⟩
    cases List.mem_singleton.mp hy
    subst e
    exact hn hx
  · rcases List.mem_append.mp he with he | he
    · exact b.bf.lt e he
    · cases List.mem_singleton.mp he
      exact htn
  · rw [List.getElem?_append_left (by omega)]
    exact b.bf.hd
  · rcases List.mem_append.mp he with he | he
    · exact b.bf.sound e he
    · cases List.mem_singleton.mp he
      exact hRt
  · have hi' : i < W.length := by omega
    rw [List.getElem?_append_left hi'] at he
    rw [List.map_append]
    exact List.mem_append_left _ (b.bf.comp i e hi he u x hu)
  · rw [List.length_append]
    omega
  · rw [List.getElem?_append_left hat]
    exact b.hr
  · rw [List.map_append]
    rw [List.take_succ, ha] at hx
    rcases List.mem_append.mp hx with hx | hx
    · exact List.mem_append_left _ (b.do_ x hx u hu)
    · cases List.mem_singleton.mp hx
      rw [ht] at hu
      cases hu
      exact List.mem_append_right _ (List.mem_singleton.mpr rfl)
/-- all is found -/
theorem Bf.done {acts : List Act} {n one : Nat} {W : Fnd} (A : Acts n acts) (b : Bf acts n one W.length W) (r : Nat) (w : List PySem.Str) : R acts one r = some w → (r, w) ∈ W := fun h => by
  have key : r ∈ W.map (·.1) → (r, w) ∈ W := fun hm => by
    obtain ⟨e, he, rfl⟩ := List.mem_map.mp hm
    have := b.sound e he
    rw [h] at this
    cases this
    exact he
  have all : ∀ s ∈ W.map (·.1), ∀ t x, Fst acts s t = some x → t ∈ W.map (·.1) := fun s hs t x hf => by
    obtain ⟨e, he, rfl⟩ := List.mem_map.mp hs
    obtain ⟨i, hi⟩ := List.getElem?_of_mem he
    exact b.comp i e (List.getElem?_eq_some_iff.mp hi).1 hi t x hf
  have hom : one ∈ W.map (·.1) := List.mem_map.mpr ⟨_, List.mem_of_getElem? b.hd, rfl⟩
  refine key ?_
  unfold R at h
  split at h
  · rename_i e; exact e ▸ hom
  · split at h
    · rename_i a e; exact all one hom r a e
    · split at h
      · rename_i a b' e1 e2
        exact all _ (all one hom _ _ e1) r _ e2
      · cases h
end K02
set_option Elab.async false
set_option linter.all false
set_option maxRecDepth 100000
set_option maxHeartbeats 4000000
/-! k02: ways_from. -/
namespace K02
open PySem PySem.Spec PyProof.Rows L2 Zg Zr Zd Zv
/-! ### what is found, as it stands -/
abbrev Ent := Nat × Addr × List PySem.Str
def kvsE (E : List Ent) : List (Key × V) := E.map fun e => (.inl (e.1 : Int), .ref e.2.1)
def fndE (E : List Ent) : Fnd := E.map fun e => (e.1, e.2.2)
theorem fndE_keys (E : List Ent) : (fndE E).map (·.1) = E.map (·.1) := by unfold fndE; rw [List.map_map]; rfl
theorem valE (E : List Ent) (t : Nat) : valV (kvsE E) (.inl (t : Int)) = (E.find? fun e => e.1 == t).map fun e => V.ref e.2.1 := by
  induction E with
  | nil => rfl
  | cons e E ih =>
    show valV ((Sum.inl (e.1 : Int), V.ref e.2.1) :: kvsE E) _ = _
    by_cases h : e.1 = t
    · rw [valV_pos (by rw [h]), List.find?_cons_of_pos (by simp [h])]
      rfl
    · rw [valV_neg (fun z => h (by injection z with z; omega)), List.find?_cons_of_neg (by simp [h]), ih]
theorem valE_none {E : List Ent} {t : Nat} (h : valV (kvsE E) (.inl (t : Int)) = none) : t ∉ E.map (·.1) := by
  rw [valE] at h
  intro hm
  obtain ⟨e, he, rfl⟩ := List.mem_map.mp hm
  cases q : E.find? fun x => x.1 == e.1 with
  | none => exact absurd (List.find?_eq_none.mp q e he) (by simp)
  | some x => rw [q] at h; cases h
theorem valE_some {E : List Ent} {t : Nat} {v : V} (h : valV (kvsE E) (.inl (t : Int)) = some v) : ∃ e ∈ E, e.1 = t ∧ v = .ref e.2.1 := by
  rw [valE] at h
  cases q : E.find? fun x => x.1 == t with
  | none => rw [q] at h; cases h
  | some x =>
    rw [q] at h
    refine ⟨x, List.mem_of_find?_eq_some q, by simpa using List.find?_some q, ?_⟩
    cases h
    rfl
theorem valE_at {E : List Ent} (nd : (E.map (·.1)).Nodup) {e : Ent} (he : e ∈ E) : valV (kvsE E) (.inl (e.1 : Int)) = some (.ref e.2.1) := by
  rw [valE]
  cases q : E.find? fun x => x.1 == e.1 with
  | none => exact absurd (List.find?_eq_none.mp q e he) (by simp)
  | some x =>
    have h1 : x.1 = e.1 := by simpa using List.find?_some q
    have hx := List.mem_of_find?_eq_some q
    obtain ⟨i, hi⟩ := List.getElem?_of_mem he
    obtain ⟨j, hj⟩ := List.getElem?_of_mem hx
    have e1 : (E.map (·.1))[i]? = some e.1 := by rw [List.getElem?_map, hi]; rfl
    have e2 : (E.map (·.1))[j]? = some x.1 := by rw [List.getElem?_map, hj]; rfl
    rw [h1, ← e1] at e2
    have il : j < (E.map (·.1)).length := by rw [List.length_map]; exact (List.getElem?_eq_some_iff.mp hj).1
    have := (List.getElem?_inj il nd).mp e2
    subst this
    rw [hi] at hj
    cases hj
    rfl
/-- the ways of E stand -/
def WaysAt (H : Hp) (E : List Ent) : Prop := ∀ e ∈ E, H e.2.1 = some (.tup (e.2.2.map V.str))
theorem WaysAt.same {H H' : Hp} {E : List Ent} (h : WaysAt H E) (k : Same H H') : WaysAt H' E := fun e he => k _ _ (h e he)
/-- a while with its rest -/
theorem while_then {c : TT} {tb u : TS} {D : Ends} {σ : L2.St} {H : Hp} (Pv : L2.St → Hp → Prop) (μ : L2.St → Hp → Nat) (h0 : Pv σ H)
    (hs : ∀ σ H, Pv σ H → c σ H fun b H1 => if b = true then ∃ N : L2.St → Hp → Prop, (∀ σ' H', N σ' H' → ∃ m', m' < μ σ H ∧ m' = μ σ' H' ∧ Pv σ' H') ∧ tb { D with nx := N, ct := N, bk := u D } σ H1 else u D σ H1) : tSeq (tWhile c tb) u D σ H := by
  refine ⟨fun m σ H => m = μ σ H ∧ Pv σ H, ⟨_, rfl, h0⟩, ?_⟩
  rintro m σ H ⟨rfl, p⟩
  exact hs σ H p
theorem turn_of {Pv : L2.St → Hp → Prop} {μ : L2.St → Hp → Nat} {n : Nat} : ∀ σ' H', (Pv σ' H' ∧ μ σ' H' < n) → ∃ m', m' < n ∧ m' = μ σ' H' ∧ Pv σ' H' := fun σ' H' h => ⟨_, h.2, rfl, h.1⟩
def slot4 (σ : L2.St) : Nat := match σ[4]? with
  | some (some (V.int k)) => k.toNat
  | _ => 0
theorem R_len {acts : List Act} {one q : Nat} {w : List PySem.Str} (h : R acts one q = some w) : w.length ≤ 2 := by
  unfold R at h
  split at h
  · cases h; exact Nat.zero_le _
  · split at h
    · cases h; show 1 ≤ 2; decide
    · split at h
      · cases h; show 2 ≤ 2; decide
      · cases h
/-- the loop of ways_from -/
def PvW (H : Hp) (a d l : Addr) (one n : Nat) (acts : List Act) (σ : L2.St) (H' : Hp) : Prop := ∃ (k : Nat) (E : List Ent) (y5 y6 y7 y8 : Option V), σ = [some (.ref a), some (.int (one : Nat)), some (.ref d), some (.ref l), some (.int (k : Nat)), y5, y6, y7, y8] ∧
  Same H H' ∧ H' d = some (.dK (kvsE E)) ∧ H' l = some (.lst (E.map fun e => .int (e.1 : Nat))) ∧ WaysAt H' E ∧ Bf acts n one k (fndE E)
theorem acts_get {S : List Addr} {H : Hp} {xs : List V} {acts : List Act} (hx : DvAll S H xs (acts.map actD)) {i : Nat} {v : V} (h : xs[i]? = some v) : ∃ a, acts[i]? = some a ∧ Dv S H v (actD a) := by
  obtain ⟨d, hdi, hdx⟩ := hx.get h
  rw [List.getElem?_map] at hdi
  cases e : acts[i]? with
  | none => rw [e] at hdi; cases hdi
  | some a => rw [e] at hdi; cases hdi; exact ⟨a, rfl, hdx⟩
theorem Same.sqT {K : PySem.W.Frag} {H H' : Hp} {a : Addr} {xs : List V} (k : Same H H') (h : SqT K H a xs) : SqT K H' a xs := by
  rcases h with h | h
  · rcases h with h | ⟨o, h⟩
    · exact .inl (.inl (k _ _ h))
    · exact .inl (.inr ⟨o, k _ _ h⟩)
  · exact .inr h
section
variable {P : Program} {w : World} {K : PySem.W.Frag} {mg : PySem.Str → Option Value} {base : Heap}
def sp_ways (K : PySem.W.Frag) : Sp := fun vs H Q _ => ∃ (n one : Nat) (S : List Addr) (a : Addr) (xs : List V) (acts : List Act), vs = [.ref a, .int (one : Nat)] ∧ SqT K H a xs ∧ DvAll S H xs (acts.map actD) ∧ Acts n acts ∧ one < n ∧
  ∀ (H' : Hp) (d : Addr) (E : List Ent), Same H H' → H d = none → H' d = some (.dK (kvsE E)) → WaysAt H' E → Bf acts n one E.length (fndE E) → Q (.ref d) H'
theorem ok_ways_from (T : Txt K mg) : FnOk P w K mg base CX0 1 T.a_ways_from T.d_ways_from P_ways_from (sp_ways K) := by
  refine T.F_ways_from.ok sc_ways_from (fun vs H Q E h => by obtain ⟨n, one, S, a, xs, acts, rfl, _⟩ := h; rfl) (fun cdv A outer s H vs Q E hr h => ?_)
  refine ⟨_, (pss_cons (ps_set (i := 2) sc_ways_from.nd rfl (Or.inl rfl) (pe_disp (pps_cons (pv 1) (pe_tup pa_nil) pps_nil) (by rfl) (by rfl) (fun z => by cases z) (by decide)))
    (pss_cons (ps_set (i := 3) sc_ways_from.nd rfl (Or.inl rfl) (pe_lst (pa_cons (pv 1) pa_nil)))
    (pss_cons (ps_set (i := 4) sc_ways_from.nd rfl (Or.inl rfl) pe_int)
    (pss_cons (ps_while PassesOwn.never (pt_cmpR op_lt (pv 4) (pe_callB call_len_seq (by rfl) T.n_len (by decide +kernel) (pa_cons (pv 3) pa_nil)) (nomark _)) (pss_cons (ps_set (i := 5) sc_ways_from.nd rfl (Or.inl rfl) (pe_ix ix_list (pv 3) (pv 4) (fun _ _ => rfl)))
    (pss_cons (ps_aug (i := 4) sc_ways_from.nd rfl (Or.inl rfl) pe_int ip_add)
    (pss_one (ps_for PassesOwn.never rfl (pi_tup (pv 0)) (pg_tup (by rfl) (pgs_cons (pg_name (i := 6) sc_ways_from.nd rfl (Or.inl rfl)) (pgs_cons (pg_name (i := 7) sc_ways_from.nd rfl (Or.inl rfl)) pgs_nil))) (pss_cons (ps_set (i := 8) sc_ways_from.nd rfl (Or.inl rfl) (pe_ix ix_tup (pv 7) (pv 5) (fun _ _ => rfl)))
    (pss_one (ps_if (PW.pt (pw_and (pt_cmpR op_notN (pv 8) pe_non (nomark _)) (pw_and1 (pt_cmp (pc_dnotin (hu_of hr) (pv 8) (pv 2)) rfl)))) (pss_cons (ps_dput (hu_of hr) (pv 2) (pv 8) (pe_tup (StX.pa_star (pe_dget (hu_of hr) (pv 2) (pv 5) (fun _ _ => rfl)) (pa_cons (pv 6) pa_nil))) rfl)
    (pss_one (ps_expr (pe_bm PySem.F.plainAttrs_list PySem.F.slot_list_append PySem.F.type_list_append mt_append (pv 3) (pa_cons (pv 8) pa_nil))))) pss_nil))))))))
    (pss_one (ps_ret (pv 2))))))), ?_⟩
  obtain ⟨n, one, S, a, xs, acts, rfl, ha, hx, AA, ho, q⟩ := h
  refine fun d hd => ⟨_, rfl, Nat.zero_le _, fun t ht => ?_⟩
  have td : d ≠ t := fun e => by
    rw [← e, upd_same] at ht
    cases ht
  refine ⟨by rw [upd_ne td]; exact upd_same, [(.inl (one : Int), .ref t)], rfl, (by show 1 ≤ 15; decide), ?_⟩
  have s2 : Same H (upd (upd (upd H d (.dK [])) t (.tup [])) d (.dK (mergeK [] [(.inl (one : Int), .ref t)]))) := fun b o e => by
    have nd := ne_of_none e hd
    rw [upd_ne nd]
    exact same_new ht _ _ (same_new hd _ _ e)
  have hd2 : (upd (upd (upd H d (.dK [])) t (.tup [])) d (.dK (mergeK [] [(.inl (one : Int), .ref t)]))) d = some (.dK (kvsE [(one, t, [])])) := upd_same
  have ht2 : (upd (upd (upd H d (.dK [])) t (.tup [])) d (.dK (mergeK [] [(.inl (one : Int), .ref t)]))) t = some (.tup []) := by rw [upd_ne td.symm, upd_same]
  generalize upd (upd (upd H d (.dK [])) t (.tup [])) d (.dK (mergeK [] [(.inl (one : Int), .ref t)])) = H2 at s2 hd2 ht2 ⊢
  refine ⟨_, rfl, (by show 1 ≤ sizeLine; decide), fun l hl => ?_⟩
  have k3 : Same H2 (upd H2 l (.lst [.int (one : Nat)])) := same_new hl
  have dl : d ≠ l := ne_of_none hd2 hl
  have hl0 : H l = none := s2.free hl
  refine while_then (fun σ H' => PvW H a d l one n acts σ H') (fun σ _ => n - slot4 σ) ⟨0, [(one, t, [])], none, none, none, none, rfl, s2.trans k3, k3 _ _ hd2, upd_same, fun e he => ?_, Bf.start ho⟩ ?_
  · cases List.mem_singleton.mp he
    exact k3 _ _ ht2
  rintro σ H' ⟨k, E, y5, y6, y7, y8, rfl, ks, hD, hL, hw, bf⟩
  have hlen : (fndE E).length = E.length := List.length_map _
  refine ⟨_, rfl, _, rfl, l, _, rfl, .inl (SqL.of hL), _, _, rfl, rfl, _, rfl, ite2 (fun e => ?_) (fun e => ?_)⟩
  · have hk : k < E.length := by
      have := of_decide_eq_true e
      rw [List.length_map] at this
      omega
    obtain ⟨en, hen⟩ : ∃ en, E[k]? = some en := ⟨_, List.getElem?_eq_getElem hk⟩
    obtain ⟨here, pw, hw0⟩ := en
    have hfk : (fndE E)[k]? = some (here, hw0) := by unfold fndE; rw [List.getElem?_map, hen]; rfl
    have hn := bf.len
    rw [hlen] at hn
    refine ⟨fun σ' H' => PvW H a d l one n acts σ' H' ∧ n - slot4 σ' < n - k, turn_of, ?_⟩
    refine ⟨_, rfl, _, rfl, l, _, _, _, rfl, rfl, SqL.of hL, atI_nat (j := k) (by rw [List.getElem?_map, hen]; rfl), ?_⟩
    refine ⟨_, rfl, _, _, rfl, rfl, ?_⟩
    refine ⟨_, rfl, a, rfl, ⟨_, Same.sqT ks ha⟩, for_tup (K := K) (a := a) (xs := xs) (fun j σ H' => ∃ (E : List Ent) (y6 y7 y8 : Option V), σ = [some (.ref a), some (.int (one : Nat)), some (.ref d), some (.ref l), some (.int ((k + 1 : Nat) : Int)), some (.int (here : Nat)), y6, y7, y8] ∧ Same H H' ∧ H' d = some (.dK (kvsE E)) ∧ H' l = some (.lst (E.map fun e => .int (e.1 : Nat))) ∧ WaysAt H' E ∧ Bi acts n one k here hw0 j (fndE E))
      ⟨E, y6, y7, y8, rfl, ks, hD, hL, hw, bf.enter hfk⟩ (fun j σ H' _ ⟨_, _, _, _, _, ks, _⟩ => Same.sqT ks ha) ?_ ?_⟩
    · clear hfk hen hk e hlen bf hw hL hD ks
      rintro j x σ H' hj ⟨E, y6, y7, y8, rfl, ks, hD, hL, hw, bi⟩
      obtain ⟨ac, hac, hdx⟩ := acts_get hx hj
      obtain ⟨p, m, rfl, hp, _, hm⟩ := act_at hdx
      have hmm := moves_at hm
      have hil : j < acts.length := (List.getElem?_eq_some_iff.mp hac).1
      have hmem : ac ∈ acts := List.mem_of_getElem? hac
      have hhn : here < n := bi.bf.lt _ (List.mem_of_getElem? bi.hr)
      have hkl : k < (fndE E).length := (List.getElem?_eq_some_iff.mp bi.hr).1
      obtain ⟨mv, hmv⟩ : ∃ mv, ac.2[here]? = some mv := ⟨_, List.getElem?_eq_getElem (by rw [AA.ln ac hmem]; exact hhn)⟩
      have htg : tg ac here = mv := by unfold tg; rw [hmv]; rfl
      refine ⟨p, _, rfl, SqT.of (ks _ _ hp), rfl, _, _, rfl, _, _, rfl, rfl, ?_⟩
      refine ⟨_, rfl, _, rfl, m, _, _, _, rfl, rfl, SqT.of (ks _ _ hmm), atI_nat (j := here) (by rw [List.getElem?_map, hmv]; rfl), ?_⟩
      refine ⟨_, rfl, rfl, _, rfl, ?_⟩
      cases mv with
      | none =>
        refine iteF (iteF ?_)
        exact ⟨E, _, _, _, rfl, ks, hD, hL, hw, bi.skip hac fun t ht => by rw [htg] at ht; cases ht⟩
      | some t =>
        rw [show (decide (mvV (some t) = V.non)) = false from decide_eq_false fun z => by cases z]
        refine iteT ?_
        refine ⟨_, rfl, _, rfl, d, _, rfl, DGet.k (k := .inl (t : Int)) hD, _, rfl, ?_⟩
        cases hv : valV (kvsE E) (.inl (t : Int)) with
        | some v =>
          refine iteF ?_
          obtain ⟨e, he, rfl, _⟩ := valE_some hv
          refine ⟨E, _, _, _, rfl, ks, hD, hL, hw, bi.skip hac fun u hu => ?_⟩
          rw [htg] at hu
          cases hu
          rw [fndE_keys]
          exact List.mem_map.mpr ⟨e, he, rfl⟩
        | none =>
          refine iteT ?_
          have hnot := valE_none hv
          rw [← fndE_keys] at hnot
          -- found[here]
          obtain ⟨en, hen, e1, e2⟩ : ∃ en ∈ E, en.1 = here ∧ en.2.2 = hw0 := by
            have := List.mem_of_getElem? bi.hr
            obtain ⟨en, hen, e⟩ := List.mem_map.mp this
            cases e
            exact ⟨en, hen, rfl, rfl⟩
          subst e1 e2
          have ndE : (E.map (·.1)).Nodup := by rw [← fndE_keys]; exact bi.bf.nd
          have hEl : E.length ≤ 3 := by
            have := bi.bf.len
            rw [show (fndE E).length = E.length from List.length_map _] at this
            have := AA.sz
            omega
          have hwl : en.2.2.length ≤ 3 := by
            have := bi.bf.sound _ (List.mem_of_getElem? bi.hr)
            have h2 : en.2.2.length ≤ 2 := R_len this
            omega
          refine ⟨_, rfl, _, rfl, d, _, rfl, ?_, en.2.1, _, rfl, .inl (SqT.of (hw en hen)), _, rfl, ?_, fun q hq => ?_⟩
          · have := DGet.k (k := .inl (en.1 : Int)) hD
            rw [valE_at ndE hen] at this
            exact this
          · rw [List.length_append, List.length_map, sizeLine_eq]
            show _ + 1 ≤ _
            omega
          have kq : Same H' (upd H' q (.tup (en.2.2.map V.str ++ [.str ac.1]))) := same_new hq
          have qd : d ≠ q := ne_of_none hD hq
          have ql : l ≠ q := ne_of_none hL hq
          refine ⟨_, rfl, _, rfl, d, _, rfl, DPut.k (k := .inl (t : Int)) (kq _ _ hD) ?_, ?_⟩
          · show (E.map _).length < _
            rw [List.length_map, sizeLine_eq]
            omega
          rw [putK_new _ hv]
          have hL2 : (upd (upd H' q (.tup (en.2.2.map V.str ++ [.str ac.1]))) d (.dK (kvsE E ++ [(.inl (t : Int), .ref q)]))) l = some (.lst (E.map fun e => .int (e.1 : Nat))) := by
            rw [upd_ne dl.symm, upd_ne ql]
            exact hL
          refine ⟨_, rfl, .inl ⟨rfl, _, SqL.of hL2⟩, _, rfl, l, _, _, rfl, rfl, hL2, ?_, ?_⟩
          · rw [List.length_map, sizeLine_eq]
            omega
          have hd0 : H d = none := hd
          refine ⟨E ++ [(t, q, en.2.2 ++ [ac.1])], _, _, _, rfl, fun b o eb => ?_, ?_, ?_, fun e he => ?_, ?_⟩
          · rw [upd_ne (ne_of_none eb hl0), upd_ne (ne_of_none eb hd0)]
            exact kq _ _ (ks _ _ eb)
          · rw [upd_ne dl, upd_same]
            unfold kvsE
            rw [List.map_append]
            rfl
          · rw [upd_same, List.map_append]
            rfl
          · have hat : (upd H' q (.tup (en.2.2.map V.str ++ [.str ac.1]))) e.2.1 = some (.tup (e.2.2.map V.str)) := by
              rcases List.mem_append.mp he with he | he
              · exact kq _ _ (hw e he)
              · cases List.mem_singleton.mp he
                rw [upd_same, List.map_append]
                rfl
            have n1 : e.2.1 ≠ l := fun z => by
              rw [z, upd_ne ql, hL] at hat
              cases hat
            have n2 : e.2.1 ≠ d := fun z => by
              rw [z, upd_ne qd, hD] at hat
              cases hat
            rw [upd_ne n1, upd_ne n2]
            exact hat
          · have := bi.add AA hac htg hnot
            unfold fndE at this ⊢
            rw [List.map_append]
            exact this
    · rintro σ H' ⟨E, y6, y7, y8, rfl, ks, hD, hL, hw, bi⟩
      rw [hx.length, List.length_map] at bi
      refine ⟨⟨k + 1, E, _, _, _, _, rfl, ks, hD, hL, hw, bi.leave⟩, ?_⟩
      show n - (k + 1) < n - k
      omega
  · have hk : k = E.length := by
      have := bf.le
      have e' : ¬ ((k : Int) < ((E.map fun e => V.int (e.1 : Nat)).length : Int)) := fun h => e (decide_eq_true h)
      rw [List.length_map] at e'
      omega
    subst hk
    exact ⟨_, rfl, q H' d E ks hd hD hw bf⟩
end
end K02
set_option Elab.async false
set_option linter.all false
set_option maxRecDepth 100000
set_option maxHeartbeats 4000000
/-! k02: a store is made. -/
namespace K02
open PySem PySem.Spec PyProof.Rows L2 Zg Zr Zd Zv
/-! ### a store as it stands -/
def flds (n : Nat) (aA : Addr) (r : V) (dM lW : Addr) : List (PySem.Str × V) := putF "ways_by_state" (.ref lW) (putF "moves_by_name" (.ref dM) (putF "resting" r (putF "actions" (.ref aA) (putF "size" (.int (n : Nat)) []))))
section
variable {n : Nat} {aA : Addr} {r : V} {dM lW : Addr}
theorem flds_ways : (flds n aA r dM lW).lookup ("ways_by_state" : PySem.Str) = some (.ref lW) := by
  unfold flds
  rw [lookup_putF, if_pos rfl]
theorem flds_moves : (flds n aA r dM lW).lookup ("moves_by_name" : PySem.Str) = some (.ref dM) := by
  unfold flds
  rw [lookup_putF, if_neg (by decide +kernel), lookup_putF, if_pos rfl]
theorem flds_resting : (flds n aA r dM lW).lookup ("resting" : PySem.Str) = some r := by
  unfold flds
  rw [lookup_putF, if_neg (by decide +kernel), lookup_putF, if_neg (by decide +kernel), lookup_putF, if_pos rfl]
theorem flds_actions : (flds n aA r dM lW).lookup ("actions" : PySem.Str) = some (.ref aA) := by
  unfold flds
  rw [lookup_putF, if_neg (by decide +kernel), lookup_putF, if_neg (by decide +kernel), lookup_putF, if_neg (by decide +kernel), lookup_putF, if_pos rfl]
theorem flds_size : (flds n aA r dM lW).lookup ("size" : PySem.Str) = some (.int (n : Nat)) := by
  unfold flds
  rw [lookup_putF, if_neg (by decide +kernel), lookup_putF, if_neg (by decide +kernel), lookup_putF, if_neg (by decide +kernel), lookup_putF, if_neg (by decide +kernel), lookup_putF, if_pos rfl]
theorem flds_none {f : PySem.Str} (h : f ∉ (["ways_by_state", "moves_by_name", "resting", "actions", "size"] : List PySem.Str)) : (flds n aA r dM lW).lookup f = none := by
  simp only [List.mem_cons, List.not_mem_nil, or_false, not_or] at h
  unfold flds
  rw [lookup_putF, if_neg h.1, lookup_putF, if_neg h.2.1, lookup_putF, if_neg h.2.2.1, lookup_putF, if_neg h.2.2.2.1, lookup_putF, if_neg h.2.2.2.2]
  rfl
end
theorem len_putF (f : PySem.Str) (v : V) : ∀ fs : List (PySem.Str × V), (putF f v fs).length ≤ fs.length + 1
  | [] => Nat.le_refl _
  | (g, x) :: r => by
    unfold putF
    split
    · exact Nat.le_succ _
    · exact Nat.succ_le_succ (len_putF f v r)
/-- a store of n states with these actions stands at p -/
structure StAt (C : Addr) (H : Hp) (S : List Addr) (p : Addr) (n : Nat) (acts : List Act) (r : V) : Prop where
  ex : ∃ (dx aA : Addr) (o : Obj) (ps : List Addr) (dM lW : Addr) (kvs : List (Key × V)) (ds : List Addr), H p = some (.ins C dx (flds n aA r dM lW)) ∧ H aA = some (.frz o (.tup (ps.map V.ref))) ∧ DvAll S H (ps.map V.ref) (acts.map actD) ∧
    (H dM = some (.dK kvs) ∧ kvs.map (·.1) = acts.map fun a => (.inr a.1 : Key)) ∧ (∀ a ∈ acts, ∃ m, valV kvs (.inr a.1) = some (.ref m) ∧ H m = some (.tup (a.2.map mvV))) ∧
    H lW = some (.lst (ds.map V.ref)) ∧ ds.length = n ∧ ∀ one d, ds[one]? = some d → ∃ E, H d = some (.dK (kvsE E)) ∧ WaysAt H E ∧ Bf acts n one E.length (fndE E)
theorem StAt.same {C : Addr} {H H' : Hp} {S : List Addr} {p : Addr} {n : Nat} {acts : List Act} {r : V} (h : StAt C H S p n acts r) (k : Same H H') : StAt C H' S p n acts r := by
  obtain ⟨dx, aA, o, ps, dM, lW, kvs, ds, h1, h2, h3, h4, h5, h6, h7, h8⟩ := h.ex
  refine ⟨dx, aA, o, ps, dM, lW, kvs, ds, k _ _ h1, k _ _ h2, h3.kp (Kp.of k), ⟨k _ _ h4.1, h4.2⟩, fun a ha => ?_, k _ _ h6, h7, fun one d hd => ?_⟩
  · obtain ⟨m, e1, e2⟩ := h5 a ha
    exact ⟨m, e1, k _ _ e2⟩
  · obtain ⟨E, e1, e2, e3⟩ := h8 one d hd
    exact ⟨E, k _ _ e1, e2.same k, e3⟩
/-! ### which action stands at an address -/
def nameAt (H : Hp) (x : Addr) : PySem.Str := match H x with
  | some (.tup [.str z, _]) => z
  | _ => ""
def mAt (H : Hp) (x : Addr) : Addr := match H x with
  | some (.tup [_, .ref m]) => m
  | _ => x
def mvN : V → Option Nat
  | .int k => some k.toNat
  | _ => none
def movAt (H : Hp) (m : Addr) : List (Option Nat) := match H m with
  | some (.tup vs) => vs.map mvN
  | _ => []
def actAt (H : Hp) (x : Addr) : Act := (nameAt H x, movAt H (mAt H x))
theorem mvN_mvV (m : Option Nat) : mvN (mvV m) = m := by
  cases m with
  | none => rfl
  | some k => show some (Int.toNat (k : Int)) = _; rw [Int.toNat_natCast]
/-- an action at x -/
structure ActAt (S : List Addr) (H : Hp) (x : Addr) (a : Act) : Prop where
  pr : H x = some (.tup [.str a.1, .ref (mAt H x)])
  mo : H (mAt H x) = some (.tup (a.2.map mvV))
  dv : Dv S H (.ref x) (actD a)
  eq : actAt H x = a
theorem ActAt.of {S : List Addr} {H : Hp} {x : Addr} {a : Act} (h : Dv S H (.ref x) (actD a)) : ActAt S H x a := by
  obtain ⟨p, m, e, hp, _, hm⟩ := act_at h
  cases e
  have e1 : mAt H x = m := by unfold mAt; rw [hp]
  have hmm := moves_at hm
  have e2 : nameAt H x = a.1 := by unfold nameAt; rw [hp]
  refine ⟨by rw [e1]; exact hp, by rw [e1]; exact hmm, h, ?_⟩
  unfold actAt movAt
  rw [e1, e2, hmm]
  show (a.1, (a.2.map mvV).map mvN) = a
  rw [List.map_map, show (mvN ∘ mvV) = id from funext mvN_mvV, List.map_id]
theorem ActAt.of' {S : List Addr} {H : Hp} {x : Addr} {a : Act} (h : ActAt S H x a) : ActAt S H x (actAt H x) := by rw [h.eq]; exact h
/-- the addresses of actions -/
theorem refs_of {S : List Addr} {H : Hp} : ∀ {xs : List V} {acts : List Act}, DvAll S H xs (acts.map actD) → ∃ ps : List Addr, xs = ps.map V.ref ∧ acts = ps.map (actAt H) ∧ ∀ x ∈ ps, ActAt S H x (actAt H x)
  | _, [], .nil => ⟨[], rfl, rfl, fun _ h => nomatch h⟩
  | _, a :: acts, .cons h t => by
    obtain ⟨ps, e1, e2, e3⟩ := refs_of t
    obtain ⟨p, m, e, _⟩ := act_at h
    subst e
    have aa := ActAt.of h
    refine ⟨p :: ps, by rw [e1]; rfl, by rw [List.map_cons, aa.eq, ← e2], fun x hx => ?_⟩
    rcases List.mem_cons.mp hx with rfl | hx
    · exact aa.of'
    · exact e3 x hx
theorem dvs_of {S : List Addr} {H : Hp} : ∀ {ps : List Addr}, (∀ x ∈ ps, ActAt S H x (actAt H x)) → DvAll S H (ps.map V.ref) ((ps.map (actAt H)).map actD)
  | [], _ => .nil
  | p :: ps, h => .cons (h p List.mem_cons_self).dv (dvs_of fun x hx => h x (List.mem_cons_of_mem _ hx))
theorem ActAt.kp {S : List Addr} {H H' : Hp} {x : Addr} {a : Act} (h : ActAt S H x a) (k : Kp S H H') : ActAt S H' x a := ActAt.of (h.dv.kp k)
theorem merge_new : ∀ (kvs acc : List (Key × V)), ((acc ++ kvs).map (·.1)).Nodup → mergeK acc kvs = acc ++ kvs
  | [], acc, _ => by rw [List.append_nil]; rfl
  | kv :: kvs, acc, h => by
    have hn : valV acc kv.1 = none := by
      cases e : valV acc kv.1 with
      | none => rfl
      | some v =>
        have := valV_in e
        rw [List.map_append, List.map_cons] at h
        exact absurd rfl ((List.nodup_append.mp h).2.2 _ this _ List.mem_cons_self)
    show mergeK (putK acc kv.1 kv.2) kvs = _
    rw [putK_new _ hn, merge_new kvs _ (by rw [List.append_assoc]; exact h), List.append_assoc]
    rfl
theorem val_nodup {kvs : List (Key × V)} (h : (kvs.map (·.1)).Nodup) {kv : Key × V} (hm : kv ∈ kvs) : valV kvs kv.1 = some kv.2 := by
  induction kvs with
  | nil => cases hm
  | cons x kvs ih =>
    rw [List.map_cons, List.nodup_cons] at h
    rcases List.mem_cons.mp hm with rfl | hm
    · exact valV_pos rfl
    · rw [valV_neg (fun e => h.1 (e ▸ List.mem_map.mpr ⟨kv, hm, rfl⟩))]
      exact ih h.2 hm
theorem paired_map {α β : Type} {R : α → β → Prop} (f : α → β) : ∀ {l : List α}, (∀ x ∈ l, R x (f x)) → Paired R l (l.map f)
  | [], _ => .nil
  | x :: l, h => .cons (h x List.mem_cons_self) (paired_map f fun y hy => h y (List.mem_cons_of_mem _ hy))
end K02
set_option Elab.async false
set_option linter.all false
set_option maxRecDepth 100000
set_option maxHeartbeats 4000000
/-! k02: Store.__init__. -/
namespace K02
open PySem PySem.Spec PyProof.Rows L2 Zg Zr Zd Zv
theorem Acts.perm {n : Nat} {acts acts' : List Act} (A : Acts n acts) (h : acts'.Perm acts) : Acts n acts' :=
  ⟨fun a ha => A.nm a (h.mem_iff.mp ha), fun a ha => A.ln a (h.mem_iff.mp ha), fun a ha => A.mv a (h.mem_iff.mp ha), (h.map _).nodup_iff.mpr A.nd, by rw [h.length_eq]; exact A.few, A.sz⟩
theorem dvs_eq {S : List Addr} {H : Hp} {f : Addr → Act} : ∀ {ps : List Addr}, (∀ x ∈ ps, Dv S H (.ref x) (actD (f x))) → DvAll S H (ps.map V.ref) ((ps.map f).map actD)
  | [], _ => .nil
  | p :: ps, h => .cons (h p List.mem_cons_self) (dvs_eq fun x hx => h x (List.mem_cons_of_mem _ hx))
section
variable {P : Program} {w : World} {K : PySem.W.Frag} {mg : PySem.Str → Option Value} {base : Heap}
/-- by their names -/
abbrev Asc (acts : List Act) : Prop := acts.Pairwise fun x y => ¬ y.1.cps.toList < x.1.cps.toList
theorem cxUpN {P : Program} {w : World} : StX.CXUp (L2N.CX P w) := by
  rintro outer s H s2 H2 E e s' un kp ho ⟨a, B, H', cls, d, ea, fl, hok, ub, na, os, ag, he⟩
  refine ⟨a, B, H', cls, d, ea, fl, hok, ⟨fun b o q n hb => ub.keep b o (kp b o q) (un.free b o q n (by simp)) hb, fun b o q hb => ub.slot b o (kp b o q) hb, fun b o q n => ub.free b o (kp b o q) (un.free b o q n (by simp)),
    fun b o q hb => ub.there b o (kp b o q) hb, fun b xs q => ub.tups b xs (un.tups b xs q), fun b o xs q => ub.frzs b o xs (un.frzs b o xs q), fun b ps q => ?_⟩, na, os.trans ho, ag, he⟩
  obtain ⟨m1, e1⟩ := un.tbls b ps q
  obtain ⟨m2, e2⟩ := ub.tbls b _ e1
  exact ⟨m1 ++ m2, by rw [e2, Array.append_assoc]⟩
/-! ### no fault: actions -/
theorem badRow_none {n : Int} : ∀ {ds : List PyData} {ns : List PySem.Str}, badRow n ns ds = none → (∀ d ∈ ds, isAct n d = true) ∧ (ds.map nmOf).Nodup ∧ ∀ x ∈ ds.map nmOf, x ∉ ns
  | [], ns, _ => ⟨(fun d h => nomatch h), List.nodup_nil, fun x h => nomatch h⟩
  | d :: ds, ns, h => by
    rw [badRow_cons] at h
    split at h
    · rename_i hd
      obtain ⟨h1, h2, h3⟩ := badRow_none h
      refine ⟨fun x hx => ?_, ?_, fun x hx => ?_⟩
      · rcases List.mem_cons.mp hx with rfl | hx
        · exact hd.1
        · exact h1 x hx
      · rw [List.map_cons, List.nodup_cons]
        exact ⟨fun m => h3 _ m (List.mem_append_right _ List.mem_cons_self), h2⟩
      · rw [List.map_cons] at hx
        rcases List.mem_cons.mp hx with rfl | hx
        · exact hd.2
        · exact fun m => h3 x hx (List.mem_append_left _ m)
    · cases h
def mvOf : PyData → Option Nat
  | .int i => some i.toNat
  | _ => none
def toAct : PyData → Act
  | .tuple [.str x, .tuple ms] => (x, ms.map mvOf)
  | _ => ("", [])
theorem mv_of {n : Nat} {d : PyData} (h : isMv n d = true) : mvD (mvOf d) = d ∧ ∀ k, mvOf d = some k → k < n := by
  cases d with
  | none => exact ⟨rfl, fun k e => nomatch e⟩
  | int i =>
    have h' : (decide ((0 : Int) ≤ i) && decide (i < (n : Int))) = true := h
    rw [Bool.and_eq_true, decide_eq_true_iff, decide_eq_true_iff] at h'
    refine ⟨?_, fun k e => ?_⟩
    · show PyData.int ((i.toNat : Nat) : Int) = .int i
      rw [Int.toNat_of_nonneg h'.1]
    · have : i.toNat = k := Option.some.inj e
      omega
  | _ => cases h
theorem act_of {n : Nat} {d : PyData} (h : isAct n d = true) : d = actD (toAct d) ∧ isName (.str (toAct d).1) = true ∧ (toAct d).2.length = n ∧ (∀ m ∈ (toAct d).2, ∀ k, m = some k → k < n) ∧ (toAct d).1 = nmOf d := by
  obtain ⟨x, ms, rfl, hx⟩ := isAct_shape h
  have h' : (isName (.str x) && decide ((ms.length : Int) = (n : Int)) && ms.all (isMv n)) = true := h
  rw [Bool.and_eq_true, Bool.and_eq_true, decide_eq_true_iff, List.all_eq_true] at h'
  obtain ⟨⟨h1, h2⟩, h3⟩ := h'
  refine ⟨?_, h1, ?_, fun m hm k e => ?_, rfl⟩
  · show PyData.tuple [.str x, .tuple ms] = .tuple [.str x, .tuple ((ms.map mvOf).map mvD)]
    congr 3
    rw [List.map_map]
    have : ms.map (mvD ∘ mvOf) = ms.map id := List.map_congr_left fun d hd => (mv_of (h3 d hd)).1
    rw [this, List.map_id]
  · show (ms.map mvOf).length = n
    rw [List.length_map]
    omega
  · obtain ⟨d, hd, rfl⟩ := List.mem_map.mp (show m ∈ ms.map mvOf from hm)
    exact (mv_of (h3 d hd)).2 k e
theorem chk_none {sd rd : PyData} {ds : List PyData} (h20 : ds.length ≤ 20) (h : chk sd ds rd = none) : ∃ (n : Nat) (acts : List Act), sd = .int (n : Nat) ∧ 1 ≤ n ∧ ds = acts.map actD ∧ Acts n acts ∧ areStates n rd = true := by
  cases sd with
  | int m =>
    rw [chk_int] at h
    split at h
    · rename_i hz
      have hz' : (decide ((1 : Int) ≤ m) && decide (m ≤ 3)) = true := hz
      rw [Bool.and_eq_true, decide_eq_true_iff, decide_eq_true_iff] at hz'
      obtain ⟨n, rfl⟩ := Int.eq_ofNat_of_zero_le (by omega : 0 ≤ m)
      split at h
      · cases h
      · rename_i hb
        split at h
        · rename_i hs
          obtain ⟨h1, h2, h3⟩ := badRow_none hb
          refine ⟨n, ds.map toAct, rfl, by omega, ?_, ⟨fun a ha => ?_, fun a ha => ?_, fun a ha => ?_, ?_, by rw [List.length_map]; exact h20, by omega⟩, hs⟩
          · rw [List.map_map]
            have : ds.map (actD ∘ toAct) = ds.map id := List.map_congr_left fun d hd => ((act_of (h1 d hd)).1).symm
            rw [this, List.map_id]
          · obtain ⟨d, hd, rfl⟩ := List.mem_map.mp ha
            exact (act_of (h1 d hd)).2.1
          · obtain ⟨d, hd, rfl⟩ := List.mem_map.mp ha
            exact (act_of (h1 d hd)).2.2.1
          · obtain ⟨d, hd, rfl⟩ := List.mem_map.mp ha
            exact (act_of (h1 d hd)).2.2.2.1
          · rw [List.map_map]
            have : ds.map ((fun a : Act => a.1) ∘ toAct) = ds.map nmOf := List.map_congr_left fun d hd => (act_of (h1 d hd)).2.2.2.2
            rw [this]
            exact h2
        · cases h
    · cases h
  | _ => cases h
def sp_init (T : Txt K mg) : List V → Sp := fun zs vs H Q E => ∃ (p dx : Addr) (S : List Addr) (sv : V) (sd : PyData) (rest : List V) (ds : List PyData) (r : V) (rd : PyData), zs = [r] ∧ vs = .ref p :: sv :: rest ∧ p ∈ S ∧ H p = some (.ins T.C_Store dx []) ∧
  Dv S H sv sd ∧ Zv.okv sd = true ∧ DvAll S H rest ds ∧ okvAll ds = true ∧ ds.length ≤ 20 ∧ Rv K S H r rd ∧ Zv.okv rd = true ∧
  match chk sd ds rd with
    | none => ∀ (n : Nat) (acts : List Act), sd = .int (n : Nat) → ds = acts.map actD → Acts n acts → ∀ (H' : Hp) (acts' : List Act), Kp [p] H H' → acts'.Perm acts → Asc acts' → StAt T.C_Store H' S p n acts' r → Q .non H'
    | some f => Bad T S H E f
theorem init_body (T : Txt K mg) (cdv : Value) (A : Around) (outer : List Env) (s : Shared) (H : Hp) (vs rest zs : List V) (Q : VK) (E : XK) (hr : Room 5 (A.deeper (envOfC "Store.__init__" (defScope s_Store_init) s.heap.objs.size T.a_Store_init cdv))) (hl : vs.length = 2) (h : sp_init T zs (vs ++ rest) H Q E) (pt : Addr) (hpt : H pt = none) :
    ∃ t, PSs (cxOf (L2N.CX P w) P w K mg base N_Store_init "Store.__init__" (defScope s_Store_init) T.a_Store_init cdv A outer s (upd H pt (.tup rest)) E) (defBody s_Store_init) t ∧ t { nx := fun _ H' => Q .non H', rt := Q } (start N_Store_init (vs ++ zs ++ [V.ref pt])) (upd H pt (.tup rest)) := by
  refine ⟨_, (pss_cons (ps_expr (pe_call (ok_check_store T) (hr.mono (by decide)) (by rfl) T.g_check_store T.F_check_store.kp T.b_check_store .nil (L2N.passes_call (L2N.takes_of rfl rfl rfl rfl) (fun _ _ _ _ h => h)) (pa_cons (pv 1) (pa_cons (pv 3) (pa_cons (pv 2) pa_nil)))))
    (pss_cons (ps_fld (pv 0) (pv 1) rfl)
    (pss_cons (ps_fld (pv 0) (pe_callTy Sp.call_tupleF (by rfl) T.n_tuple (by decide +kernel) (pa_cons (pe_callB Sp.cr_sortedTS (by rfl) T.n_sorted (by decide +kernel) (pa_cons (pv 3) pa_nil)) pa_nil)) rfl)
    (pss_cons (ps_fld (pv 0) (pv 2) rfl)
    (pss_cons (ps_fld (pv 0) (pe_callTy (Sp.call_dictPT (by rfl)) (by rfl) T.n_dict (by decide +kernel) (pa_cons (pe_fld (pv 0) rfl) pa_nil)) rfl)
    (pss_one (ps_fld (pv 0) (pe_lc (own := [("state", 4)]) rfl sc_Store_init.nd (pi_range1 (by rfl) T.n_range (pa_cons (pv 1) pa_nil)) (blkOk_by (own := [("state", 4)]) (N := N_Store_init) (sc := defScope s_Store_init) (by decide +kernel)) (fun _ _ _ _ _ => (pg_name (i := 4) sc_Store_init.nd rfl (Or.inl rfl))) (fun _ _ _ _ _ => pts_nil) (fun _ _ _ _ _ => (pe_call (ok_ways_from T) (hr.mono (by omega)) (by rfl) T.g_ways_from T.F_ways_from.kp T.b_ways_from .nil pass0 (pa_cons (show PE _ _ (tFld K (tVar 0) _) from (pe_fld (pv 0) rfl)) (pa_cons (pv 4) pa_nil))))) rfl))))))), ?_⟩
  obtain ⟨p, dx, S, sv, sd, rest', ds, r, rd, rfl, ev, hpS, hp, hsv, osv, hx, ox, h20, hrd, hok, q⟩ := h
  obtain ⟨rfl, rfl⟩ : vs = [.ref p, sv] ∧ rest = rest' := by
    match vs, hl with
    | [a, b], _ =>
      injection ev with e1 ev
      injection ev with e2 ev
      exact ⟨by rw [e1, e2], ev⟩
  have k0 : Kp [p] H (upd H pt (.tup rest)) := Kp.new hpt
  have s0 : Same H (upd H pt (.tup rest)) := same_new hpt
  have ppt : p ≠ pt := ne_of_none hp hpt
  have hp0 : (upd H pt (.tup rest)) p = some (.ins T.C_Store dx []) := by rw [upd_ne ppt]; exact hp
  have ht0 : (upd H pt (.tup rest)) pt = some (.tup rest) := upd_same
  generalize upd H pt (.tup rest) = H0 at k0 s0 hp0 ht0 ⊢
  have sub : ∀ a ∈ [p], a ∈ S := fun a ha => by cases List.mem_singleton.mp ha; exact hpS
  have kS : ∀ {Ha Hb : Hp}, Kp [p] Ha Hb → Kp S Ha Hb := fun k => k.sub sub
  refine ⟨_, rfl, _, rfl, _, rfl, S, sv, r, sd, rd, pt, rest, ds, rfl, hsv.kp (kS k0), osv, ht0, hx.kp (kS k0), ox, h20, hrd.kp (kS k0), hok, ?_⟩
  cases hc : chk sd ds rd with
  | some f =>
    rw [hc] at q
    exact fun d H' v k h1 h2 => q d H' v (s0.trans k) h1 h2
  | none =>
    rw [hc] at q
    obtain ⟨n, acts, rfl, hn1, rfl, AA, hst⟩ := chk_none h20 hc
    have q := q n acts rfl rfl AA
    cases hsv
    refine fun H1 k1 => ?_
    have hp1 := k1 _ _ hp0
    have ht1 := k1 _ _ ht0
    have K1 : Kp [p] H H1 := k0.trans (Kp.of k1)
    have hx1 := hx.kp (kS K1)
    obtain ⟨ps, rfl, eacts, hact⟩ := refs_of hx1
    -- self.size = size
    refine ⟨_, rfl, _, rfl, p, T.C_Store, dx, _, rfl, hp1, T.cl_Store, T.no_Store_size, (by show 0 < 1000; decide), ?_⟩
    have K2 : Kp [p] H (upd H1 p (.ins T.C_Store dx (putF "size" (.int (n : Nat)) []))) := K1.wr (.inl List.mem_cons_self)
    have k12 : Kp [p] H1 (upd H1 p (.ins T.C_Store dx (putF "size" (.int (n : Nat)) []))) := (Kp.refl _ _).wr (.inl List.mem_cons_self)
    have hp2 : (upd H1 p (.ins T.C_Store dx (putF "size" (.int (n : Nat)) []))) p = some (.ins T.C_Store dx (putF "size" (.int (n : Nat)) [])) := upd_same
    generalize upd H1 p (.ins T.C_Store dx (putF "size" (.int (n : Nat)) [])) = H2 at K2 k12 hp2 ⊢
    have hact2 : ∀ x ∈ ps, ActAt S H2 x (actAt H1 x) := fun x hx => (hact x hx).kp (kS k12)
    have hact2' : ∀ x ∈ ps, actAt H2 x = actAt H1 x := fun x hx => (hact2 x hx).eq
    have ptp : pt ∉ [p] := fun h => ppt (List.mem_singleton.mp h).symm
    have ht2 := k12 _ _ ptp ht1
    -- self.actions = tuple(sorted(actions))
    have inj : ∀ x ∈ ps, ∀ y ∈ ps, nameAt H2 x = nameAt H2 y → x = y := fun x hx y hy e => by
      have nd := AA.nd
      rw [eacts, List.map_map] at nd
      obtain ⟨i, hi⟩ := List.getElem?_of_mem hx
      obtain ⟨j, hj⟩ := List.getElem?_of_mem hy
      have ex : (actAt H1 x).1 = nameAt H2 x := by rw [← hact2' x hx]; rfl
      have ey : (actAt H1 y).1 = nameAt H2 y := by rw [← hact2' y hy]; rfl
      have e1 : (ps.map ((fun a : Act => a.1) ∘ actAt H1))[i]? = some (nameAt H2 x) := by rw [List.getElem?_map, hi]; exact congrArg some ex
      have e2 : (ps.map ((fun a : Act => a.1) ∘ actAt H1))[j]? = some (nameAt H2 y) := by rw [List.getElem?_map, hj]; exact congrArg some ey
      rw [e, ← e2] at e1
      have := (List.getElem?_inj (by rw [List.length_map]; exact (List.getElem?_eq_some_iff.mp hi).1) nd).mp e1
      subst this
      rw [hi] at hj
      cases hj
      rfl
    refine ⟨_, rfl, pt, ps, nameAt H2, rfl, SqT.of ht2, fun x hx => ⟨.ref (mAt H2 x), SqT.of ?_⟩, inj, fun ys qa perm asc hqa => ?_⟩
    · have h := (hact2 x hx).pr
      rw [← hact2' x hx] at h
      exact h
    refine ⟨qa, _, rfl, SqL.of upd_same, fun aA o haA ho => ?_⟩
    have K3 : Kp [p] H2 (upd (upd H2 qa (.lst (ys.map V.ref))) aA (.frz o (.tup (ys.map V.ref)))) := (Kp.new hqa).trans (Kp.new haA)
    have hA3 : (upd (upd H2 qa (.lst (ys.map V.ref))) aA (.frz o (.tup (ys.map V.ref)))) aA = some (.frz o (.tup (ys.map V.ref))) := upd_same
    have hp3 : (upd (upd H2 qa (.lst (ys.map V.ref))) aA (.frz o (.tup (ys.map V.ref)))) p = some (.ins T.C_Store dx (putF "size" (.int (n : Nat)) [])) := same_new haA _ _ (same_new hqa _ _ hp2)
    generalize upd (upd H2 qa (.lst (ys.map V.ref))) aA (.frz o (.tup (ys.map V.ref))) = H3 at K3 hA3 hp3 ⊢
    refine ⟨_, rfl, p, T.C_Store, dx, _, rfl, hp3, T.cl_Store, T.no_Store_actions, ?_, ?_⟩
    · exact Nat.lt_of_le_of_lt (length_putF _ _ _) (by decide)
    have pA : aA ≠ p := (ne_of hp3 hA3 (by intro z; cases z)).symm
    have K4 : Kp [p] H2 (upd H3 p (.ins T.C_Store dx (putF "actions" (.ref aA) (putF "size" (.int (n : Nat)) [])))) := K3.wr (.inl List.mem_cons_self)
    have hp4 : (upd H3 p (.ins T.C_Store dx (putF "actions" (.ref aA) (putF "size" (.int (n : Nat)) [])))) p = some (.ins T.C_Store dx (putF "actions" (.ref aA) (putF "size" (.int (n : Nat)) []))) := upd_same
    have hA4 : (upd H3 p (.ins T.C_Store dx (putF "actions" (.ref aA) (putF "size" (.int (n : Nat)) [])))) aA = some (.frz o (.tup (ys.map V.ref))) := by rw [upd_ne pA]; exact hA3
    generalize upd H3 p (.ins T.C_Store dx (putF "actions" (.ref aA) (putF "size" (.int (n : Nat)) []))) = H4 at K4 hp4 hA4 ⊢
    -- self.resting = resting
    refine ⟨_, rfl, _, rfl, p, T.C_Store, dx, _, rfl, hp4, T.cl_Store, T.no_Store_resting, ?_, ?_⟩
    · exact Nat.lt_of_le_of_lt (Nat.le_trans (length_putF _ _ _) (Nat.succ_le_succ (length_putF _ _ _))) (by decide)
    have K5 : Kp [p] H2 (upd H4 p (.ins T.C_Store dx (putF "resting" r (putF "actions" (.ref aA) (putF "size" (.int (n : Nat)) []))))) := K4.wr (.inl List.mem_cons_self)
    have hp5 : (upd H4 p (.ins T.C_Store dx (putF "resting" r (putF "actions" (.ref aA) (putF "size" (.int (n : Nat)) []))))) p = some (.ins T.C_Store dx (putF "resting" r (putF "actions" (.ref aA) (putF "size" (.int (n : Nat)) [])))) := upd_same
    have hA5 : (upd H4 p (.ins T.C_Store dx (putF "resting" r (putF "actions" (.ref aA) (putF "size" (.int (n : Nat)) []))))) aA = some (.frz o (.tup (ys.map V.ref))) := by rw [upd_ne pA]; exact hA4
    generalize upd H4 p (.ins T.C_Store dx (putF "resting" r (putF "actions" (.ref aA) (putF "size" (.int (n : Nat)) [])))) = H5 at K5 hp5 hA5 ⊢
    -- self.moves_by_name = dict(self.actions)
    have hmem : ∀ x ∈ ys, x ∈ ps := fun x hx => perm.mem_iff.mp hx
    have hact5 : ∀ x ∈ ys, ActAt S H5 x (actAt H1 x) := fun x hx => (hact2 x (hmem x hx)).kp (kS K5)
    have la : (putF "resting" r (putF "actions" (.ref aA) (putF "size" (.int (n : Nat)) []))).lookup ("actions" : PySem.Str) = some (.ref aA) := by
      rw [lookup_putF, if_neg (by decide +kernel), lookup_putF, if_pos rfl]
    refine ⟨_, rfl, p, T.C_Store, dx, _, _, rfl, hp5, T.cl_Store, T.no_Store_actions, la, ?_⟩
    refine ⟨aA, o, ys, ys.map fun x => ((.inr (actAt H1 x).1 : Key), V.ref (mAt H5 x)), rfl, hA5, ho, paired_map _ fun x hx => SqT.of (hact5 x hx).pr, fun dM hdM => ?_⟩
    have ndk : ((ys.map fun x => ((.inr (actAt H1 x).1 : Key), V.ref (mAt H5 x))).map (·.1)).Nodup := by
      rw [List.map_map]
      have nd := (perm.map (actAt H1)).map (fun a : Act => a.1)
      have nd2 := AA.nd
      rw [eacts] at nd2
      have nd3 := nd.nodup_iff.mpr nd2
      rw [List.map_map] at nd3
      have nd4 := List.Pairwise.map (R := (· ≠ ·)) (S := (· ≠ ·)) (fun z : PySem.Str => (Sum.inr z : Key)) (fun a b h e => h (by injection e)) nd3
      rw [List.map_map] at nd4
      exact nd4
    have mg0 : mergeK [] (ys.map fun x => ((.inr (actAt H1 x).1 : Key), V.ref (mAt H5 x))) = ys.map fun x => ((.inr (actAt H1 x).1 : Key), V.ref (mAt H5 x)) := by
      rw [merge_new _ _ (by rw [List.nil_append]; exact ndk), List.nil_append]
    rw [mg0]
    generalize hkv : (ys.map fun x => ((.inr (actAt H1 x).1 : Key), V.ref (mAt H5 x))) = kvs at ndk
    have hdk : ∀ a ∈ ys.map (actAt H1), ∃ m, valV kvs (.inr a.1) = some (.ref m) ∧ H5 m = some (.tup (a.2.map mvV)) := fun a ha => by
      obtain ⟨x, hx, rfl⟩ := List.mem_map.mp ha
      refine ⟨mAt H5 x, ?_, (hact5 x hx).mo⟩
      exact val_nodup (kv := ((.inr (actAt H1 x).1 : Key), V.ref (mAt H5 x))) ndk (by rw [← hkv]; exact List.mem_map.mpr ⟨x, hx, rfl⟩)
    have k6 : Same H5 (upd H5 dM (.dK kvs)) := same_new hdM
    have hp6 := k6 _ _ hp5
    have hA6 := k6 _ _ hA5
    have hM6 : (upd H5 dM (.dK kvs)) dM = some (.dK kvs) := upd_same
    generalize upd H5 dM (.dK kvs) = H6 at k6 hp6 hA6 hM6 ⊢
    refine ⟨_, rfl, p, T.C_Store, dx, _, rfl, hp6, T.cl_Store, T.no_Store_moves_by_name, ?_, ?_⟩
    · exact Nat.lt_of_le_of_lt (Nat.le_trans (length_putF _ _ _) (Nat.succ_le_succ (Nat.le_trans (length_putF _ _ _) (Nat.succ_le_succ (length_putF _ _ _))))) (by decide)
    have pM : dM ≠ p := (ne_of hp6 hM6 (by intro z; cases z)).symm
    have K7 : Kp [p] H5 (upd H6 p (.ins T.C_Store dx (putF "moves_by_name" (.ref dM) (putF "resting" r (putF "actions" (.ref aA) (putF "size" (.int (n : Nat)) [])))))) := (Kp.of k6).wr (.inl List.mem_cons_self)
    have hp7 : (upd H6 p (.ins T.C_Store dx (putF "moves_by_name" (.ref dM) (putF "resting" r (putF "actions" (.ref aA) (putF "size" (.int (n : Nat)) [])))))) p = some (.ins T.C_Store dx (putF "moves_by_name" (.ref dM) (putF "resting" r (putF "actions" (.ref aA) (putF "size" (.int (n : Nat)) []))))) := upd_same
    have hA7 : (upd H6 p (.ins T.C_Store dx (putF "moves_by_name" (.ref dM) (putF "resting" r (putF "actions" (.ref aA) (putF "size" (.int (n : Nat)) [])))))) aA = some (.frz o (.tup (ys.map V.ref))) := by rw [upd_ne pA]; exact hA6
    have hM7 : (upd H6 p (.ins T.C_Store dx (putF "moves_by_name" (.ref dM) (putF "resting" r (putF "actions" (.ref aA) (putF "size" (.int (n : Nat)) [])))))) dM = some (.dK kvs) := by rw [upd_ne pM]; exact hM6
    generalize upd H6 p (.ins T.C_Store dx (putF "moves_by_name" (.ref dM) (putF "resting" r (putF "actions" (.ref aA) (putF "size" (.int (n : Nat)) []))))) = H7 at K7 hp7 hA7 hM7 ⊢
    -- self.ways_by_state = [ways_from(self.actions, state) for state in range(size)]
    have aperm : (ys.map (actAt H1)).Perm acts := by rw [eacts]; exact perm.map _
    have AA' := AA.perm aperm
    have n3 := AA.sz
    have hx7 : DvAll S H7 (ys.map V.ref) ((ys.map (actAt H1)).map actD) := dvs_eq fun x hx => ((hact5 x hx).kp (kS K7)).dv
    have la7 : (putF "moves_by_name" (.ref dM) (putF "resting" r (putF "actions" (.ref aA) (putF "size" (.int (n : Nat)) [])))).lookup ("actions" : PySem.Str) = some (.ref aA) := by
      rw [lookup_putF, if_neg (by decide +kernel)]
      exact la
    refine ⟨_, rfl, (n : Nat), rfl, by omega, by omega, fun D hD => ?_⟩
    have s7 : Same H7 (upd H7 D (.lst [])) := same_new hD
    refine lc_range (lo := 0) (n := ((n : Nat) : Int).toNat) (fun i H' => ∃ ds : List Addr, ds.length = i ∧ Same H7 H' ∧ H' D = some (.lst (ds.map V.ref)) ∧ ∀ one d, ds[one]? = some d → ∃ E, H' d = some (.dK (kvsE E)) ∧ WaysAt H' E ∧ Bf (ys.map (actAt H1)) n one E.length (fndE E)) ⟨[], rfl, s7, upd_same, fun one d h => by cases h⟩ ?_ ?_
    · rintro i H' hi ⟨ds, hdl, k, hDl, hds⟩
      rw [Int.toNat_natCast] at hi
      refine ⟨rfl, ?_⟩
      refine ⟨_, rfl, p, T.C_Store, dx, _, _, rfl, k _ _ hp7, T.cl_Store, T.no_Store_actions, la7, _, rfl, n, i, S, aA, _, _, by rw [Int.zero_add]; rfl, .inl (.inr ⟨o, k _ _ hA7⟩), hx7.kp (Kp.of k), AA', hi, fun H'' d E s2 hd0 hdE hwE bf => ?_⟩
      have hD2 := s2 _ _ hDl
      refine ⟨_, hD2, by rw [List.length_map, sizeLine_eq]; omega, ds ++ [d], by rw [List.length_append, hdl]; rfl, fun b o' eb => ?_, by rw [upd_same, List.map_append]; rfl, fun one d' h => ?_⟩
      · rw [upd_ne (ne_of_none eb hD)]
        exact s2 _ _ (k _ _ eb)
      · have go : ∀ E', H'' d' = some (.dK (kvsE E')) → WaysAt H'' E' → (upd H'' D (.lst (ds.map V.ref ++ [.ref d]))) d' = some (.dK (kvsE E')) ∧ WaysAt (upd H'' D (.lst (ds.map V.ref ++ [.ref d]))) E' := fun E' h1 h2 => by
          refine ⟨?_, fun e he => ?_⟩
          · rw [upd_ne (ne_of h1 hD2 (by intro z; cases z))]
            exact h1
          · rw [upd_ne (ne_of (h2 e he) hD2 (by intro z; cases z))]
            exact h2 e he
        by_cases ho : one < ds.length
        · rw [List.getElem?_append_left ho] at h
          obtain ⟨E', e1, e2, e3⟩ := hds one d' h
          obtain ⟨g1, g2⟩ := go E' (s2 _ _ e1) (e2.same s2)
          exact ⟨E', g1, g2, e3⟩
        · rw [List.getElem?_append_right (by omega)] at h
          have h0 : one - ds.length = 0 := by
            have := (List.getElem?_eq_some_iff.mp h).1
            rw [List.length_singleton] at this
            omega
          rw [h0] at h
          cases h
          obtain rfl : one = i := by omega
          obtain ⟨g1, g2⟩ := go E hdE hwE
          exact ⟨E, g1, g2, bf⟩
    · rintro H' ⟨ds, hdl, k, hDl, hds⟩
      rw [Int.toNat_natCast] at hdl
      have hp8 := k _ _ hp7
      refine ⟨_, rfl, p, T.C_Store, dx, _, rfl, hp8, T.cl_Store, T.no_Store_ways_by_state, ?_, ?_⟩
      · exact Nat.lt_of_le_of_lt (Nat.le_trans (length_putF _ _ _) (Nat.succ_le_succ (Nat.le_trans (length_putF _ _ _) (Nat.succ_le_succ (Nat.le_trans (length_putF _ _ _) (Nat.succ_le_succ (length_putF _ _ _))))))) (by decide)
      have KE : Kp [p] H7 (upd H' p (.ins T.C_Store dx (flds n aA r dM D))) := (Kp.of k).wr (.inl List.mem_cons_self)
      have np : ∀ {b : Addr} {ob : HO}, H' b = some ob → (∀ C dx fs, ob ≠ .ins C dx fs) → (upd H' p (.ins T.C_Store dx (flds n aA r dM D))) b = some ob := fun hb hn => by
        rw [upd_ne (ne_of hb hp8 (hn _ _ _))]
        exact hb
      refine q _ (ys.map (actAt H1)) ((((K1.trans k12).trans K5).trans K7).trans KE) aperm ?_ ⟨dx, aA, o, ys, dM, D, kvs, ds, upd_same, np (k _ _ hA7) (by intro _ _ _ z; cases z), hx7.kp (kS KE), ⟨np (k _ _ hM7) (by intro _ _ _ z; cases z), by rw [← hkv, List.map_map, List.map_map]; rfl⟩, fun a ha => ?_, np hDl (by intro _ _ _ z; cases z), hdl, fun one d h => ?_⟩
      · refine List.pairwise_map.mpr (asc.imp_of_mem fun {x y} hx hy h => ?_)
        have e1 : (actAt H1 x).1 = nameAt H2 x := by rw [← hact2' x (hmem x hx)]; rfl
        have e2 : (actAt H1 y).1 = nameAt H2 y := by rw [← hact2' y (hmem y hy)]; rfl
        rw [e1, e2]
        exact h
      · obtain ⟨m, e1, e2⟩ := hdk a ha
        have n1 : m ∉ [p] := fun z => by
          cases List.mem_singleton.mp z
          rw [hp5] at e2
          cases e2
        exact ⟨m, e1, np (k _ _ (K7 _ _ n1 e2)) (by intro _ _ _ z; cases z)⟩
      · obtain ⟨E', e1, e2, e3⟩ := hds one d h
        exact ⟨E', np e1 (by intro _ _ _ z; cases z), fun e he => np (e2 e he) (by intro _ _ _ z; cases z), e3⟩
theorem ok_Store_init (T : Txt K mg) : Sk.FnK P w K mg base (L2N.CX P w) 6 T.a_Store_init ["resting"] (sp_init T) := by
  refine Sk.fn_starK (ps := ["self", "size"]) (pk := ["resting"]) (pv := "actions") T.F_Store_init sc_Store_init cxUpN (fun kV doc pm an cdv ct us rest ws h1 h2 => ?_) (fun cdv A outer s H vs rest zs Q E hr hl hz h pt hpt => ?_) (fun zs vs H Q E h => ?_)
  · match us, ws, rest, h1, h2 with
    | [a, b], [c], [], _, _ => rfl
    | [a, b], [c], r :: rs, _, _ => rfl
  · exact init_body T cdv A outer s H vs rest zs Q E hr hl h pt hpt
  · obtain ⟨p, dx, S, sv, sd, rest', ds, r, rd, rfl, rfl, hpS, hp, hsv, osv, hx, ox, h20, _⟩ := h
    have := hx.length
    refine ⟨by show 2 ≤ _ + 1 + 1; omega, ?_⟩
    show _ + 1 + 1 ≤ _
    rw [sizeLine_eq]
    omega
end
end K02
set_option Elab.async false
set_option linter.all false
set_option maxRecDepth 100000
set_option maxHeartbeats 4000000
/-! k02: Store.of, ==, in. -/
namespace K02
open PySem PySem.Spec PyProof.Rows L2 Zg Zr Zd Zv Xu
/-! ### plain data: no dict, no bool -/
mutual
def pln : PyData → Bool
  | .none | .int _ | .str _ => true
  | .bool _ | .dict _ => false
  | .list xs | .tuple xs => plnAll xs
def plnAll : List PyData → Bool
  | [] => true
  | x :: xs => pln x && plnAll xs
end
theorem plnAll_iff : ∀ {l : List PyData}, plnAll l = true ↔ ∀ d ∈ l, pln d = true
  | [] => by simp [plnAll]
  | x :: l => by
    rw [plnAll, Bool.and_eq_true, plnAll_iff (l := l)]
    simp
mutual
theorem eqv_iff : ∀ (d e : PyData), pln d = true → pln e = true → (PyData.eqv d e = true ↔ d = e)
  | .none, e, _, he => by cases e <;> first | exact ⟨fun _ => rfl, fun _ => rfl⟩ | exact ⟨(fun z => by cases z), (fun z => by cases z)⟩
  | .bool _, e, hd, _ => by cases hd
  | .dict _, e, hd, _ => by cases hd
  | .int i, e, _, he => by
    cases e with
    | int j =>
      show (i == j) = true ↔ _
      rw [beq_iff_eq]
      exact ⟨(fun z => by rw [z]), (fun z => by injection z)⟩
    | bool b => cases he
    | _ => exact ⟨(fun z => by cases z), (fun z => by cases z)⟩
  | .str x, e, _, he => by
    cases e with
    | str y =>
      show (x == y) = true ↔ _
      rw [beq_iff_eq]
      exact ⟨(fun z => by rw [z]), (fun z => by injection z)⟩
    | _ => exact ⟨(fun z => by cases z), (fun z => by cases z)⟩
  | .list xs, e, hd, he => by
    cases e with
    | list ys =>
      show PyData.eqvAll xs ys = true ↔ _
      rw [eqvAll_iff xs ys hd he]
      exact ⟨(fun z => by rw [z]), (fun z => by injection z)⟩
    | _ => exact ⟨(fun z => by cases z), (fun z => by cases z)⟩
  | .tuple xs, e, hd, he => by
    cases e with
    | tuple ys =>
      show PyData.eqvAll xs ys = true ↔ _
      rw [eqvAll_iff xs ys hd he]
      exact ⟨(fun z => by rw [z]), (fun z => by injection z)⟩
    | _ => exact ⟨(fun z => by cases z), (fun z => by cases z)⟩
theorem eqvAll_iff : ∀ (xs ys : List PyData), plnAll xs = true → plnAll ys = true → (PyData.eqvAll xs ys = true ↔ xs = ys)
  | [], [], _, _ => ⟨fun _ => rfl, fun _ => rfl⟩
  | [], _ :: _, _, _ => ⟨(fun z => by cases z), (fun z => by cases z)⟩
  | _ :: _, [], _, _ => ⟨(fun z => by cases z), (fun z => by cases z)⟩
  | x :: xs, y :: ys, h1, h2 => by
    rw [plnAll, Bool.and_eq_true] at h1 h2
    show (PyData.eqv x y && PyData.eqvAll xs ys) = true ↔ _
    rw [Bool.and_eq_true, eqv_iff x y h1.1 h2.1, eqvAll_iff xs ys h1.2 h2.2]
    exact ⟨(fun z => by rw [z.1, z.2]), (fun z => by injection z with a b; exact ⟨a, b⟩)⟩
end
mutual
theorem dp_dv {K : PySem.W.Frag} {S : List Addr} {H : Hp} : ∀ {v : V} {d : PyData}, Dv S H v d → pln d = true → Dp K H v d
  | _, _, .non, _ => .non
  | _, _, .bl b, h => by cases h
  | _, _, .int i, _ => .int i
  | _, _, .str x, _ => .str x
  | _, _, .lst h n t, p => .lst (SqL.of h) (dpAll_dv t p)
  | _, _, .tup h n t, p => .tup (SqT.of h) (dpAll_dv t p)
  | _, _, .dic h n, p => by cases p
theorem dpAll_dv {K : PySem.W.Frag} {S : List Addr} {H : Hp} : ∀ {vs : List V} {ds : List PyData}, DvAll S H vs ds → plnAll ds = true → DpAll K H vs ds
  | _, _, .nil, _ => .nil
  | _, _, .cons h t, p => by
    rw [plnAll, Bool.and_eq_true] at p
    exact .cons (dp_dv h p.1) (dpAll_dv t p.2)
end
mutual
theorem pln_lay : ∀ d : PyData, pln d = true → okv d = true → d.canLay0 = true
  | .none, _, _ => rfl
  | .bool _, h, _ => by cases h
  | .dict _, h, _ => by cases h
  | .int i, _, _ => rfl
  | .str x, _, h => by
    have h' : (PyData.strOk x && decide (x.length ≤ 1000)) = true := h
    rw [Bool.and_eq_true] at h'
    exact h'.1
  | .list xs, h, o => by
    have o' : (decide (xs.length ≤ 1000) && okvAll xs) = true := o
    rw [Bool.and_eq_true] at o'
    exact plnAll_lay xs h o'.2
  | .tuple xs, h, o => by
    have o' : (decide (xs.length ≤ 1000) && okvAll xs) = true := o
    rw [Bool.and_eq_true] at o'
    exact plnAll_lay xs h o'.2
theorem plnAll_lay : ∀ l : List PyData, plnAll l = true → okvAll l = true → PyData.canLayAll0 l = true
  | [], _, _ => rfl
  | x :: l, h, o => by
    rw [plnAll, Bool.and_eq_true] at h
    have o' := okvAll_iff.mp o
    show (PyData.canLay0 x && PyData.canLayAll0 l) = true
    rw [pln_lay x h.1 (o' x List.mem_cons_self), plnAll_lay l h.2 (okvAll_iff.mpr fun d hd => o' d (List.mem_cons_of_mem _ hd))]
    rfl
end
theorem actD_pln (a : Act) : pln (actD a) = true := by
  show (true && (plnAll (a.2.map mvD) && true)) = true
  rw [Bool.true_and, Bool.and_true, plnAll_iff]
  intro d hd
  obtain ⟨m, _, rfl⟩ := List.mem_map.mp hd
  cases m <;> rfl
theorem actD_inj {a b : Act} (h : actD a = actD b) : a = b := by
  injection h with h
  injection h with h1 h2
  injection h1 with h1
  injection h2 with h2 _
  injection h2 with h2
  have mi : ∀ m k : Option Nat, mvD m = mvD k → m = k := fun m k e => by
    cases m with
    | none =>
      cases k with
      | none => rfl
      | some k => exact absurd e (by intro z; cases z)
    | some m =>
      cases k with
      | none => exact absurd e (by intro z; cases z)
      | some k =>
        have e' : (m : Int) = (k : Int) := PyData.int.inj e
        congr 1
        omega
  have inj : ∀ l k : List (Option Nat), l.map mvD = k.map mvD → l = k := fun l => by
    induction l with
    | nil =>
      intro k h
      cases k with
      | nil => rfl
      | cons y k => cases h
    | cons x l ih =>
      intro k h
      cases k with
      | nil => cases h
      | cons y k =>
        rw [List.map_cons, List.map_cons] at h
        injection h with h1 h2
        rw [mi x y h1, ih k h2]
  exact Prod.ext h1 (inj _ _ h2)
theorem states_pln {n : Int} {d : PyData} (h : areStates n d = true) : pln d = true ∧ d.depth ≤ 1 := by
  unfold areStates at h
  split at h
  · rename_i ds
    rw [Bool.and_eq_true, List.all_eq_true] at h
    have hi : ∀ x ∈ ds, ∃ i, x = .int i := fun x hx => by
      have := h.1 x hx
      cases x with
      | int i => exact ⟨i, rfl⟩
      | _ => cases this
    refine ⟨plnAll_iff.mpr fun x hx => ?_, ?_⟩
    · obtain ⟨i, rfl⟩ := hi x hx
      rfl
    · show PyData.depthAll ds + 1 ≤ 1
      have : PyData.depthAll ds = 0 := by
        clear h
        induction ds with
        | nil => rfl
        | cons x ds ih =>
          obtain ⟨i, rfl⟩ := hi x List.mem_cons_self
          show max 0 (PyData.depthAll ds) = 0
          rw [ih fun y hy => hi y (List.mem_cons_of_mem _ hy)]
          rfl
      omega
  · cases h
section
variable {P : Program} {w : World} {K : PySem.W.Frag} {mg : PySem.Str → Option Value} {base : Heap}
theorem StAt.sub {C : Addr} {H : Hp} {S S' : List Addr} {p : Addr} {n : Nat} {acts : List Act} {r : V} (h : StAt C H S p n acts r) (e : ∀ a ∈ S', a ∈ S) : StAt C H S' p n acts r := by
  obtain ⟨dx, aA, o, ps, dM, lW, kvs, ds, h1, h2, h3, h4⟩ := h.ex
  exact ⟨dx, aA, o, ps, dM, lW, kvs, ds, h1, h2, h3.sub e, h4⟩
/-- the part at fault in what Store.of is given -/
def flt (sd ad rd : PyData) : Option PyData := if isSz sd = true then (match ad with
  | .tuple ds => chk sd ds rd
  | _ => some (.str "actions")) else some (.str "size")
def rows : PyData → List PyData
  | .tuple ds => ds
  | _ => []
def sp_of (T : Txt K mg) : Sp := fun vs H Q E => ∃ (S : List Addr) (sv av r : V) (sd ad rd : PyData), vs = [.ref T.C_Store, sv, av, r] ∧ Dv S H sv sd ∧ Zv.okv sd = true ∧ Dv S H av ad ∧ Zv.okv ad = true ∧ (rows ad).length ≤ 20 ∧ Dv S H r rd ∧ Zv.okv rd = true ∧
  match flt sd ad rd with
    | none => ∀ (n : Nat) (acts : List Act), sd = .int (n : Nat) → ad = .tuple (acts.map actD) → Acts n acts → ∀ (H' : Hp) (p : Addr) (acts' : List Act), Same H H' → H p = none → acts'.Perm acts → Asc acts' → StAt T.C_Store H' S p n acts' r → Q (.ref p) H'
    | some f => Bad T S H E f
theorem ok_Store_of (T : Txt K mg) : FnOk P w K mg base (L2N.CX P w) 8 T.a_Store_of T.d_Store_of P_Store_of (sp_of T) := by
  refine Xv.okXN T.F_Store_of sc_Store_of (fun vs H Q E h => by obtain ⟨S, sv, av, r, sd, ad, rd, rfl, _⟩ := h; rfl) (fun cdv A outer s H vs Q E hr h => ?_)
  refine ⟨_, (pss_cons (ps_if (pt_not (pt_val (pe_call (ok_is_size T) (hr.mono (by omega)) (by rfl) T.g_is_size T.F_is_size.kp T.b_is_size .nil pass0 (pa_cons (pv 1) pa_nil)))) (pss_one (L2N.ps_raise rfl (L2N.takes_of rfl rfl rfl rfl) (Xw.pmk_E T.E_BadStore.ox T.iC_BadStore T.tI_BadStore (ok_BadStore_init T) (hr.mono (by decide)) T.b_BadStore_init rfl pass0 rfl T.g_BadStore (pa_cons pe_str pa_nil)))) pss_nil)
    (pss_cons (ps_if (pt_not (pt_val (pe_callB call_isi (by rfl) T.n_isinstance (by decide +kernel) (pa_cons (pv 2) (pa_cons (pe_bltn (v := .ty "tuple") (u := .type "tuple") (by rfl) T.n_tuple (by decide +kernel) rfl) pa_nil))))) (pss_one (L2N.ps_raise rfl (L2N.takes_of rfl rfl rfl rfl) (Xw.pmk_E T.E_BadStore.ox T.iC_BadStore T.tI_BadStore (ok_BadStore_init T) (hr.mono (by decide)) T.b_BadStore_init rfl pass0 rfl T.g_BadStore (pa_cons pe_str pa_nil)))) pss_nil)
    (pss_one (ps_ret (Sk.pe_clsK (i := 0) T.mk_Store (ok_Store_init T) (hr.mono (by decide)) rfl (Or.inl rfl) (L2N.passes_call (L2N.takes_of rfl rfl rfl rfl) (fun _ _ _ _ h => h)) (pa_cons (pv 1) (StX.pa_star (pv 2) pa_nil)) (pk_cons (pv 3) pk_nil)))))), ?_⟩
  obtain ⟨S, sv, av, r, sd, ad, rd, rfl, hsv, osv, hav, oav, h20, hrd, ord, q⟩ := h
  refine ⟨_, rfl, S, sv, sd, rfl, hsv, osv, fun H1 k1 => ⟨_, rfl, ?_⟩⟩
  unfold flt at q
  cases hz : isSz sd with
  | false =>
    rw [if_neg (by rw [hz]; exact Bool.false_ne_true)] at q
    exact ⟨rfl, raise_bad q k1 (.str _)⟩
  | true =>
    rw [if_pos hz] at q
    refine iteF ?_
    refine ⟨_, rfl, av, .ty "tuple", _, _, _, rfl, .ty _, (hav.kp (Kp.of k1)).ty, kit_all K _ (by decide) _ (tyD_mem ad), _, rfl, ?_⟩
    by_cases ht : isA "tuple" ad = true
    · obtain ⟨a, xs, ds, rfl, rfl, ha, nS, hx⟩ := hav.tuple ht
      rw [show isB "tuple" (tyD (.tuple ds)) = true from rfl]
      refine iteF ?_
      have ha1 := k1 _ _ ha
      have od : okvAll ds = true := by
        have o' : (decide (ds.length ≤ 1000) && okvAll ds) = true := oav
        rw [Bool.and_eq_true] at o'
        exact o'.2
      refine ⟨rfl, _, rfl, _, rfl, a, xs, rfl, .inl (SqT.of ha1), _, rfl, rfl, fun x dx hx0 hdx ne => ?_⟩
      have s1 : Same H1 (upd (upd H1 dx (.own x)) x (.ins T.C_Store dx [])) := fun b o e => by
        rw [upd_ne (ne_of_none e hx0)]
        exact same_new hdx _ _ e
      have hS : ∀ a ∈ S, a ∈ x :: S := fun a ha => List.mem_cons_of_mem _ ha
      have kk : Same H (upd (upd H1 dx (.own x)) x (.ins T.C_Store dx [])) := k1.trans s1
      have hss : Dv (x :: S) H1 sv sd := (hsv.kp (Kp.of k1)).fresh hx0
      have hxx : DvAll (x :: S) H1 xs ds := (hx.kp (Kp.of k1)).fresh hx0
      have hrr : Rv K (x :: S) H1 r rd := .inl ((hrd.kp (Kp.of k1)).fresh hx0)
      have hxH : H x = none := k1.free hx0
      refine ⟨x, dx, x :: S, sv, sd, xs, ds, r, rd, rfl, by rw [List.append_nil], List.mem_cons_self, upd_same, hss.kp (Kp.of s1), osv, hxx.kp (Kp.of s1), od, h20, hrr.kp (Kp.of s1), ord, ?_⟩
      have q : (match chk sd ds rd with
        | none => ∀ (n : Nat) (acts : List Act), sd = .int (n : Nat) → PyData.tuple ds = .tuple (acts.map actD) → Acts n acts → ∀ (H' : Hp) (p : Addr) (acts' : List Act), Same H H' → H p = none → acts'.Perm acts → Asc acts' → StAt T.C_Store H' S p n acts' r → Q (.ref p) H'
        | some f => Bad T S H E f) := q
      cases hc : chk sd ds rd with
      | some f =>
        rw [hc] at q
        exact fun d H' v k h1 h2 => q d H' v (kk.trans k) h1 (h2.sub hS)
      | none =>
        rw [hc] at q
        intro n acts e1 e2 AA H' acts' k' perm asc st
        refine ⟨rfl, q n acts e1 (by rw [e2]) AA H' x acts' (fun b o e => ?_) hxH perm asc (st.sub hS)⟩
        have nb : b ∉ [x] := fun m => by
          cases List.mem_singleton.mp m
          rw [hxH] at e
          cases e
        exact k' _ _ nb (kk _ _ e)
    · have e : (match ad with
        | .tuple ds => chk sd ds rd
        | _ => some (.str "actions")) = some (.str "actions") := by
        cases ad with
        | tuple ds => exact absurd rfl ht
        | _ => rfl
      rw [e] at q
      have ht2 : isB "tuple" (tyD ad) = false := by
        have : isA "tuple" ad = false := by simpa using ht
        exact this
      rw [ht2]
      exact ⟨rfl, raise_bad q k1 (.str _)⟩
end
end K02
set_option Elab.async false
set_option linter.all false
set_option maxRecDepth 100000
set_option maxHeartbeats 4000000
/-! k02: ==, in. -/
namespace K02
open PySem PySem.Spec PyProof.Rows L2 Zg Zr Zd Zv Xu
theorem depth_act (a : Act) : (actD a).depth ≤ 2 := by
  have h : ∀ ms : List (Option Nat), PyData.depthAll (ms.map mvD) = 0 := fun ms => by
    induction ms with
    | nil => rfl
    | cons m ms ih =>
      show max (mvD m).depth (PyData.depthAll (ms.map mvD)) = 0
      rw [ih]
      cases m <;> rfl
  show max 0 (max (PyData.depthAll (a.2.map mvD) + 1) 0) + 1 ≤ 2
  rw [h]
  decide
theorem depth_all {k : Nat} : ∀ {l : List PyData}, (∀ d ∈ l, d.depth ≤ k) → PyData.depthAll l ≤ k
  | [], _ => Nat.zero_le _
  | x :: l, h => by
    show max x.depth (PyData.depthAll l) ≤ k
    have := h x List.mem_cons_self
    have := depth_all fun d hd => h d (List.mem_cons_of_mem _ hd)
    omega
/-- what a store shows: its size, its actions, its resting states -/
def stD (n : Nat) (acts : List Act) (rd : PyData) : PyData := .tuple [.int (n : Nat), .tuple (acts.map actD), rd]
theorem acts_pln (acts : List Act) : plnAll (acts.map actD) = true := plnAll_iff.mpr fun d hd => by
  obtain ⟨a, _, rfl⟩ := List.mem_map.mp hd
  exact actD_pln a
theorem stD_pln {n : Nat} {acts : List Act} {rd : PyData} (h : areStates n rd = true) : pln (stD n acts rd) = true := by
  show (true && (plnAll (acts.map actD) && (pln rd && true))) = true
  rw [acts_pln, (states_pln h).1]
  rfl
theorem stD_shaped {n : Nat} {acts : List Act} {rd : PyData} (A : Acts n acts) (h : areStates n rd = true) (o : Zv.okv rd = true) : SeqAt.shaped (stD n acts rd) = true := by
  have h1 : PyData.canLayAll0 (acts.map actD) = true := plnAll_lay _ (acts_pln acts) (okvAll_iff.mpr fun d hd => by
    obtain ⟨a, ha, rfl⟩ := List.mem_map.mp hd
    exact A.okv a ha)
  have h2 : PyData.depthAll (acts.map actD) ≤ 2 := depth_all fun d hd => by
    obtain ⟨a, _, rfl⟩ := List.mem_map.mp hd
    exact depth_act a
  have h3 := (states_pln h).2
  show ((true && (PyData.canLayAll0 (acts.map actD) && (PyData.canLay0 rd && true))) && decide (max 0 (max (PyData.depthAll (acts.map actD) + 1) (max rd.depth 0)) + 1 ≤ 64)) = true
  rw [h1, pln_lay rd (states_pln h).1 o, decide_eq_true (by omega)]
  rfl
theorem stD_iff {n n' : Nat} {acts acts' : List Act} {rd rd' : PyData} : stD n acts rd = stD n' acts' rd' ↔ n = n' ∧ acts = acts' ∧ rd = rd' := by
  constructor
  · intro h
    injection h with h
    injection h with h1 h
    injection h with h2 h
    injection h with h3 _
    injection h1 with h1
    injection h2 with h2
    refine ⟨by omega, ?_, h3⟩
    have inj : ∀ l k : List Act, l.map actD = k.map actD → l = k := fun l => by
      induction l with
      | nil =>
        intro k h
        cases k with
        | nil => rfl
        | cons y k => cases h
      | cons x l ih =>
        intro k h
        cases k with
        | nil => cases h
        | cons y k =>
          rw [List.map_cons, List.map_cons] at h
          injection h with h1 h2
          rw [actD_inj h1, ih k h2]
    exact inj _ _ h2
  · rintro ⟨rfl, rfl, rfl⟩
    rfl
section
variable {P : Program} {w : World} {K : PySem.W.Frag} {mg : PySem.Str → Option Value} {base : Heap}
theorem _root_.K02.Rv.dp {K : PySem.W.Frag} {S : List Addr} {H : Hp} {v : V} {d : PyData} (h : Rv K S H v d) (hp : pln d = true) : Dp K H v d := by
  rcases h with h | ⟨t, rfl, rfl, he⟩
  · exact dp_dv h hp
  · exact .tup (Sq.sqt (.inr ⟨rfl, he⟩)) .nil
/-- a store of these parts, resting as shown -/
structure Sto (T : Txt K mg) (H : Hp) (p : Addr) (n : Nat) (acts : List Act) (rd : PyData) : Prop where
  ex : ∃ (S : List Addr) (r : V), StAt T.C_Store H S p n acts r ∧ Rv K S H r rd
  A : Acts n acts
  one : 1 ≤ n
  st : areStates n rd = true
  ok : Zv.okv rd = true
theorem Sto.same {T : Txt K mg} {H H' : Hp} {p : Addr} {n : Nat} {acts : List Act} {rd : PyData} (h : Sto T H p n acts rd) (k : Same H H') : Sto T H' p n acts rd := by
  obtain ⟨S, r, h1, h2⟩ := h.ex
  exact ⟨⟨S, r, h1.same k, h2.kp (Kp.of k)⟩, h.A, h.one, h.st, h.ok⟩
theorem Sto.ty {T : Txt K mg} {H : Hp} {p : Addr} {n : Nat} {acts : List Act} {rd : PyData} (h : Sto T H p n acts rd) : TyX K H (.ref p) (.ref T.C_Store) := by
  obtain ⟨S, r, h1, h2⟩ := h.ex
  obtain ⟨dx, aA, o, ps, dM, lW, kvs, ds, e1, _⟩ := h1.ex
  exact Xo.ins_ty T.ins_Store T.cl_Store e1
def sp_eq (T : Txt K mg) : Sp := fun vs H Q _ => ∃ (p : Addr) (o : V) (n : Nat) (acts : List Act) (rd : PyData), vs = [.ref p, o] ∧ Sto T H p n acts rd ∧
  ((∃ S d, Dv S H o d ∧ ∀ H', Same H H' → Q (.bl false) H') ∨
    ∃ (p' : Addr) (n' : Nat) (acts' : List Act) (rd' : PyData), o = .ref p' ∧ Sto T H p' n' acts' rd' ∧ ∀ H' b, Same H H' → (b = true ↔ n = n' ∧ acts = acts' ∧ rd = rd') → Q (.bl b) H')
theorem ok_Store_eq (T : Txt K mg) : FnOk P w K mg base CX0 1 T.a_Store_eq T.d_Store_eq P_Store_eq (sp_eq T) := by
  refine T.F_Store_eq.ok sc_Store_eq (fun vs H Q E h => by obtain ⟨p, o, n, acts, rd, rfl, _⟩ := h; rfl) (fun cdv A outer s H vs Q E hr h => ?_)
  refine ⟨_, (pss_cons (ps_if (pt_not (pt_val (pe_callB call_isi (by rfl) T.n_isinstance (by decide +kernel) (pa_cons (pv 1) (pa_cons (pe_glob (v := .ref T.C_Store) rfl T.g_Store rfl) pa_nil))))) (pss_one (ps_ret pe_bl)) pss_nil)
    (pss_one (ps_ret (pe_cmpR (op_eqD hr.units) (pe_tup (pa_cons (pe_fld (pv 0) rfl) (pa_cons (pe_fld (pv 0) rfl) (pa_cons (pe_fld (pv 0) rfl) pa_nil)))) (pe_tup (pa_cons (pe_fld (pv 1) rfl) (pa_cons (pe_fld (pv 1) rfl) (pa_cons (pe_fld (pv 1) rfl) pa_nil)))) (nomark _))))), ?_⟩
  obtain ⟨p, o, n, acts, rd, rfl, hs, h⟩ := h
  rcases h with ⟨S, d, hd, q⟩ | ⟨p', n', acts', rd', rfl, hs', q⟩
  · refine ⟨_, rfl, o, .ref T.C_Store, _, _, false, rfl, .own _, hd.ty, Xo.kit_no T.ins_Store _ (tyD_mem d), _, rfl, ?_⟩
    exact iteT (q H (Same.refl _))
  · refine ⟨_, rfl, .ref p', .ref T.C_Store, _, _, true, rfl, .own _, hs'.ty, Xo.kit_me K T.C_Store, _, rfl, ?_⟩
    refine iteF ?_
    obtain ⟨S, r, st, hrd⟩ := hs.ex
    obtain ⟨S', r', st', hrd'⟩ := hs'.ex
    obtain ⟨dx, aA, o, ps, dM, lW, kvs, ds, h1, h2, h3, _⟩ := st.ex
    obtain ⟨dx', aA', o', ps', dM', lW', kvs', ds', h1', h2', h3', _⟩ := st'.ex
    refine ⟨_, rfl, p, T.C_Store, dx, _, _, rfl, h1, T.cl_Store, T.no_Store_size, flds_size, ?_⟩
    refine ⟨_, rfl, p, T.C_Store, dx, _, _, rfl, h1, T.cl_Store, T.no_Store_actions, flds_actions, ?_⟩
    refine ⟨_, rfl, p, T.C_Store, dx, _, _, rfl, h1, T.cl_Store, T.no_Store_resting, flds_resting, by show 3 ≤ sizeLine; decide, fun t1 n1 => ?_⟩
    have k1 := same_new (o := .tup [.int (n : Nat), .ref aA, r]) n1
    refine ⟨_, rfl, p', T.C_Store, dx', _, _, rfl, k1 _ _ h1', T.cl_Store, T.no_Store_size, flds_size, ?_⟩
    refine ⟨_, rfl, p', T.C_Store, dx', _, _, rfl, k1 _ _ h1', T.cl_Store, T.no_Store_actions, flds_actions, ?_⟩
    refine ⟨_, rfl, p', T.C_Store, dx', _, _, rfl, k1 _ _ h1', T.cl_Store, T.no_Store_resting, flds_resting, by show 3 ≤ sizeLine; decide, fun t2 n2 => ?_⟩
    have k2 := k1.trans (same_new (o := .tup [.int (n' : Nat), .ref aA', r']) n2)
    have e1 := (same_new (o := .tup [.int (n' : Nat), .ref aA', r']) n2) t1 _ upd_same
    refine ⟨stD n acts rd, stD n' acts' rd', .tup (SqT.of e1) (.cons (.int _) (.cons (.tup (.inl (.inr ⟨o, k2 _ _ h2⟩)) (dpAll_dv (h3.kp (Kp.of k2)) (acts_pln acts))) (.cons ((hrd.kp (Kp.of k2)).dp (states_pln hs.st).1) .nil))),
      .tup (SqT.of upd_same) (.cons (.int _) (.cons (.tup (.inl (.inr ⟨o', k2 _ _ h2'⟩)) (dpAll_dv (h3'.kp (Kp.of k2)) (acts_pln acts'))) (.cons ((hrd'.kp (Kp.of k2)).dp (states_pln hs'.st).1) .nil))),
      stD_shaped hs.A hs.st hs.ok, stD_shaped hs'.A hs'.st hs'.ok, q _ _ k2 ?_⟩
    rw [eqv_iff _ _ (stD_pln hs.st) (stD_pln hs'.st)]
    exact stD_iff
def isNm (acts : List Act) : PyData → Bool
  | .str x => decide (x ∈ acts.map (·.1))
  | _ => false
def sp_contains (T : Txt K mg) : Sp := fun vs H Q _ => ∃ (p : Addr) (v : V) (S : List Addr) (d : PyData) (n : Nat) (acts : List Act) (rd : PyData), vs = [.ref p, v] ∧ Sto T H p n acts rd ∧ Dv S H v d ∧ ∀ H', Same H H' → Q (.bl (isNm acts d)) H'
theorem val_some {kvs : List (Key × V)} {k : Key} : (valV kvs k).isSome = true ↔ k ∈ kvs.map (fun x : Key × V => x.1) := by
  induction kvs with
  | nil => exact ⟨(fun z => by cases z), (fun z => by cases z)⟩
  | cons kv kvs ih =>
    unfold valV at ih ⊢
    rw [List.find?_cons, List.map_cons, List.mem_cons]
    by_cases h : kv.1 = k
    · subst h
      simp
    · rw [decide_eq_false h]
      exact ⟨fun z => .inr (ih.mp z), fun z => z.elim (fun z => absurd z.symm h) ih.mpr⟩
theorem ok_Store_contains (T : Txt K mg) : FnOk P w K mg base CX0 1 T.a_Store_contains T.d_Store_contains P_Store_contains (sp_contains T) := by
  refine T.F_Store_contains.ok sc_Store_contains (fun vs H Q E h => by obtain ⟨p, v, S, d, n, acts, rd, rfl, _⟩ := h; rfl) (fun cdv A outer s H vs Q E hr h => ?_)
  refine ⟨_, (pss_one (ps_ret (pe_and (pe_callB call_isi (by rfl) T.n_isinstance (by decide +kernel) (pa_cons (pv 1) (pa_cons (pe_bltn (v := .ty "str") (u := .type "str") (by rfl) T.n_str (by decide +kernel) rfl) pa_nil))) (pe_one (pe_cmp (pc_din (hu_of hr) (pv 1) (pe_fld (pv 0) rfl)) rfl))))), ?_⟩
  obtain ⟨p, v, S, d, n, acts, rd, rfl, hs, hd, q⟩ := h
  have q := q H (Same.refl _)
  refine ⟨_, rfl, v, .ty "str", _, _, _, rfl, .ty _, hd.ty, kit_all K _ (by decide) _ (tyD_mem d), _, rfl, ?_⟩
  by_cases ht : isA "str" d = true
  · obtain ⟨x, rfl, rfl⟩ := hd.text ht
    refine iteT ?_
    obtain ⟨S', r, st, hrd⟩ := hs.ex
    obtain ⟨dx, aA, o, ps, dM, lW, kvs, ds, h1, h2, h3, h4, _⟩ := st.ex
    refine ⟨_, rfl, _, rfl, p, T.C_Store, dx, _, _, rfl, h1, T.cl_Store, T.no_Store_moves_by_name, flds_moves, dM, _, rfl, DGet.k (k := .inr x) h4.1, ?_⟩
    have e : (valV kvs (.inr x : Key)).isSome = isNm acts (.str x) := by
      unfold isNm
      rw [Bool.eq_iff_iff, val_some, h4.2, decide_eq_true_iff, List.mem_map, List.mem_map]
      constructor
      · rintro ⟨a, ha, e⟩
        exact ⟨a, ha, by injection e⟩
      · rintro ⟨a, ha, e⟩
        exact ⟨a, ha, by rw [e]⟩
    rw [e]
    exact q
  · have e : isNm acts d = false := by
      cases d with
      | str x => exact absurd rfl ht
      | _ => rfl
    rw [e] at q
    have ht2 : isB "str" (tyD d) = false := by
      have : isA "str" d = false := by simpa using ht
      exact this
    rw [ht2]
    exact iteF q
end
end K02
set_option Elab.async false
set_option linter.all false
set_option maxRecDepth 100000
set_option maxHeartbeats 4000000
/-! k02: the law draws, its own small answers. -/
namespace K02
open PySem PySem.Spec PyProof.Rows L2 Zg Zr Zd Zv
theorem atI_of {α : Type} {xs : List α} {r : Int} (h0 : 0 ≤ r) (h1 : r < xs.length) : ∃ (h : r.toNat < xs.length), atI xs r = some xs[r.toNat] := by
  have h : r.toNat < xs.length := by omega
  refine ⟨h, ?_⟩
  have q := atI_nat (xs := xs) (j := r.toNat) (v := xs[r.toNat]) (List.getElem?_eq_getElem h)
  have e : ((r.toNat : Nat) : Int) = r := Int.toNat_of_nonneg h0
  rw [e] at q
  exact q
theorem two {w l a : Addr} (h1 : a ≠ w) (h2 : a ≠ l) : a ∉ [w, l] := by
  intro h
  rcases List.mem_cons.mp h with e | h
  · exact h1 e
  · rw [List.mem_singleton] at h
    exact h2 h
theorem Well.ne {H : Hp} {w l p : Addr} {C : Nat} (h : Well H w l C) (n : H p = none) : p ∉ [w, l] := by
  obtain ⟨_, b, c, ns, h1, h2, _⟩ := h
  exact two (fun e => by rw [e, h1] at n; cases n) (fun e => by rw [e, h2] at n; cases n)
/-- a new thing beside the well -/
theorem Well.new {H : Hp} {w l p : Addr} {C : Nat} {o : HO} (h : Well H w l C) (n : p ∉ [w, l]) : Well (upd H p o) w l C := by
  obtain ⟨d, b, c, ns, h1, h2, r⟩ := h
  have n1 : w ≠ p := fun e => n (e ▸ List.mem_cons_self)
  have n2 : l ≠ p := fun e => n (e ▸ List.mem_cons_of_mem _ List.mem_cons_self)
  exact ⟨d, b, c, ns, by rw [upd_ne n1]; exact h1, by rw [upd_ne n2]; exact h2, r⟩
/-- a name as they are drawn -/
def Nm (z : PySem.Str) : Prop := isName (.str z) = true
theorem abc_len : ((("abcdefghijklmnopqrstuvwxyz" : PySem.Str).cps.toList.length : Nat) : Int) = 26 := by decide +kernel
theorem abcw_ok : ∀ c ∈ ("abcdefghijklmnopqrstuvwxyz" : PySem.Str).cps.toList, c < 1114112 := by decide +kernel
theorem sum_ones : ∀ zs : List PySem.Str, (∀ z ∈ zs, z.length = 1) → (zs.map (·.length)).sum = zs.length
  | [], _ => rfl
  | z :: r, h => by
    rw [List.map_cons, List.sum_cons, h z List.mem_cons_self, sum_ones r fun y hy => h y (List.mem_cons_of_mem _ hy), List.length_cons]
    omega
theorem cps_append (x y : PySem.Str) : (x ++ y).cps.toList = x.cps.toList ++ y.cps.toList := by
  show (x.cps ++ y.cps).toList = _
  rw [Array.toList_append]
theorem abc_join : ∀ zs : List PySem.Str, (∀ z ∈ zs, ∀ c ∈ z.cps.toList, c ∈ ABC) → ∀ c ∈ (PySem.Str.join "" zs).cps.toList, c ∈ ABC
  | [], _ => by
    intro c hc
    have : (PySem.Str.join "" []).cps.toList = [] := by decide +kernel
    rw [this] at hc
    cases hc
  | [x], h => h x List.mem_cons_self
  | x :: y :: r, h => by
    intro c hc
    have e : (PySem.Str.join "" (x :: y :: r)) = (x ++ "") ++ PySem.Str.join "" (y :: r) := rfl
    rw [e, cps_append, cps_append] at hc
    rcases List.mem_append.mp hc with hc | hc
    · rcases List.mem_append.mp hc with hc | hc
      · exact h x List.mem_cons_self c hc
      · have : (("" : PySem.Str)).cps.toList = [] := by decide +kernel
        rw [this] at hc
        cases hc
    · exact abc_join (y :: r) (fun z hz => h z (List.mem_cons_of_mem _ hz)) c hc
theorem join_len1 : ∀ zs : List PySem.Str, (∀ z ∈ zs, z.length = 1) → (PySem.Str.join "" zs).length = zs.length
  | [], _ => by decide +kernel
  | [x], h => h x List.mem_cons_self
  | x :: y :: r, h => by
    have e : (PySem.Str.join "" (x :: y :: r)) = (x ++ "") ++ PySem.Str.join "" (y :: r) := rfl
    have l : ∀ a b : PySem.Str, (a ++ b).length = a.length + b.length := fun a b => by
      show (a.cps ++ b.cps).size = _
      rw [Array.size_append]
      rfl
    rw [e, l, l, join_len1 (y :: r) fun z hz => h z (List.mem_cons_of_mem _ hz), h x List.mem_cons_self]
    have : (("" : PySem.Str)).length = 0 := by decide +kernel
    rw [this, List.length_cons, List.length_cons, List.length_cons]
    omega
section
variable {P : Program} {w : World} {K : PySem.W.Frag} {mg : PySem.Str → Option Value} {base : Heap}
def sp_one_of (K : PySem.W.Frag) : Sp := fun vs H Q _ => ∃ (w l a : Addr) (xs : List V) (C : Nat), vs = [.ref w, .ref a] ∧ Well H w l C ∧ C < LIM ∧ a ∉ [w, l] ∧ SqL K H a xs ∧ 0 < xs.length ∧ xs.length ≤ 1000000 ∧
  ∀ (H' : Hp) (i : Nat) (h : i < xs.length), Kp [w, l] H H' → Well H' w l (C + 1) → Q xs[i] H'
theorem ok_one_of (T : Txt K mg) : FnOk P w K mg base CX0 2 T.a_one_of T.d_one_of P_one_of (sp_one_of K) := by
  refine T.F_one_of.ok sc_one_of (fun vs H Q E h => by obtain ⟨w, l, a, xs, C, rfl, _⟩ := h; rfl) (fun cdv A outer s H vs Q E hr h => ?_)
  refine ⟨_, (pss_one (ps_ret (pe_ix ix_list (pv 1) (pe_call (ok_drawn T) (hr.mono (by decide)) (by rfl) T.g_drawn T.F_drawn.kp T.b_drawn .nil pass0 (pa_cons (pv 0) (pa_cons (pe_callB call_len_seq (by rfl) T.n_len (by decide +kernel) (pa_cons (pv 1) pa_nil)) pa_nil))) (fun _ _ => rfl)))), ?_⟩
  obtain ⟨w, l, a, xs, C, rfl, hW, hC, ha, hS, h0, h1, q⟩ := h
  refine ⟨_, rfl, _, rfl, _, rfl, a, _, rfl, .inl hS, w, l, _, C, rfl, hW, hC, by omega, by omega, fun H' r k hW' r0 r1 => ?_⟩
  obtain ⟨hi, e⟩ := atI_of r0 r1
  exact ⟨a, xs, r, _, rfl, rfl, k.seq ha hS, e, q H' _ hi k hW'⟩
def sp_name : Sp := fun vs H Q _ => ∃ (w l : Addr) (C : Nat), vs = [.ref w] ∧ Well H w l C ∧ C + 10 < LIM ∧
  ∀ (H' : Hp) (z : PySem.Str), Kp [w, l] H H' → Well H' w l (C + 10) → Nm z → Q (.str z) H'
theorem ok_name (T : Txt K mg) : FnOk P w K mg base CX0 3 T.a_name T.d_name P_name sp_name := by
  refine T.F_name.ok sc_name (fun vs H Q E h => by obtain ⟨w, l, C, rfl, _⟩ := h; rfl) (fun cdv A outer s H vs Q E hr h => ?_)
  refine ⟨_, (pss_cons (ps_set (i := 1) sc_name.nd rfl (Or.inl rfl) (pe_call (ok_one_of T) (hr.mono (by decide)) (by rfl) T.g_one_of T.F_one_of.kp T.b_one_of .nil pass0 (pa_cons (pv 0) (pa_cons (pe_lst (pa_cons pe_int (pa_cons pe_int (pa_cons pe_int (pa_cons pe_int (pa_cons pe_int pa_nil)))))) pa_nil))))
    (pss_one (ps_ret (pe_join pe_str (pe_lc (own := [("k", 2)]) rfl sc_name.nd (pi_range1 (by rfl) T.n_range (pa_cons (pv 1) pa_nil)) (blkOk_by (own := [("k", 2)]) (N := N_name) (sc := defScope s_name) (by decide +kernel)) (fun _ _ _ _ _ => (pg_name (i := 2) sc_name.nd rfl (Or.inl rfl))) (fun _ _ _ _ _ => pts_nil) (fun _ _ _ _ _ => (pe_ix ix_str pe_str (pe_call (ok_drawn T) (hr.mono (by decide)) (by rfl) T.g_drawn T.F_drawn.kp T.b_drawn .nil pass0 (pa_cons (pv 0) (pa_cons pe_int pa_nil))) (fun _ _ => rfl)))))))), ?_⟩
  obtain ⟨w, l, C, rfl, hW, hC, q⟩ := h
  refine ⟨_, rfl, by show 5 ≤ sizeLine; decide, fun p hp => ?_⟩
  have np := hW.ne hp
  refine ⟨w, l, p, [.int 1, .int 1, .int 2, .int 4, .int 8], C, rfl, hW.new np, by omega, np, SqL.of upd_same, by show 0 < 5; decide, by show 5 ≤ 1000000; decide, fun H1 i hi k1 hW1 => ?_⟩
  obtain ⟨m, em, m1, m8⟩ : ∃ m : Int, ([V.int 1, .int 1, .int 2, .int 4, .int 8] : List V)[i] = .int m ∧ 1 ≤ m ∧ m ≤ 8 := by
    have hi' : i < 5 := hi
    match i, hi' with
    | 0, _ | 1, _ | 2, _ | 3, _ | 4, _ => exact ⟨_, rfl, by decide, by decide⟩
  rw [em]
  have k1 := (Kp.new hp).trans k1
  refine ⟨⟨_, rfl⟩, _, rfl, _, rfl, by omega, by omega, fun D hD => ?_⟩
  have nD := hW1.ne hD
  refine lc_range (lo := 0) (n := m.toNat) (fun i H' => ∃ zs : List PySem.Str, zs.length = i ∧ (∀ z ∈ zs, z.length = 1 ∧ ∀ c ∈ z.cps.toList, c ∈ ABC) ∧ H' D = some (.lst (zs.map V.str)) ∧ Kp [w, l] H1 H' ∧ Well H' w l (C + 1 + i))
    ⟨[], rfl, (fun z hz => nomatch hz), upd_same, Kp.new hD, hW1.new nD⟩ ?_ ?_
  · rintro i H' hi ⟨zs, hzl, hz, hHD, k', hW'⟩
    refine ⟨rfl, ?_⟩
    refine ⟨_, rfl, w, l, 26, C + 1 + i, rfl, hW', by omega, by decide, by decide, fun H4 r4 k4 hW4 r40 r41 => ?_⟩
    obtain ⟨hi4, e4⟩ := atI_of (xs := ("abcdefghijklmnopqrstuvwxyz" : PySem.Str).cps.toList) (r := r4) r40 (by rw [abc_len]; exact r41)
    refine ⟨_, _, _, rfl, rfl, by rw [sizeLine_eq]; decide +kernel, e4, zs.map V.str, k4 _ _ nD hHD, by rw [List.length_map, sizeLine_eq]; omega, zs ++ [⟨#[("abcdefghijklmnopqrstuvwxyz" : PySem.Str).cps.toList[r4.toNat]]⟩], ?_, ?_, ?_, ?_, ?_⟩
    · rw [List.length_append, List.length_singleton, hzl]
    · intro z hzm
      rcases List.mem_append.mp hzm with h | h
      · exact hz z h
      · rw [List.mem_singleton] at h
        subst h
        refine ⟨rfl, fun c hc => ?_⟩
        have hc' : c = ("abcdefghijklmnopqrstuvwxyz" : PySem.Str).cps.toList[r4.toNat] := by simpa using hc
        rw [hc']
        exact List.getElem_mem hi4
    · rw [upd_same, List.map_append]
      rfl
    · exact (k'.trans k4).wr (.inr hD)
    · exact (hW4.mono (by omega)).new nD
  · rintro H' ⟨zs, hzl, hz, hHD, k', hW'⟩
    have h8 : zs.length ≤ 8 := by omega
    have hsum : (zs.map (·.length)).sum = zs.length := sum_ones zs fun z h => (hz z h).1
    refine ⟨_, D, zs, rfl, rfl, .inl (SqL.of hHD), ?_, ?_⟩
    · rw [hsum]
      show zs.length + zs.length * 0 ≤ 16777216
      omega
    · refine q H' _ (k1.trans k') (hW'.mono (by omega)) ?_
      show (decide _ && decide _ && _) = true
      rw [TL.join_eq]
      have q2 := join_len1 zs fun z h => (hz z h).1
      rw [q2, decide_eq_true (by omega), decide_eq_true (by omega), List.all_eq_true.mpr fun c hc => decide_eq_true (abc_join zs (fun z h => (hz z h).2) c hc)]
      rfl
theorem ok_is_whole (T : Txt K mg) : FnOk P w K mg base CX0 1 T.a_is_whole T.d_is_whole P_is_whole (sp_val isInt) := by
  refine T.F_is_whole.ok sc_is_whole (fun vs H Q E h => by obtain ⟨S, v, d, rfl, _⟩ := h; rfl) (fun cdv A outer s H vs Q E hr h => ?_)
  refine ⟨_, (pss_one (ps_ret (pe_and (pe_callB call_isi (by rfl) T.n_isinstance (by decide +kernel) (pa_cons (pv 0) (pa_cons (pe_bltn (v := .ty "int") (u := .type "int") (by rfl) T.n_int (by decide +kernel) rfl) pa_nil))) (pe_one (pe_not (pe_callB call_isi (by rfl) T.n_isinstance (by decide +kernel) (pa_cons (pv 0) (pa_cons (pe_bltn (v := .ty "bool") (u := .type "bool") (by rfl) T.n_bool (by decide +kernel) rfl) pa_nil)))))))), ?_⟩
  obtain ⟨S, v, d, rfl, hd, hv, q⟩ := h
  refine ⟨_, rfl, v, .ty "int", _, _, _, rfl, .ty _, hd.ty, kit_all K _ (by decide) _ (tyD_mem d), ?_⟩
  have q' := q H (Same.refl H)
  refine ⟨_, rfl, ite2 (fun e => ?_) (fun e => ?_)⟩
  · refine ⟨_, rfl, v, .ty "bool", _, _, _, rfl, .ty _, hd.ty, kit_all K _ (by decide) _ (tyD_mem d), _, rfl, ?_⟩
    unfold isInt isA at q'
    rw [e] at q'
    exact q'
  · unfold isInt isA at q'
    rw [Bool.not_eq_true] at e
    rw [e] at q'
    exact q'
end
end K02
set_option Elab.async false
set_option linter.all false
set_option maxRecDepth 100000
set_option maxHeartbeats 4000000
/-! k02: what the law takes for a name, an action. -/
namespace K02
open PySem PySem.Spec PyProof.Rows L2 Zg Zr Zd Zv
theorem len_in (n : Nat) : inV (.int (n : Int)) [.int 1, .int 2, .int 3, .int 4, .int 5, .int 6, .int 7, .int 8] = (decide (1 ≤ n) && decide (n ≤ 8)) := by
  by_cases h : n ≤ 8
  · match n, h with
    | 0, _ | 1, _ | 2, _ | 3, _ | 4, _ | 5, _ | 6, _ | 7, _ | 8, _ => rfl
  · rw [decide_eq_false h, Bool.and_false]
    refine List.any_eq_false.mpr fun v hv => ?_
    have ne : ∀ k : Int, k ≤ 8 → ¬ eqV (.int k) (.int (n : Int)) = true := fun k hk z => by
      have z' : k = (n : Int) := beq_iff_eq.mp z
      omega
    simp only [List.mem_cons, List.not_mem_nil, or_false] at hv
    rcases hv with rfl | rfl | rfl | rfl | rfl | rfl | rfl | rfl <;> exact ne _ (by decide)
section
variable {P : Program} {w : World} {K : PySem.W.Frag} {mg : PySem.Str → Option Value} {base : Heap}
theorem ok_w_is_name (T : Txt K mg) : FnOk P w K mg base CX0 1 T.a_w_is_name T.d_w_is_name P_w_is_name (sp_val isName) := by
  refine T.F_w_is_name.ok sc_w_is_name (fun vs H Q E h => by obtain ⟨S, v, d, rfl, _⟩ := h; rfl) (fun cdv A outer s H vs Q E hr h => ?_)
  refine ⟨_, (pss_cons (ps_if (PW.pt (pw_or (pt_not (pt_val (pe_callB call_isi (by rfl) T.n_isinstance (by decide +kernel) (pa_cons (pv 0) (pa_cons (pe_bltn (v := .ty "str") (u := .type "str") (by rfl) T.n_str (by decide +kernel) rfl) pa_nil))))) (pw_or1 (pt_cmpR op_notIn_seq (pe_callB call_len_str (by rfl) T.n_len (by decide +kernel) (pa_cons (pv 0) pa_nil)) (pe_tup (pa_cons pe_int (pa_cons pe_int (pa_cons pe_int (pa_cons pe_int (pa_cons pe_int (pa_cons pe_int (pa_cons pe_int (pa_cons pe_int pa_nil))))))))) (by rfl))))) (pss_one (ps_ret pe_bl)) pss_nil)
    (pss_one (ps_ret (pe_cmpR (op_eqE (Nat.lt_of_le_of_lt (Nat.le_add_right _ 64) hr.units)) (pe_lc (own := [("sign", 1)]) rfl sc_w_is_name.nd (pi_str (pv 0)) (blkOk_by (own := [("sign", 1)]) (N := N_w_is_name) (sc := defScope s_w_is_name) (by decide +kernel)) (fun _ _ _ _ _ => (pg_name (i := 1) sc_w_is_name.nd rfl (Or.inl rfl))) (fun _ _ _ _ _ => (pts_one (pt_cmpR op_notIn_sign (pv 1) pe_str rfl))) (fun _ _ _ _ _ => (pv 1))) (pe_lst pa_nil) (nomark _))))), ?_⟩
  obtain ⟨S, v, d, rfl, hd, hv, q⟩ := h
  refine ⟨_, rfl, v, .ty "str", _, _, _, rfl, .ty _, hd.ty, kit_all K _ (by decide) _ (tyD_mem d), _, rfl, ?_⟩
  have qF : ∀ {H1 : Hp}, Same H H1 → isName d = false → Q (.bl false) H1 := fun k e => by
    have q' := q _ k
    rw [e] at q'
    exact q'
  by_cases hs : isB "str" (tyD d) = true
  · rw [hs]
    obtain ⟨x, rfl, rfl⟩ := hd.text hs
    have hx : x.length ≤ 1000 := by
      have h' : (PyData.strOk x && decide (x.length ≤ 1000)) = true := hv
      rw [Bool.and_eq_true] at h'
      exact of_decide_eq_true h'.2
    refine iteF ?_
    refine ⟨_, rfl, x, rfl, by rw [sizeLine_eq]; omega, by show 8 ≤ sizeLine; decide, fun t0 n0 => ⟨t0, _, rfl, .inr (SqT.of upd_same), rfl, rfl, _, rfl, ?_⟩⟩
    have k0 := same_new (o := .tup [.int 1, .int 2, .int 3, .int 4, .int 5, .int 6, .int 7, .int 8]) n0
    generalize upd H t0 (.tup [.int 1, .int 2, .int 3, .int 4, .int 5, .int 6, .int 7, .int 8]) = H0 at k0 ⊢
    refine ite2 (fun e => ?_) (fun e => ?_)
    · have e : (!inV (.int (x.length : Int)) [.int 1, .int 2, .int 3, .int 4, .int 5, .int 6, .int 7, .int 8]) = true := e
      rw [len_in, Bool.not_eq_true'] at e
      refine qF k0 ?_
      show (decide (1 ≤ x.length) && decide (x.length ≤ 8) && x.cps.toList.all fun c => decide (c ∈ ABC)) = false
      rw [e]
      rfl
    · have e : ¬ (!inV (.int (x.length : Int)) [.int 1, .int 2, .int 3, .int 4, .int 5, .int 6, .int 7, .int 8]) = true := e
      rw [len_in, Bool.not_eq_true, Bool.not_eq_false', Bool.and_eq_true, decide_eq_true_iff, decide_eq_true_iff] at e
      obtain ⟨h1, h8⟩ := e
      have hd0 := hd
      refine ⟨_, rfl, x, rfl, fun D hD => ?_⟩
      refine lc_it (walk_str (z := x)) (fun i H' => Same H0 H' ∧ H' D = some (.lst (((x.cps.toList.take i).filter fun c => !decide (c ∈ ABC)).map fun c => V.str ⟨#[c]⟩))) ⟨same_new hD, upd_same⟩ (fun _ _ _ _ => True.intro) ?_ ?_
      · rintro i y H1 H2 hi ⟨k, hDl⟩ ⟨rfl, c, hc, rfl⟩
        have hc' : x.cps.toList[i]? = some c := by simpa using hc
        refine ⟨rfl, _, rfl, c, _, rfl, rfl, _, rfl, ite2 (fun e3 => ?_) (fun e3 => ?_)⟩
        · refine ⟨_, rfl, _, hDl, ?_, ?_, ?_⟩
          · rw [List.length_map, sizeLine_eq]
            have q1 := List.length_filter_le (fun c => !decide (c ∈ ABC)) (x.cps.toList.take i)
            rw [List.length_take] at q1
            have : x.cps.toList.length = x.length := by simp [PySem.Str.length]
            omega
          · exact fun b o eb => by rw [upd_ne (ne_of_none eb hD)]; exact k _ _ eb
          · have e4 : (!decide (c ∈ ABC)) = true := e3
            rw [upd_same, List.take_succ, hc', List.filter_append, List.map_append]
            show some (HO.lst (_ ++ [V.str ⟨#[c]⟩])) = some (HO.lst (_ ++ List.map _ (List.filter _ [c])))
            rw [List.filter_cons_of_pos (p := fun c => !decide (c ∈ ABC)) e4]
            rfl
        · have e4 : ¬ (!decide (c ∈ ABC)) = true := e3
          refine ⟨k, ?_⟩
          rw [List.take_succ, hc', List.filter_append, List.map_append]
          show _ = some (HO.lst (_ ++ List.map _ (List.filter _ [c])))
          rw [List.filter_cons_of_neg (p := fun c => !decide (c ∈ ABC)) e4, List.filter_nil, List.map_nil, List.append_nil]
          exact hDl
      · rintro H1 ⟨k, hDl⟩
        refine ⟨by show 0 ≤ sizeLine; decide, fun p hp => ⟨D, p, _, rfl, rfl, .inl ⟨SqL.of (same_new hp _ _ hDl), SqL.of upd_same⟩, ?_⟩⟩
        have q' := q _ ((k0.trans k).trans (same_new (o := .lst []) hp))
        have e3 : isName (.str x) = List.isEmpty (((x.cps.toList.take x.cps.size).filter fun c => !decide (c ∈ ABC)).map fun c => V.str ⟨#[c]⟩) := by
          show (decide (1 ≤ x.length) && decide (x.length ≤ 8) && x.cps.toList.all fun c => decide (c ∈ ABC)) = _
          rw [decide_eq_true h1, decide_eq_true h8, show x.cps.size = x.cps.toList.length by simp, List.take_length]
          generalize x.cps.toList = zs
          induction zs with
          | nil => rfl
          | cons z zs ih =>
            by_cases hz : z ∈ ABC
            · rw [List.filter_cons_of_neg (p := fun c => !decide (c ∈ ABC)) (by rw [decide_eq_true hz]; decide), ← ih, List.all_cons, decide_eq_true hz]
              rfl
            · rw [List.filter_cons_of_pos (p := fun c => !decide (c ∈ ABC)) (by rw [decide_eq_false hz]; rfl), List.all_cons, decide_eq_false hz]
              rfl
        rw [e3] at q'
        exact q'
  · have e : isB "str" (tyD d) = false := by rw [Bool.not_eq_true] at hs; exact hs
    rw [e]
    refine iteT (iteT (qF (Same.refl H) ?_))
    cases d with
    | str x => exact absurd rfl hs
    | _ => rfl
end
end K02
set_option Elab.async false
set_option linter.all false
set_option maxRecDepth 100000
set_option maxHeartbeats 4000000
/-! k02: what the law takes for an action. -/
namespace K02
open PySem PySem.Spec PyProof.Rows L2 Zg Zr Zd Zv
section
variable {P : Program} {w : World} {K : PySem.W.Frag} {mg : PySem.Str → Option Value} {base : Heap}
theorem isMv_whole {n : Int} {d : PyData} (h : d ≠ .none) : isMv n d = isSt n d := by
  cases d with
  | none => exact absurd rfl h
  | _ => rfl
theorem ok_w_is_action (T : Txt K mg) : FnOk P w K mg base CX0 2 T.a_w_is_action T.d_w_is_action P_w_is_action sp_action := by
  refine T.F_w_is_action.ok sc_w_is_action (fun vs H Q E h => by obtain ⟨n, S, v, d, rfl, _⟩ := h; rfl) (fun cdv A outer s H vs Q E hr h => ?_)
  refine ⟨_, (pss_cons (ps_if (PW.pt (pw_or (pt_not (pt_val (pe_callB call_isi (by rfl) T.n_isinstance (by decide +kernel) (pa_cons (pv 1) (pa_cons (pe_bltn (v := .ty "tuple") (u := .type "tuple") (by rfl) T.n_tuple (by decide +kernel) rfl) pa_nil))))) (pw_or (pt_cmpR op_ne (pe_callB call_len_seq (by rfl) T.n_len (by decide +kernel) (pa_cons (pv 1) pa_nil)) pe_int (nomark _)) (pw_or1 (pt_not (pt_val (pe_call (ok_w_is_name T) (hr.mono (by decide)) (by rfl) T.g_w_is_name T.F_w_is_name.kp T.b_w_is_name .nil pass0 (pa_cons (pe_ix ix_tup (pv 1) pe_int (fun _ _ => rfl)) pa_nil)))))))) (pss_one (ps_ret pe_bl)) pss_nil)
    (pss_cons (ps_if (pt_not (pt_val (pe_callB call_isi (by rfl) T.n_isinstance (by decide +kernel) (pa_cons (pe_ix ix_tup (pv 1) pe_int (fun _ _ => rfl)) (pa_cons (pe_bltn (v := .ty "tuple") (u := .type "tuple") (by rfl) T.n_tuple (by decide +kernel) rfl) pa_nil))))) (pss_one (ps_ret pe_bl)) pss_nil)
    (pss_cons (ps_setLc (i := 2) (own := [("then", 3)]) rfl sc_w_is_action.nd rfl rfl (sw_true rfl rfl rfl (by decide +kernel)) (pi_tup (pe_ix ix_tup (pv 1) pe_int (fun _ _ => rfl))) (blkOk_by (own := [("then", 3)]) (N := N_w_is_action) (sc := defScope s_w_is_action) (by decide +kernel)) (fun _ _ _ _ _ => (pg_name (i := 3) sc_w_is_action.nd rfl (Or.inl rfl))) (fun _ _ _ _ _ => (pts_one (PW.pt (pw_and (pt_cmpR op_notN (pv 3) pe_non (nomark _)) (pw_and1 (pt_not (PW.pt (pw_and (pt_val (pe_call (ok_is_whole T) (hr.mono (by decide)) (by rfl) T.g_is_whole T.F_is_whole.kp T.b_is_whole .nil pass0 (pa_cons (pv 3) pa_nil))) (pw_and1 (pt_chain op_le op_lt pe_int (pv 3) (pv 0))))))))))) (fun _ _ _ _ _ => (pv 3)))
    (pss_one (ps_ret (pe_and (pe_cmpR op_eq (pe_callB call_len_seq (by rfl) T.n_len (by decide +kernel) (pa_cons (pe_ix ix_tup (pv 1) pe_int (fun _ _ => rfl)) pa_nil)) (pv 0) (nomark _)) (pe_one (pe_cmpR (op_eqE (Nat.lt_of_le_of_lt (Nat.le_add_right _ 64) hr.units)) (pv 2) (pe_lst pa_nil) (nomark _))))))))), ?_⟩
  obtain ⟨n, S, v, d, rfl, hd, hv, q⟩ := h
  have qF : isAct n d = false → ∀ H', Same H H' → Q (.bl false) H' := fun e H' k => by
    have q' := q H' k
    rw [e] at q'
    exact q'
  refine ⟨_, rfl, v, .ty "tuple", _, _, _, rfl, .ty _, hd.ty, kit_all K _ (by decide) _ (tyD_mem d), _, rfl, ?_⟩
  by_cases e : isA "tuple" d = true
  · obtain ⟨a, xs, ds, rfl, rfl, ha, _, hx⟩ := hd.tuple e
    obtain ⟨hl, hok⟩ := okv_tup hv
    have hxl := hx.length
    refine iteF ?_
    refine ⟨_, rfl, a, _, rfl, .inr (SqT.of ha), rfl, _, rfl, ite2 (fun e2 => ?_) (fun e2 => ?_)⟩
    · exact iteT (qF (isAct_not fun h => ne_len.mp e2 (hxl.trans h)) H (Same.refl H))
    · have e3 : xs.length = 2 := Decidable.byContradiction fun h => e2 (ne_len.mpr h)
      obtain ⟨nm, mv, rfl⟩ := two_of (hxl.symm.trans e3)
      cases hx with
      | @cons v0 vs0 _ _ h0 hx =>
      cases hx with
      | @cons v1 vs1 _ _ h1 hx =>
      cases hx
      refine ⟨_, rfl, a, _, 0, _, rfl, rfl, SqT.of ha, atI_nat (j := 0) rfl, S, v0, nm, rfl, h0, hok nm (by simp), fun H1 k1 => ⟨_, rfl, ?_⟩⟩
      have ha1 := k1 _ _ ha
      have h1' := h1.kp (Kp.of k1)
      cases e4 : isName nm with
      | false =>
        refine iteT (qF ?_ H1 k1)
        cases mv with
        | tuple ms => show (isName nm && _ && _) = false; rw [e4]; rfl
        | _ => rfl
      | true =>
        refine iteF ?_
        refine ⟨_, rfl, a, _, 1, _, rfl, rfl, SqT.of ha1, atI_nat (j := 1) rfl, v1, .ty "tuple", _, _, _, rfl, .ty _, h1'.ty, kit_all K _ (by decide) _ (tyD_mem mv), _, rfl, ?_⟩
        by_cases e5 : isA "tuple" mv = true
        · obtain ⟨b, ys, ms, rfl, rfl, hb, _, hy⟩ := h1'.tuple e5
          obtain ⟨hl2, hok2⟩ := okv_tup (hok (.tuple ms) (by simp))
          have hyl := hy.length
          have eA : isAct n (.tuple [nm, .tuple ms]) = (decide ((ms.length : Int) = n) && ms.all (isMv n)) := by
            show (isName nm && _ && _) = _
            rw [e4]; rfl
          refine iteF ?_
          refine ⟨_, rfl, a, _, 1, _, rfl, rfl, SqT.of ha1, atI_nat (j := 1) rfl, b, rfl, ⟨_, SqT.of hb⟩, fun D hD => ?_⟩
          refine lc_tup (K := K) (a := b) (xs := ys) (fun i H' => ∃ acc : List V, Same H1 H' ∧ H' D = some (.lst acc) ∧ acc.length ≤ i ∧ acc.isEmpty = (ms.take i).all (isMv n)) ⟨[], same_new hD, upd_same, Nat.le_refl 0, rfl⟩ (fun i H' _ ⟨_, p, _⟩ => SqT.of (p _ _ hb)) ?_ ?_
          · rintro i x H2 hi ⟨acc, k, hDl, hal, hae⟩
            obtain ⟨d, hdi, hdx⟩ := hy.get hi
            have hil : i < ms.length := (List.getElem?_eq_some_iff.mp hdi).1
            have tk : (ms.take (i + 1)).all (isMv n) = ((ms.take i).all (isMv n) && isMv n d) := by
              rw [List.take_succ, hdi, List.all_append]
              show _ = (_ && isMv n d)
              congr 1
              show (isMv n d && true) = isMv n d
              rw [Bool.and_true]
            have skip : ∀ H3, Same H2 H3 → isMv n d = true → ∃ acc : List V, Same H1 H3 ∧ H3 D = some (.lst acc) ∧ acc.length ≤ i + 1 ∧ acc.isEmpty = (ms.take (i + 1)).all (isMv n) := fun H3 k3 e => ⟨acc, k.trans k3, k3 _ _ hDl, by omega, by rw [tk, e, Bool.and_true]; exact hae⟩
            have put : ∀ H3, Same H2 H3 → isMv n d = false → ∃ ac, H3 D = some (.lst ac) ∧ ac.length < sizeLine ∧ ∃ acc : List V, Same H1 (upd H3 D (.lst (ac ++ [x]))) ∧ (upd H3 D (.lst (ac ++ [x]))) D = some (.lst acc) ∧ acc.length ≤ i + 1 ∧ acc.isEmpty = (ms.take (i + 1)).all (isMv n) := fun H3 k3 e => by
              refine ⟨acc, k3 _ _ hDl, by rw [sizeLine_eq]; omega, acc ++ [x], fun b o eb => ?_, upd_same, by rw [List.length_append, List.length_singleton]; omega, ?_⟩
              · rw [upd_ne (ne_of_none eb hD)]
                exact k3 _ _ (k _ _ eb)
              · rw [tk, e, Bool.and_false]
                cases acc <;> rfl
            refine ⟨rfl, _, rfl, rfl, _, rfl, ?_⟩
            by_cases e8 : d = .none
            · subst e8
              cases hdx
              exact skip H2 (Same.refl H2) rfl
            · have ex : ¬ x = V.non := fun e => by
                subst e
                cases hdx
                exact e8 rfl
              rw [decide_eq_false ex]
              have em : isMv n d = isSt n d := isMv_whole e8
              refine ⟨_, rfl, S, x, d, rfl, hdx.kp (Kp.of k), hok2 d (List.mem_of_getElem? hdi), fun H3 k3 => ⟨_, rfl, ?_⟩⟩
              cases e9 : isInt d with
              | false =>
                have e10 : isSt n d = false := by
                  cases d with
                  | int i => cases e9
                  | _ => rfl
                exact ⟨_, rfl, put H3 k3 (em.trans e10)⟩
              | true =>
                obtain ⟨j, rfl⟩ : ∃ j, d = .int j := by
                  cases d with
                  | int j => exact ⟨j, rfl⟩
                  | _ => cases e9
                cases hdx
                have e10 : isSt n (.int j) = (decide (0 ≤ j) && decide (j < n)) := rfl
                refine ⟨_, rfl, _, _, rfl, rfl, _, rfl, ite2 (fun h => ?_) (fun h => ?_)⟩
                · refine ⟨_, rfl, _, _, rfl, rfl, _, rfl, ?_⟩
                  have h0 : decide (0 ≤ j) = true := h
                  cases e11 : decide (j < n) with
                  | true => exact skip H3 k3 (by rw [em, e10, h0, e11]; rfl)
                  | false => exact ⟨_, rfl, put H3 k3 (by rw [em, e10, h0, e11]; rfl)⟩
                · have h0 : decide (0 ≤ j) = false := by simpa using h
                  exact ⟨_, rfl, _, rfl, put H3 k3 (by rw [em, e10, h0]; rfl)⟩
          · rintro H2 ⟨acc, k, hDl, hal, hae⟩
            rw [hyl, List.take_length] at hae
            have q' := q H2 (k1.trans k)
            rw [eA] at q'
            refine ⟨_, rfl, a, _, 1, _, rfl, rfl, SqT.of (k _ _ ha1), atI_nat (j := 1) rfl, b, _, rfl, .inr (SqT.of (k _ _ hb)), _, rfl, rfl, _, rfl, ite2 (fun e6 => ?_) (fun e6 => ?_)⟩
            · have e7 : (ms.length : Int) = n := by
                have e6 := of_decide_eq_true e6
                injection e6 with e6
                rw [← hyl]
                exact e6
              refine ⟨_, rfl, by show 0 ≤ sizeLine; decide, fun p hp => ⟨D, p, acc, rfl, rfl, .inl ⟨SqL.of (same_new hp _ _ hDl), SqL.of upd_same⟩, ?_⟩⟩
              have q2 := q _ ((k1.trans k).trans (same_new (o := .lst []) hp))
              rw [eA, decide_eq_true e7, Bool.true_and, ← hae] at q2
              exact q2
            · have e7 : ¬ (ms.length : Int) = n := fun z => e6 (decide_eq_true (by rw [← hyl] at z; rw [z]))
              rw [decide_eq_false e7, Bool.false_and] at q'
              exact q'
        · have e6 : isB "tuple" (tyD mv) = false := by rw [Bool.not_eq_true] at e5; exact e5
          rw [e6]
          refine iteT (qF ?_ H1 k1)
          cases mv with
          | tuple ms => exact absurd rfl e5
          | _ => rfl
  · have e6 : isB "tuple" (tyD d) = false := by rw [Bool.not_eq_true] at e; exact e
    rw [e6]
    refine iteT (iteT (qF ?_ H (Same.refl H)))
    cases d with
    | tuple ds => exact absurd rfl e
    | _ => rfl
end
end K02
set_option Elab.async false
set_option linter.all false
set_option maxRecDepth 100000
set_option maxHeartbeats 4000000
/-! k02: what the law takes for a fault. -/
namespace K02
open PySem PySem.Spec PyProof.Rows L2 Zg Zr Zd Zv
section
variable {K : PySem.W.Frag} {S : List Addr} {H : Hp} {Q : VK} {a : Addr} {xs : List V}
theorem sl_from (tr : Trk S H) (na : a ∉ S) (ha : H a = some (.tup xs)) {n : Int} {k : Nat} (hn : n = (k : Int)) (q : ∀ (H' : Hp) (p : Addr), Same H H' → H' p = some (.tup (xs.drop k)) → p ∉ S → Q (.ref p) H') : rSlA K (.ref a) (some n) none H Q :=
  slA_from hn ha fun H' p k hp h => q H' p k hp (by
    rcases h with rfl | h
    · exact na
    · exact tr.out h)
theorem sl_to (tr : Trk S H) (na : a ∉ S) (ha : H a = some (.tup xs)) {n : Int} {k : Nat} (hn : n = (k : Int)) (q : ∀ (H' : Hp) (p : Addr), Same H H' → H' p = some (.tup (xs.take k)) → p ∉ S → Q (.ref p) H') : rSlA K (.ref a) none (some n) H Q := by
  subst hn
  refine ⟨a, xs, rfl, SqT.of ha, fun hw => ?_, fun hw p hp => ?_⟩
  · have h1 := hw.2
    rw [HT.sIx_nat] at h1
    refine q H a (Same.refl H) ?_ na
    rw [List.take_of_length_le (by omega)]
    exact ha
  · refine q _ p (same_new hp) ?_ (tr.out hp)
    rw [upd_same]
    by_cases hk : k ≤ xs.length
    · rw [cut_to xs k hk]
    · refine absurd ⟨rfl, ?_⟩ hw
      rw [HT.sIx_nat]
      omega
end
theorem size_in {n : Int} : inV (.int n) [.int 1, .int 2, .int 3] = isSz (.int n) := by
  show (_ : Bool) = (decide (1 ≤ n) && decide (n ≤ 3))
  rw [Bool.eq_iff_iff, Bool.and_eq_true, decide_eq_true_iff, decide_eq_true_iff]
  constructor
  · intro h
    obtain ⟨v, hv, e⟩ := List.any_eq_true.mp h
    simp only [List.mem_cons, List.not_mem_nil, or_false] at hv
    rcases hv with rfl | rfl | rfl
    · have : (1 : Int) = n := beq_iff_eq.mp e
      omega
    · have : (2 : Int) = n := beq_iff_eq.mp e
      omega
    · have : (3 : Int) = n := beq_iff_eq.mp e
      omega
  · rintro ⟨h1, h2⟩
    obtain rfl | rfl | rfl : n = 1 ∨ n = 2 ∨ n = 3 := by omega
    · rfl
    · rfl
    · rfl
theorem asc_take : ∀ (l : List Int) (j : Nat) (x y : Int), l[j]? = some x → l[j + 1]? = some y → asc (l.take (j + 2)) = (asc (l.take (j + 1)) && decide (x < y))
  | [], j, x, y, h, _ => by cases h
  | [a], j, x, y, _, h => by cases j <;> cases h
  | a :: b :: r, 0, x, y, h1, h2 => by
    cases h1
    cases h2
    show (decide (a < b) && asc [b]) = (asc [a] && decide (a < b))
    rw [show asc [b] = true from rfl, show asc [a] = true from rfl, Bool.and_true, Bool.true_and]
  | a :: b :: r, j + 1, x, y, h1, h2 => by
    have ih := asc_take (b :: r) j x y h1 h2
    show (decide (a < b) && asc ((b :: r).take (j + 2))) = ((decide (a < b) && asc ((b :: r).take (j + 1))) && decide (x < y))
    rw [ih, Bool.and_assoc]
theorem row_at {S : List Addr} {H : Hp} {x : V} {nm : PySem.Str} {e : PyData} (h : Dv S H x (.tuple [.str nm, e])) : ∃ p m, x = .ref p ∧ H p = some (.tup [.str nm, m]) := by
  cases h with
  | tup h1 h2 h3 =>
    cases h3 with
    | cons h4 h5 =>
      cases h4
      cases h5 with
      | cons h6 h7 =>
        cases h7
        exact ⟨_, _, rfl, h1⟩
theorem in_names {nm : PySem.Str} {ns : List PySem.Str} : inV (.str nm) (ns.map V.str) = decide (nm ∈ ns) := by
  rw [Bool.eq_iff_iff, decide_eq_true_iff]
  unfold inV
  rw [List.any_eq_true]
  constructor
  · rintro ⟨v, hv, e⟩
    obtain ⟨z, hz, rfl⟩ := List.mem_map.mp hv
    have e' : z = nm := beq_iff_eq.mp e
    rw [← e']
    exact hz
  · intro h
    exact ⟨.str nm, List.mem_map.mpr ⟨nm, h, rfl⟩, beq_iff_eq.mpr rfl⟩
theorem flt_size {sd ad rd : PyData} (h : isSz sd = false) : flt sd ad rd = some (.str "size") := by
  unfold flt
  rw [if_neg (by rw [h]; exact Bool.false_ne_true)]
theorem flt_act {sd ad rd : PyData} (h : isSz sd = true) (h2 : isA "tuple" ad = false) : flt sd ad rd = some (.str "actions") := by
  unfold flt
  rw [if_pos h]
  cases ad with
  | tuple ds => cases h2
  | _ => rfl
theorem flt_tup {n : Int} {ds : List PyData} {rd : PyData} (h : isSz (.int n) = true) : flt (.int n) (.tuple ds) rd = chk (.int n) ds rd := by
  unfold flt
  rw [if_pos h]
theorem flt_row {n : Int} {ds : List PyData} {rd d : PyData} (h : isSz (.int n) = true) (h2 : badRow n [] ds = some d) : flt (.int n) (.tuple ds) rd = some d := by
  rw [flt_tup h, chk_int, if_pos h, h2]
theorem flt_rest {n : Int} {ds : List PyData} {rd : PyData} (h : isSz (.int n) = true) (h2 : badRow n [] ds = none) : flt (.int n) (.tuple ds) rd = if areStates n rd = true then none else some (.str "resting") := by
  rw [flt_tup h, chk_int, if_pos h, h2]
section
variable {P : Program} {w : World} {K : PySem.W.Frag} {mg : PySem.Str → Option Value} {base : Heap}
def sp_fault : Sp := fun vs H Q _ => ∃ (S : List Addr) (sv av r : V) (sd ad rd : PyData), vs = [sv, av, r] ∧ Dv S H sv sd ∧ Zv.okv sd = true ∧ Dv S H av ad ∧ Zv.okv ad = true ∧ (rows ad).length ≤ 20 ∧ Dv S H r rd ∧ Zv.okv rd = true ∧
  ∀ (H' : Hp) (p : Addr) (ws : List V), Same H H' → H p = none → H' p = some (.lst ws) → DvAll S H' ws (flt sd ad rd).toList → Q (.ref p) H'
theorem ok_fault (T : Txt K mg) : FnOk P w K mg base CX0 3 T.a_fault T.d_fault P_fault sp_fault := by
  refine T.F_fault.ok sc_fault (fun vs H Q E h => by obtain ⟨S, sv, av, r, sd, ad, rd, rfl, _⟩ := h; rfl) (fun cdv A outer s H vs Q E hr h => ?_)
  refine ⟨_, (pss_cons (ps_if (PW.pt (pw_or (pt_not (pt_val (pe_call (ok_is_whole T) (hr.mono (by decide)) (by rfl) T.g_is_whole T.F_is_whole.kp T.b_is_whole .nil pass0 (pa_cons (pv 0) pa_nil)))) (pw_or1 (pt_cmpR op_notIn_seq (pv 0) (pe_tup (pa_cons pe_int (pa_cons pe_int (pa_cons pe_int pa_nil)))) (by rfl))))) (pss_one (ps_ret (pe_lst (pa_cons pe_str pa_nil)))) pss_nil)
    (pss_cons (ps_if (pt_not (pt_val (pe_callB call_isi (by rfl) T.n_isinstance (by decide +kernel) (pa_cons (pv 1) (pa_cons (pe_bltn (v := .ty "tuple") (u := .type "tuple") (by rfl) T.n_tuple (by decide +kernel) rfl) pa_nil))))) (pss_one (ps_ret (pe_lst (pa_cons pe_str pa_nil)))) pss_nil)
    (pss_cons (ps_for PassesOwn.never rfl (Xn.pi_enumT (by rfl) T.n_enumerate (pa_cons (pv 1) pa_nil)) (pg_tup (by rfl) (pgs_cons (pg_name (i := 3) sc_fault.nd rfl (Or.inl rfl)) (pgs_cons (pg_name (i := 4) sc_fault.nd rfl (Or.inl rfl)) pgs_nil))) (pss_one (ps_if (PW.pt (pw_or (pt_not (pt_val (pe_call (ok_w_is_action T) (hr.mono (by decide)) (by rfl) T.g_w_is_action T.F_w_is_action.kp T.b_w_is_action .nil pass0 (pa_cons (pv 0) (pa_cons (pv 4) pa_nil))))) (pw_or1 (pt_cmpR op_in_seq (pe_ix ix_tup (pv 4) pe_int (fun _ _ => rfl)) (pe_lc (own := [("other", 5)]) rfl sc_fault.nd (pi_tup (pe_slice sl_tupA (pv 1) po_none (po_some (pv 3)))) (blkOk_by (own := [("other", 5)]) (N := N_fault) (sc := defScope s_fault) (by decide +kernel)) (fun _ _ _ _ _ => (pg_name (i := 5) sc_fault.nd rfl (Or.inl rfl))) (fun _ _ _ _ _ => pts_nil) (fun _ _ _ _ _ => (pe_ix (show IxR _ (rIxT K) from ix_tup) (pv 5) pe_int (fun _ _ => rfl)))) (by rfl))))) (pss_one (ps_ret (pe_lst (pa_cons (pv 4) pa_nil)))) pss_nil)))
    (pss_cons (ps_if (pt_not (pt_val (pe_callB call_isi (by rfl) T.n_isinstance (by decide +kernel) (pa_cons (pv 2) (pa_cons (pe_bltn (v := .ty "tuple") (u := .type "tuple") (by rfl) T.n_tuple (by decide +kernel) rfl) pa_nil))))) (pss_one (ps_ret (pe_lst (pa_cons pe_str pa_nil)))) pss_nil)
    (pss_cons (ps_if (pt_cmpR (op_neE (Nat.lt_of_le_of_lt (Nat.le_add_right _ 64) hr.units)) (pe_lc (own := [("one", 6)]) rfl sc_fault.nd (pi_tup (pv 2)) (blkOk_by (own := [("one", 6)]) (N := N_fault) (sc := defScope s_fault) (by decide +kernel)) (fun _ _ _ _ _ => (pg_name (i := 6) sc_fault.nd rfl (Or.inl rfl))) (fun _ _ _ _ _ => (pts_one (pt_not (PW.pt (pw_and (pt_val (pe_call (ok_is_whole T) (hr.mono (by decide)) (by rfl) T.g_is_whole T.F_is_whole.kp T.b_is_whole .nil pass0 (pa_cons (pv 6) pa_nil))) (pw_and1 (pt_chain op_le op_lt pe_int (pv 6) (pv 0)))))))) (fun _ _ _ _ _ => (pv 6))) (pe_lst pa_nil) (nomark _)) (pss_one (ps_ret (pe_lst (pa_cons pe_str pa_nil)))) pss_nil)
    (pss_cons (ps_setLc (i := 7) (own := [("k", 3)]) rfl sc_fault.nd rfl rfl (sw_true rfl rfl rfl (by decide +kernel)) (pi_range2 (by rfl) T.n_range (pa_cons pe_int (pa_cons (pe_callB call_len_seq (by rfl) T.n_len (by decide +kernel) (pa_cons (pv 2) pa_nil)) pa_nil))) (blkOk_by (own := [("k", 3)]) (N := N_fault) (sc := defScope s_fault) (by decide +kernel)) (fun _ _ _ _ _ => (pg_name (i := 3) sc_fault.nd rfl (Or.inl rfl))) (fun _ _ _ _ _ => (pts_one (pt_cmpR op_le (pe_ix (show IxR _ (rIxT K) from ix_tup) (pv 2) (pv 3) (fun _ _ => rfl)) (pe_ix (show IxR _ (rIxT K) from ix_tup) (pv 2) (pe_op op_sub (pv 3) pe_int) (fun _ _ => rfl)) (nomark _)))) (fun _ _ _ _ _ => (pv 3)))
    (pss_one (ps_ret (pe_ifExp (pt_cmpR (op_neE (Nat.lt_of_le_of_lt (Nat.le_add_right _ 64) hr.units)) (pv 7) (pe_lst pa_nil) (nomark _)) (pe_lst (pa_cons pe_str pa_nil)) (pe_lst pa_nil)))))))))), ?_⟩
  obtain ⟨S, sv, av, r, sd, ad, rd, rfl, hsv, osv, hav, oav, h20, hrd, ord, q⟩ := h
  have ret1 : ∀ (H1 : Hp) (v : V) (f : PyData), Same H H1 → flt sd ad rd = some f → Dv S H1 v f → ∀ p, H1 p = none → Q (.ref p) (upd H1 p (.lst [v])) := fun H1 v f k e hv p hp =>
    q _ p [v] (k.trans (same_new hp)) (k.free hp) upd_same (by rw [e]; exact .cons (hv.kp (Kp.new hp)) .nil)
  refine ⟨_, rfl, S, sv, sd, rfl, hsv, osv, fun H1 k1 => ⟨_, rfl, ?_⟩⟩
  cases hI : isInt sd with
  | false =>
    have hz : isSz sd = false := by
      cases sd with
      | int i => cases hI
      | _ => rfl
    refine iteT (iteT ⟨by show 1 ≤ sizeLine; decide, ret1 H1 (.str "size") (.str "size") k1 (flt_size hz) (.str _)⟩)
  | true =>
    obtain ⟨n, rfl⟩ : ∃ n, sd = .int n := by
      cases sd with
      | int n => exact ⟨n, rfl⟩
      | _ => cases hI
    cases hsv
    refine iteF ?_
    refine ⟨_, rfl, by show 3 ≤ sizeLine; decide, fun t0 n0 => ⟨t0, _, rfl, .inr (SqT.of upd_same), rfl, rfl, _, rfl, ?_⟩⟩
    have k2 := k1.trans (same_new (o := .tup [.int 1, .int 2, .int 3]) n0)
    generalize upd H1 t0 (.tup [.int 1, .int 2, .int 3]) = H2 at k2 ⊢
    show if (!inV (.int n) [.int 1, .int 2, .int 3]) = true then _ else _
    rw [size_in]
    cases hz : isSz (.int n) with
    | false =>
      refine iteT ⟨by show 1 ≤ sizeLine; decide, ret1 H2 (.str "size") (.str "size") k2 (flt_size hz) (.str _)⟩
    | true =>
      refine iteF ?_
      refine ⟨_, rfl, av, .ty "tuple", _, _, _, rfl, .ty _, (hav.kp (Kp.of k2)).ty, kit_all K _ (by decide) _ (tyD_mem ad), _, rfl, ?_⟩
      by_cases ht : isA "tuple" ad = true
      · obtain ⟨a, xs, ds, rfl, rfl, ha, nS, hx⟩ := hav.tuple ht
        rw [show isB "tuple" (tyD (.tuple ds)) = true from rfl]
        refine iteF ?_
        have ha2 := k2 _ _ ha
        have hx2 := hx.kp (Kp.of k2)
        have hxl := hx.length
        have od : okvAll ds = true := by
          have o' : (decide (ds.length ≤ 1000) && okvAll ds) = true := oav
          rw [Bool.and_eq_true] at o'
          exact o'.2
        have h20' : ds.length ≤ 20 := h20
        refine ⟨_, rfl, a, xs, rfl, SqT.of ha2, ?_⟩
        refine for_it (Xn.walk_enumT (K := K) (a := a) (xs := xs)) (fun i σ H' => ∃ (y3 y4 : Option V) (ns : List PySem.Str), σ = [some (.int n), some (.ref a), some r, y3, y4, none, none, none] ∧ Same H2 H' ∧ ns.length = i ∧ ns = (ds.take i).map nmOf ∧ (∀ d ∈ ds.take i, isAct n d = true) ∧ badRow n [] ds = badRow n ns (ds.drop i))
          ⟨none, none, [], rfl, Same.refl _, rfl, rfl, (fun d hd => nomatch hd), rfl⟩ (fun i σ H' _ ⟨_, _, _, _, k, _⟩ => SqT.of (k _ _ ha2)) ?_ ?_
        · rintro i x0 σ H3 H4 hi ⟨y3, y4, ns, rfl, k3, hnl, hns, hpre, hb⟩ ⟨Tp, v1, x, rfl, hTn, rfl, hk, hxv⟩
          obtain rfl : v1 = .int (i : Nat) := (Option.some.inj hk).symm
          refine ⟨Tp, _, rfl, SqT.of upd_same, rfl, _, _, rfl, _, _, rfl, rfl, ?_⟩
          have k4 : Same H2 (upd H3 Tp (.tup [.int (i : Nat), x])) := k3.trans (same_new hTn)
          generalize upd H3 Tp (.tup [.int (i : Nat), x]) = H4 at k4 ⊢
          obtain ⟨d, hdi, hdx⟩ := hx2.get hxv
          obtain ⟨hil, hde⟩ := List.getElem?_eq_some_iff.mp hdi
          have hdrop : ds.drop i = d :: ds.drop (i + 1) := by rw [← hde, List.getElem_cons_drop]
          rw [hdrop] at hb
          have hb' := hb
          have od1 : Zv.okv d = true := okvAll_iff.mp od d (List.mem_of_getElem? hdi)
          refine ⟨_, rfl, _, rfl, n, S, x, d, rfl, hdx.kp (Kp.of k4), od1, fun H5 k5 => ⟨_, rfl, ?_⟩⟩
          have k25 := k4.trans k5
          have hd5 := hdx.kp (Kp.of k25)
          have bad : badRow n ns (d :: ds.drop (i + 1)) = some d → flt (.int n) (.tuple ds) rd = some d := fun e2 => flt_row hz (hb.trans e2)
          cases hA : isAct n d with
          | false =>
            exact iteT (iteT ⟨_, rfl, by show 1 ≤ sizeLine; decide, ret1 H5 x d (k2.trans k25) (bad (by rw [badRow_cons, if_neg (fun z => by rw [hA] at z; exact Bool.false_ne_true z.1)])) hd5⟩)
          | true =>
            refine iteF ?_
            obtain ⟨nm, ms, rfl, hnm⟩ := isAct_shape hA
            obtain ⟨p, m, rfl, hp⟩ : ∃ p m, x = .ref p ∧ H2 p = some (.tup [.str nm, m]) := row_at hdx
            refine ⟨_, rfl, p, _, 0, _, rfl, rfl, SqT.of (k25 _ _ hp), atI_nat (j := 0) rfl, ?_⟩
            refine ⟨_, rfl, ?_⟩
            dsimp only [tNoPart]
            refine ⟨_, rfl, (i : Int), rfl, ?_⟩
            refine sl_to (S := []) (K := K) (k := i) (fun _ h => nomatch h) List.not_mem_nil (k25 _ _ ha2) rfl fun H6 b k6 hb _ => ?_
            refine ⟨b, rfl, ⟨_, SqT.of hb⟩, fun D hD => ?_⟩
            have k26 := k25.trans k6
            have hil' : i ≤ ds.length := Nat.le_of_lt hil
            have inl : ∀ b' o', H2 b' = some o' → b' ≠ D := fun b' o' e => ne_of_none (k26 _ _ e) hD
            refine lc_tup (K := K) (a := b) (xs := xs.take i) (fun j H' => Same H6 H' ∧ H' D = some (.lst ((ns.take j).map V.str))) ⟨same_new hD, upd_same⟩ (fun j H' _ p => SqT.of (p.1 _ _ hb)) ?_ ?_
            · rintro j y H7 hj ⟨k7, hDl⟩
              have hji : j < i := by
                have := (List.getElem?_eq_some_iff.mp hj).1
                rw [List.length_take] at this
                omega
              rw [List.getElem?_take_of_lt hji] at hj
              obtain ⟨d', hd'i, hd'x⟩ := hx2.get hj
              have hd'm : d' ∈ ds.take i := List.mem_of_getElem? (i := j) (by rw [List.getElem?_take_of_lt hji]; exact hd'i)
              obtain ⟨nm', ms', rfl, hnm'⟩ := isAct_shape (hpre d' hd'm)
              obtain ⟨p', m', rfl, hp'⟩ : ∃ p m, y = .ref p ∧ H2 p = some (.tup [.str nm', m]) := row_at hd'x
              have hnj : ns[j]? = some nm' := by
                rw [hns, List.getElem?_map, List.getElem?_take_of_lt hji, hd'i]
                exact congrArg some hnm'
              refine ⟨rfl, _, rfl, p', _, 0, _, rfl, rfl, SqT.of (k7 _ _ (k26 _ _ hp')), atI_nat (j := 0) rfl, _, hDl, ?_, ?_, ?_⟩
              · rw [List.length_map, List.length_take, sizeLine_eq]
                omega
              · exact fun b' o' eb => by
                  rw [upd_ne (ne_of_none eb hD)]
                  exact k7 _ _ eb
              · rw [upd_same, List.take_succ, hnj, List.map_append]
                rfl
            · rintro H7 ⟨k7, hDl⟩
              rw [List.length_take, hxl, Nat.min_eq_left hil', List.take_of_length_le (by omega)] at hDl
              refine ⟨D, _, rfl, .inl (SqL.of hDl), rfl, ?_, _, rfl, ?_⟩
              · rw [List.all_map]
                exact List.all_eq_true.mpr fun _ _ => rfl
              rw [in_names]
              have k27 := k26.trans k7
              by_cases hm : nm ∈ ns
              · rw [decide_eq_true hm]
                exact iteT ⟨_, rfl, by show 1 ≤ sizeLine; decide, ret1 H7 (.ref p) _ (k2.trans k27) (bad (by rw [badRow_cons, if_neg (fun z => z.2 (by rw [hnm]; exact hm))])) (hdx.kp (Kp.of k27))⟩
              · rw [decide_eq_false hm]
                refine iteF ⟨_, _, ns ++ [nm], rfl, k27, by rw [List.length_append, List.length_singleton, hnl], ?_, ?_, ?_⟩
                · rw [List.take_succ, hdi, List.map_append, hns]
                  show _ = _ ++ [nmOf _]
                  rw [hnm]
                · intro d' hd'
                  rw [List.take_succ, hdi] at hd'
                  rcases List.mem_append.mp hd' with h | h
                  · exact hpre d' h
                  · rw [List.mem_singleton.mp h]
                    exact hA
                · rw [hb', badRow_cons, if_pos ⟨hA, by rw [hnm]; exact hm⟩, hnm]
        · rintro σ H3 ⟨y3, y4, ns, rfl, k3, hnl, hns, hpre, hb⟩
          rw [hxl, List.drop_length] at hb
          have er : flt (.int n) (.tuple ds) rd = if areStates n rd = true then none else some (.str "resting") := flt_rest hz hb
          have k03 := k2.trans k3
          have resting : ∀ {H4 : Hp}, Same H H4 → areStates n rd = false → ∀ p, H4 p = none → Q (.ref p) (upd H4 p (.lst [.str "resting"])) := fun {H4} k e => ret1 H4 (.str "resting") (.str "resting") k (by rw [er, if_neg (by rw [e]; exact Bool.false_ne_true)]) (.str _)
          refine ⟨_, rfl, r, .ty "tuple", _, _, _, rfl, .ty _, (hrd.kp (Kp.of k03)).ty, kit_all K _ (by decide) _ (tyD_mem rd), _, rfl, ?_⟩
          by_cases hr2 : isA "tuple" rd = true
          · obtain ⟨b, ys, es, rfl, rfl, hb1, _, hy⟩ := hrd.tuple hr2
            rw [show isB "tuple" (tyD (.tuple es)) = true from rfl]
            refine iteF ?_
            have hb3 := k03 _ _ hb1
            have hy3 := hy.kp (Kp.of k03)
            have hyl := hy.length
            obtain ⟨he1, hok2⟩ := okv_tup ord
            have eS : areStates n (.tuple es) = (es.all (isSt n) && asc (es.map intOf)) := rfl
            refine ⟨_, rfl, b, rfl, ⟨_, SqT.of hb3⟩, fun D hD => ?_⟩
            refine lc_tup (K := K) (a := b) (xs := ys) (fun i H' => ∃ acc : List V, Same H3 H' ∧ H' D = some (.lst acc) ∧ acc.length ≤ i ∧ acc.isEmpty = (es.take i).all (isSt n)) ⟨[], same_new hD, upd_same, Nat.le_refl 0, rfl⟩ (fun i H' _ ⟨_, p, _⟩ => SqT.of (p _ _ hb3)) ?_ ?_
            · rintro i x H4 hi ⟨acc, k, hDl, hal, hae⟩
              obtain ⟨d, hdi, hdx⟩ := hy3.get hi
              have hil : i < es.length := (List.getElem?_eq_some_iff.mp hdi).1
              have tk : (es.take (i + 1)).all (isSt n) = ((es.take i).all (isSt n) && isSt n d) := by
                rw [List.take_succ, hdi, List.all_append]
                show _ = (_ && isSt n d)
                congr 1
                show (isSt n d && true) = isSt n d
                rw [Bool.and_true]
              have skip : ∀ H5, Same H4 H5 → isSt n d = true → ∃ acc : List V, Same H3 H5 ∧ H5 D = some (.lst acc) ∧ acc.length ≤ i + 1 ∧ acc.isEmpty = (es.take (i + 1)).all (isSt n) := fun H5 k5 e => ⟨acc, k.trans k5, k5 _ _ hDl, by omega, by rw [tk, e, Bool.and_true]; exact hae⟩
              have put : ∀ H5, Same H4 H5 → isSt n d = false → ∃ ac, H5 D = some (.lst ac) ∧ ac.length < sizeLine ∧ ∃ acc : List V, Same H3 (upd H5 D (.lst (ac ++ [x]))) ∧ (upd H5 D (.lst (ac ++ [x]))) D = some (.lst acc) ∧ acc.length ≤ i + 1 ∧ acc.isEmpty = (es.take (i + 1)).all (isSt n) := fun H5 k5 e => by
                refine ⟨acc, k5 _ _ hDl, by rw [sizeLine_eq]; omega, acc ++ [x], fun b o eb => ?_, upd_same, by rw [List.length_append, List.length_singleton]; omega, ?_⟩
                · rw [upd_ne (ne_of_none eb hD)]
                  exact k5 _ _ (k _ _ eb)
                · rw [tk, e, Bool.and_false]
                  cases acc <;> rfl
              refine ⟨rfl, _, rfl, S, x, d, rfl, hdx.kp (Kp.of k), hok2 d (List.mem_of_getElem? hdi), fun H5 k5 => ⟨_, rfl, ?_⟩⟩
              cases e9 : isInt d with
              | false =>
                have e10 : isSt n d = false := by
                  cases d with
                  | int i => cases e9
                  | _ => rfl
                exact ⟨_, rfl, put H5 k5 e10⟩
              | true =>
                obtain ⟨j, rfl⟩ : ∃ j, d = .int j := by
                  cases d with
                  | int j => exact ⟨j, rfl⟩
                  | _ => cases e9
                cases hdx
                have e10 : isSt n (.int j) = (decide (0 ≤ j) && decide (j < n)) := rfl
                refine ⟨_, rfl, _, _, rfl, rfl, _, rfl, ite2 (fun h => ?_) (fun h => ?_)⟩
                · refine ⟨_, rfl, _, _, rfl, rfl, _, rfl, ?_⟩
                  have h0 : decide (0 ≤ j) = true := h
                  cases e11 : decide (j < n) with
                  | true => exact skip H5 k5 (by rw [e10, h0, e11]; rfl)
                  | false => exact ⟨_, rfl, put H5 k5 (by rw [e10, h0, e11]; rfl)⟩
                · have h0 : decide (0 ≤ j) = false := by simpa using h
                  exact ⟨_, rfl, _, rfl, put H5 k5 (by rw [e10, h0]; rfl)⟩
            · rintro H4 ⟨acc, k, hDl, hal, hae⟩
              rw [hyl, List.take_length] at hae
              refine ⟨by show 0 ≤ sizeLine; decide, fun p hp => ⟨D, p, acc, rfl, rfl, .inl ⟨SqL.of (same_new hp _ _ hDl), SqL.of upd_same⟩, _, rfl, ?_⟩⟩
              have k05 := k03.trans (k.trans (same_new (o := .lst []) hp))
              generalize upd H4 p (.lst []) = H5 at k05 ⊢
              show if (!acc.isEmpty) = true then _ else _
              rw [hae]
              cases hall : es.all (isSt n) with
              | false => exact iteT ⟨by show 1 ≤ sizeLine; decide, resting k05 (by rw [eS, hall]; rfl)⟩
              | true =>
                refine iteF ?_
                have hb5 := k05 _ _ hb1
                have hys := ints_of hy hall
                generalize hm : es.map intOf = ns2 at hys eS
                subst hys
                rw [List.length_map] at hyl
                refine ⟨_, rfl, b, _, rfl, .inr (SqT.of hb5), 1, ((ns2.map V.int).length : Int), rfl, ⟨by decide, by decide, by rw [List.length_map]; omega, by rw [List.length_map]; omega⟩, fun D2 hD2 => ?_⟩
                rw [List.length_map]
                refine lc_range (lo := 1) (n := ((ns2.length : Int) - 1).toNat) (fun j H' => ∃ acc : List V, Same H5 H' ∧ H' D2 = some (.lst acc) ∧ acc.length ≤ j ∧ acc.isEmpty = asc (ns2.take (j + 1))) ⟨[], same_new hD2, upd_same, Nat.le_refl 0, ?_⟩ ?_ ?_
                · cases ns2 with
                  | nil => rfl
                  | cons z l => rfl
                · rintro j H6 hj ⟨acc2, k6, hDl2, hal2, hae2⟩
                  have hj1 : j + 1 < ns2.length := by omega
                  have e0 : ns2[j]? = some ns2[j] := List.getElem?_eq_getElem (by omega)
                  have e1 : ns2[j + 1]? = some ns2[j + 1] := List.getElem?_eq_getElem hj1
                  have at1 : atI (ns2.map V.int) (1 + (j : Int)) = some (V.int ns2[j + 1]) := by
                    have := atI_nat (xs := ns2.map V.int) (j := j + 1) (v := V.int ns2[j + 1]) (by rw [List.getElem?_map, e1]; rfl)
                    rw [show ((j + 1 : Nat) : Int) = 1 + (j : Int) by omega] at this
                    exact this
                  have at0 : atI (ns2.map V.int) (1 + (j : Int) - 1) = some (V.int ns2[j]) := by
                    have := atI_nat (xs := ns2.map V.int) (j := j) (v := V.int ns2[j]) (by rw [List.getElem?_map, e0]; rfl)
                    rw [show ((j : Nat) : Int) = 1 + (j : Int) - 1 by omega] at this
                    exact this
                  have tk2 := asc_take ns2 j _ _ e0 e1
                  refine ⟨rfl, _, rfl, _, rfl, b, _, _, _, rfl, rfl, SqT.of (k6 _ _ hb5), at1, _, rfl, _, rfl, _, _, rfl, rfl, b, _, _, _, rfl, rfl, SqT.of (k6 _ _ hb5), at0, _, _, rfl, rfl, _, rfl, ite2 (fun e => ?_) (fun e => ?_)⟩
                  · have e : decide (ns2[j + 1] ≤ ns2[j]) = true := e
                    have e := of_decide_eq_true e
                    refine ⟨_, rfl, acc2, hDl2, by rw [sizeLine_eq]; omega, acc2 ++ [_], fun b o eb => ?_, upd_same, by rw [List.length_append, List.length_singleton]; omega, ?_⟩
                    · rw [upd_ne (ne_of_none eb hD2)]
                      exact k6 _ _ eb
                    · rw [tk2, decide_eq_false (by omega), Bool.and_false]
                      cases acc2 <;> rfl
                  · have e : ¬ decide (ns2[j + 1] ≤ ns2[j]) = true := e
                    have e : ¬ ns2[j + 1] ≤ ns2[j] := fun z => e (decide_eq_true z)
                    exact ⟨acc2, k6, hDl2, by omega, by rw [tk2, decide_eq_true (by omega), Bool.and_true]; exact hae2⟩
                · rintro H6 ⟨acc2, k6, hDl2, hal2, hae2⟩
                  have ht2 : ns2.take (((ns2.length : Int) - 1).toNat + 1) = ns2 := List.take_of_length_le (by omega)
                  rw [ht2] at hae2
                  refine ⟨_, rfl, by show 0 ≤ sizeLine; decide, fun p hp => ⟨D2, p, acc2, rfl, rfl, .inl ⟨SqL.of (same_new hp _ _ hDl2), SqL.of upd_same⟩, _, rfl, ?_⟩⟩
                  have k07 := k05.trans (k6.trans (same_new (o := .lst []) hp))
                  generalize upd H6 p (.lst []) = H7 at k07 ⊢
                  show if (!acc2.isEmpty) = true then _ else _
                  rw [hae2]
                  cases hasc : asc ns2 with
                  | false => exact iteT ⟨by show 1 ≤ sizeLine; decide, resting k07 (by rw [eS, hasc, Bool.and_false])⟩
                  | true =>
                    refine iteF ⟨by show 0 ≤ sizeLine; decide, fun p hp => q _ p [] (k07.trans (same_new hp)) (k07.free hp) upd_same ?_⟩
                    rw [er, if_pos (by rw [eS, hall, hasc]; rfl)]
                    exact .nil
          · have hr3 : isB "tuple" (tyD rd) = false := by
              have : isA "tuple" rd = false := by simpa using hr2
              exact this
            rw [hr3]
            refine iteT ⟨by show 1 ≤ sizeLine; decide, resting k03 ?_⟩
            cases rd with
            | tuple es => exact absurd rfl hr2
            | _ => rfl
      · have ht2 : isB "tuple" (tyD ad) = false := by
          have : isA "tuple" ad = false := by simpa using ht
          exact this
        rw [ht2]
        exact iteT ⟨by show 1 ≤ sizeLine; decide, ret1 H2 (.str "actions") (.str "actions") k2 (flt_act hz ht2) (.str _)⟩
end
end K02
set_option Elab.async false
set_option linter.all false
set_option maxRecDepth 100000
set_option maxHeartbeats 4000000
/-! k02: moves. -/
namespace K02
open PySem PySem.Spec PyProof.Rows L2 Zg Zr Zd Zv
/-- the well, and what is tracked beside -/
structure Wl (H : Hp) (w l : Addr) (C : Nat) (S : List Addr) : Prop where
  well : Well H w l C
  trk : Trk S H
  w_ : w ∈ S
  l_ : l ∈ S
theorem Wl.sub {H : Hp} {w l : Addr} {C : Nat} {S : List Addr} (h : Wl H w l C S) : ∀ a ∈ [w, l], a ∈ S := fun a m => by
  simp only [List.mem_cons, List.not_mem_nil, or_false] at m
  rcases m with rfl | rfl
  · exact h.w_
  · exact h.l_
theorem Wl.draw {H H' : Hp} {w l : Addr} {C C' : Nat} {S : List Addr} (h : Wl H w l C S) (k : Kp [w, l] H H') (hW : Well H' w l C') : Wl H' w l C' S := by
  refine ⟨hW, fun a m e => ?_, h.w_, h.l_⟩
  obtain ⟨_, b, c, ns, h1, h2, _⟩ := hW
  cases q : H a with
  | none => exact h.trk a m q
  | some o =>
    by_cases ha : a ∈ [w, l]
    · simp only [List.mem_cons, List.not_mem_nil, or_false] at ha
      rcases ha with rfl | rfl
      · rw [h1] at e; cases e
      · rw [h2] at e; cases e
    · rw [k _ _ ha q] at e
      cases e
theorem Wl.out {H : Hp} {w l p : Addr} {C : Nat} {S : List Addr} (h : Wl H w l C S) (n : H p = none) : p ∉ S := fun m => h.trk p m n
theorem Wl.nin {H : Hp} {w l p : Addr} {C : Nat} {S : List Addr} (h : Wl H w l C S) (n : p ∉ S) : p ∉ [w, l] := fun m => n (h.sub p m)
theorem Wl.put {H : Hp} {w l p : Addr} {C : Nat} {S : List Addr} {o : HO} (h : Wl H w l C S) (n : p ∉ S) : Wl (upd H p o) w l C S :=
  ⟨h.well.new (h.nin n), fun a m => by rw [upd_ne (show a ≠ p from fun z => n (z ▸ m))]; exact h.trk a m, h.w_, h.l_⟩
theorem Wl.same {H H' : Hp} {w l : Addr} {C : Nat} {S : List Addr} (h : Wl H w l C S) (k : Same H H') : Wl H' w l C S := h.draw (Kp.of k) (h.well.same k)
theorem Wl.mono {H : Hp} {w l : Addr} {C C' : Nat} {S : List Addr} (h : Wl H w l C S) (q : C ≤ C') : Wl H w l C' S := ⟨h.well.mono q, h.trk, h.w_, h.l_⟩
theorem Wl.more {H : Hp} {w l p : Addr} {C : Nat} {S : List Addr} (h : Wl H w l C S) (n : H p ≠ none) : Wl H w l C (p :: S) :=
  ⟨h.well, fun a m => by
    rcases List.mem_cons.mp m with rfl | m
    · exact n
    · exact h.trk a m, List.mem_cons_of_mem _ h.w_, List.mem_cons_of_mem _ h.l_⟩
theorem Wl.fewer {H : Hp} {w l p : Addr} {C : Nat} {S : List Addr} (h : Wl H w l C (p :: S)) (hw : w ∈ S) (hl : l ∈ S) : Wl H w l C S :=
  ⟨h.well, fun a m => h.trk a (List.mem_cons_of_mem _ m), hw, hl⟩
section
variable {P : Program} {w : World} {K : PySem.W.Frag} {mg : PySem.Str → Option Value} {base : Heap}
def sp_moves : Sp := fun vs H Q _ => ∃ (w l : Addr) (C n : Nat) (S : List Addr), vs = [.ref w, .int (n : Nat)] ∧ Wl H w l C S ∧ C + n < LIM ∧ n ≤ 3 ∧
  ∀ (H' : Hp) (t : Addr) (ms : List (Option Nat)), Kp [w, l] H H' → Wl H' w l (C + n) S → t ∉ S → H' t = some (.tup (ms.map mvV)) → ms.length = n → (∀ m ∈ ms, ∀ k, m = some k → k < n) → Q (.ref t) H'
theorem ok_moves (T : Txt K mg) : FnOk P w K mg base CX0 2 T.a_moves T.d_moves P_moves sp_moves := by
  refine T.F_moves.ok sc_moves (fun vs H Q E h => by obtain ⟨w, l, C, n, S, rfl, _⟩ := h; rfl) (fun cdv A outer s H vs Q E hr h => ?_)
  refine ⟨_, (pss_cons (ps_set (i := 2) sc_moves.nd rfl (Or.inl rfl) (pe_lst pa_nil))
    (pss_cons (ps_for PassesOwn.never rfl (pi_range1 (by rfl) T.n_range (pa_cons (pv 1) pa_nil)) (pg_name (i := 3) sc_moves.nd rfl (Or.inl rfl)) (pss_cons (ps_set (i := 4) sc_moves.nd rfl (Or.inl rfl) (pe_call (ok_drawn T) (hr.mono (by decide)) (by rfl) T.g_drawn T.F_drawn.kp T.b_drawn .nil pass0 (pa_cons (pv 0) (pa_cons (pe_op op_add (pv 1) pe_int) pa_nil))))
    (pss_one (ps_expr (pe_bm PySem.F.plainAttrs_list PySem.F.slot_list_append PySem.F.type_list_append mt_append (pv 2) (pa_cons (pe_ifExp (pt_cmpR op_eq (pv 4) (pv 1) (nomark _)) pe_non (pv 4)) pa_nil))))))
    (pss_one (ps_ret (pe_callTy call_tuple_of (by rfl) T.n_tuple (by decide +kernel) (pa_cons (pv 2) pa_nil)))))), ?_⟩
  obtain ⟨w, l, C, n, S, rfl, hW, hC, h3, q⟩ := h
  refine ⟨by show 0 ≤ sizeLine; decide, fun D hD => ?_⟩
  have nD := hW.out hD
  refine ⟨_, rfl, (n : Nat), rfl, by omega, by omega, for_range (lo := 0) (n := ((n : Nat) : Int).toNat) (fun i σ H' => ∃ (y3 y4 : Option V) (ms : List (Option Nat)), σ = [some (.ref w), some (.int (n : Nat)), some (.ref D), y3, y4] ∧ Kp [w, l] H H' ∧ Wl H' w l (C + i) S ∧ H' D = some (.lst (ms.map mvV)) ∧ ms.length = i ∧ ∀ m ∈ ms, ∀ k, m = some k → k < n)
    ⟨none, none, [], rfl, Kp.new hD, hW.put nD, upd_same, rfl, fun m h => nomatch h⟩ ?_ ?_⟩
  · rintro i σ H1 hi ⟨y3, y4, ms, rfl, k1, hW1, hD1, hl1, hm1⟩
    rw [Int.toNat_natCast] at hi
    refine ⟨_, rfl, _, rfl, _, _, rfl, rfl, w, l, (n : Int) + 1, C + i, rfl, hW1.well, by omega, by omega, by omega, fun H2 r k2 hW2 r0 r1 => ?_⟩
    have hW2' := hW1.draw k2 hW2
    have hD2 := k2 _ _ (hW1.nin nD) hD1
    have k12 := k1.trans k2
    obtain ⟨j, rfl⟩ := Int.eq_ofNat_of_zero_le r0
    have fin : ∀ o : Option Nat, (∀ k, o = some k → k < n) → ∃ (y3 y4 : Option V) (ms2 : List (Option Nat)), [some (V.ref w), some (.int (n : Nat)), some (.ref D), some (.int (0 + (i : Int))), some (.int (j : Nat))] = [some (.ref w), some (.int (n : Nat)), some (.ref D), y3, y4] ∧ Kp [w, l] H (upd H2 D (.lst (ms.map mvV ++ [mvV o]))) ∧ Wl (upd H2 D (.lst (ms.map mvV ++ [mvV o]))) w l (C + (i + 1)) S ∧ (upd H2 D (.lst (ms.map mvV ++ [mvV o]))) D = some (.lst (ms2.map mvV)) ∧ ms2.length = i + 1 ∧ ∀ m ∈ ms2, ∀ k, m = some k → k < n := fun o ho =>
      ⟨_, _, ms ++ [o], rfl, k12.wr (.inr hD), hW2'.put nD, by rw [upd_same, List.map_append]; rfl, by rw [List.length_append, List.length_singleton, hl1], fun m hm => by
        rcases List.mem_append.mp hm with hm | hm
        · exact hm1 m hm
        · rw [List.mem_singleton.mp hm]; exact ho⟩
    refine ⟨_, rfl, .inl ⟨rfl, _, SqL.of hD2⟩, _, rfl, _, rfl, rfl, _, congrArg V.bl dec_int, ite2 (fun e => ?_) (fun e => ?_)⟩
    · exact ⟨D, _, _, rfl, rfl, hD2, by rw [List.length_map, sizeLine_eq]; omega, fin none (fun k z => nomatch z)⟩
    · have e : ¬ (j : Int) = (n : Int) := fun z => e (beq_iff_eq.mpr z)
      exact ⟨_, rfl, D, _, _, rfl, rfl, hD2, by rw [List.length_map, sizeLine_eq]; omega, fin (some j) (fun k z => by injection z with z; omega)⟩
  · rintro σ H1 ⟨y3, y4, ms, rfl, k1, hW1, hD1, hl1, hm1⟩
    rw [Int.toNat_natCast] at hl1 hW1
    refine ⟨_, rfl, D, _, rfl, .inl ⟨SqL.of hD1, fun p hp => ?_⟩⟩
    exact q _ p ms (k1.trans (Kp.new hp)) (hW1.same (same_new hp)) (hW1.out hp) upd_same hl1 hm1
end
end K02
set_option Elab.async false
set_option linter.all false
set_option maxRecDepth 100000
set_option maxHeartbeats 4000000
/-! k02: a drawn store. -/
namespace K02
open PySem PySem.Spec PyProof.Rows L2 Zg Zr Zd Zv
/-- actions that are being drawn -/
structure Ac (n : Nat) (acts : List Act) : Prop where
  nm : ∀ a ∈ acts, isName (.str a.1) = true
  ln : ∀ a ∈ acts, a.2.length = n
  mv : ∀ a ∈ acts, ∀ m ∈ a.2, ∀ k, m = some k → k < n
  nd : (acts.map (·.1)).Nodup
theorem Ac.ins {n : Nat} {acts : List Act} (A : Ac n acts) {a : Act} (i : Nat) (h1 : isName (.str a.1) = true) (h2 : a.2.length = n) (h3 : ∀ m ∈ a.2, ∀ k, m = some k → k < n) (h4 : a.1 ∉ acts.map (·.1)) : Ac n (acts.take i ++ [a] ++ acts.drop i) := by
  have hp : (acts.take i ++ [a] ++ acts.drop i).Perm (a :: acts) := by
    have h := (List.perm_middle (a := a) (l₁ := acts.take i) (l₂ := acts.drop i))
    rw [List.take_append_drop] at h
    rw [List.append_assoc]
    exact h
  have hm : ∀ b ∈ acts.take i ++ [a] ++ acts.drop i, b = a ∨ b ∈ acts := fun b hb => List.mem_cons.mp (hp.mem_iff.mp hb)
  refine ⟨fun b hb => ?_, fun b hb => ?_, fun b hb => ?_, ?_⟩
  · rcases hm b hb with rfl | h
    · exact h1
    · exact A.nm b h
  · rcases hm b hb with rfl | h
    · exact h2
    · exact A.ln b h
  · rcases hm b hb with rfl | h
    · exact h3
    · exact A.mv b h
  · refine (hp.map _).nodup_iff.mpr ?_
    rw [List.map_cons, List.nodup_cons]
    exact ⟨h4, A.nd⟩
theorem dv_act {S : List Addr} {H : Hp} {p t : Addr} {z : PySem.Str} {ms : List (Option Nat)} (hp : H p = some (.tup [.str z, .ref t])) (np : p ∉ S) (ht : H t = some (.tup (ms.map mvV))) (nt : t ∉ S) : Dv S H (.ref p) (actD (z, ms)) := by
  have h : ∀ ms : List (Option Nat), DvAll S H (ms.map mvV) (ms.map mvD) := fun ms => by
    induction ms with
    | nil => exact .nil
    | cons m ms ih =>
      refine .cons ?_ ih
      cases m with
      | none => exact .non
      | some k => exact .int _
  exact .tup hp np (.cons (.str _) (.cons (.tup ht nt (h ms)) .nil))
theorem asc_pw : ∀ l : List Nat, l.Pairwise (· < ·) → asc (l.map fun k : Nat => (k : Int)) = true
  | [], _ => rfl
  | [_], _ => rfl
  | a :: b :: r, h => by
    have h1 := (List.pairwise_cons.mp h).1 b List.mem_cons_self
    show (decide ((a : Int) < (b : Int)) && asc ((b :: r).map fun k : Nat => (k : Int))) = true
    rw [decide_eq_true (by omega), asc_pw (b :: r) (List.pairwise_cons.mp h).2]
    rfl
theorem rests_st {n : Nat} {zs : List Nat} (h : zs.Pairwise (· < ·)) (hl : ∀ z ∈ zs, z < n) : areStates n (.tuple (zs.map fun k => .int (k : Nat))) = true := by
  show ((zs.map fun k => PyData.int (k : Nat)).all (isSt n) && asc ((zs.map fun k => PyData.int (k : Nat)).map intOf)) = true
  have e : (zs.map fun k => PyData.int (k : Nat)).map intOf = zs.map fun k : Nat => (k : Int) := by
    rw [List.map_map]
    rfl
  rw [e, asc_pw zs h, Bool.and_true, List.all_eq_true]
  intro d hd
  obtain ⟨z, hz, rfl⟩ := List.mem_map.mp hd
  have := hl z hz
  show (decide ((0 : Int) ≤ (z : Int)) && decide ((z : Int) < (n : Int))) = true
  rw [decide_eq_true (by omega), decide_eq_true (by omega)]
  rfl
theorem pw_len {n : Nat} {zs : List Nat} (h : zs.Pairwise (· < ·)) (hl : ∀ z ∈ zs, z < n) : zs.length ≤ n := nodup_len (h.imp fun h e => absurd (e ▸ h) (Nat.lt_irrefl _)) hl
section
variable {P : Program} {w : World} {K : PySem.W.Frag} {mg : PySem.Str → Option Value} {base : Heap}
def sp_store : Sp := fun vs H Q _ => ∃ (w l : Addr) (C : Nat) (S : List Addr), vs = [.ref w] ∧ Wl H w l C S ∧ C + 120 < LIM ∧
  ∀ (H' : Hp) (p a b : Addr) (n : Nat) (acts : List Act) (rd : PyData), Kp [w, l] H H' → Wl H' w l (C + 120) S → p ∉ S → H' p = some (.lst [.int (n : Nat), .ref a, .ref b]) → Dv S H' (.ref a) (.tuple (acts.map actD)) → Dv S H' (.ref b) rd → Acts n acts → acts.length ≤ 6 → 1 ≤ n →
    areStates n rd = true → Zv.okv rd = true → Q (.ref p) H'
theorem ok_store (T : Txt K mg) : FnOk P w K mg base CX0 4 T.a_store T.d_store P_store sp_store := by
  refine T.F_store.ok sc_store (fun vs H Q E h => by obtain ⟨w, l, C, S, rfl, _⟩ := h; rfl) (fun cdv A outer s H vs Q E hr h => ?_)
  refine ⟨_, (pss_cons (ps_par (i := 1) (j := 2) (by rfl) sc_store.nd rfl rfl (by decide) rfl rfl (pa_cons (pe_op op_add pe_int (pe_call (ok_drawn T) (hr.mono (by decide)) (by rfl) T.g_drawn T.F_drawn.kp T.b_drawn .nil pass0 (pa_cons (pv 0) (pa_cons pe_int pa_nil)))) (pa_cons (pe_lst pa_nil) pa_nil)) (by rfl))
    (pss_cons (ps_for PassesOwn.never rfl (pi_range1 (by rfl) T.n_range (pa_cons (pe_call (ok_drawn T) (hr.mono (by decide)) (by rfl) T.g_drawn T.F_drawn.kp T.b_drawn .nil pass0 (pa_cons (pv 0) (pa_cons pe_int pa_nil))) pa_nil)) (pg_name (i := 3) sc_store.nd rfl (Or.inl rfl)) (pss_cons (ps_set (i := 4) sc_store.nd rfl (Or.inl rfl) (pe_call (ok_name T) (hr.mono (by decide)) (by rfl) T.g_name T.F_name.kp T.b_name .nil pass0 (pa_cons (pv 0) pa_nil)))
    (pss_one (ps_if (pt_cmpR op_notIn_seq (pv 4) (pe_lc (own := [("row", 5)]) rfl sc_store.nd (pi_list (pv 2)) (blkOk_by (own := [("row", 5)]) (N := N_store) (sc := defScope s_store) (by decide +kernel)) (fun _ _ _ _ _ => (pg_name (i := 5) sc_store.nd rfl (Or.inl rfl))) (fun _ _ _ _ _ => pts_nil) (fun _ _ _ _ _ => (pe_ix (show IxR _ (rIxT K) from ix_tup) (pv 5) pe_int (fun _ _ => rfl)))) (by rfl)) (pss_one (ps_expr (pe_bm PySem.F.plainAttrs_list PySem.F.slot_list_insert PySem.F.type_list_insert mt_insert (pv 2) (pa_cons (pe_call (ok_drawn T) (hr.mono (by decide)) (by rfl) T.g_drawn T.F_drawn.kp T.b_drawn .nil pass0 (pa_cons (pv 0) (pa_cons (pe_op op_add (pe_callB call_len_seq (by rfl) T.n_len (by decide +kernel) (pa_cons (pv 2) pa_nil)) pe_int) pa_nil))) (pa_cons (pe_tup (pa_cons (pv 4) (pa_cons (pe_call (ok_moves T) (hr.mono (by decide)) (by rfl) T.g_moves T.F_moves.kp T.b_moves .nil pass0 (pa_cons (pv 0) (pa_cons (pv 1) pa_nil))) pa_nil))) pa_nil))))) pss_nil))))
    (pss_cons (ps_set (i := 6) sc_store.nd rfl (Or.inl rfl) (pe_callTy call_tuple_of (by rfl) T.n_tuple (by decide +kernel) (pa_cons (pe_lc (own := [("state", 7)]) rfl sc_store.nd (pi_range1 (by rfl) T.n_range (pa_cons (pv 1) pa_nil)) (blkOk_by (own := [("state", 7)]) (N := N_store) (sc := defScope s_store) (by decide +kernel)) (fun _ _ _ _ _ => (pg_name (i := 7) sc_store.nd rfl (Or.inl rfl))) (fun _ _ _ _ _ => (pts_one (pt_cmpR op_eq (pe_call (ok_drawn T) (hr.mono (by decide)) (by rfl) T.g_drawn T.F_drawn.kp T.b_drawn .nil pass0 (pa_cons (pv 0) (pa_cons pe_int pa_nil))) pe_int (nomark _)))) (fun _ _ _ _ _ => (pv 7))) pa_nil)))
    (pss_one (ps_ret (pe_lst (pa_cons (pv 1) (pa_cons (pe_callTy call_tuple_of (by rfl) T.n_tuple (by decide +kernel) (pa_cons (pv 2) pa_nil)) (pa_cons (pv 6) pa_nil))))))))), ?_⟩
  obtain ⟨w, l, C, S, rfl, hW, hC, q⟩ := h
  refine ⟨_, rfl, w, l, 3, C, rfl, hW.well, by omega, by decide, by decide, fun H1 r k1 hW1 r0 r1 => ⟨_, _, rfl, rfl, by show 0 ≤ sizeLine; decide, fun D hD => ?_⟩⟩
  have hW1 := hW.draw k1 hW1
  obtain ⟨j, rfl⟩ := Int.eq_ofNat_of_zero_le r0
  obtain ⟨n, hn, n1, n3⟩ : ∃ n : Nat, (1 : Int) + (j : Int) = (n : Nat) ∧ 1 ≤ n ∧ n ≤ 3 := ⟨j + 1, by omega, by omega, by omega⟩
  refine ⟨V.int (n : Nat), _, congrArg (fun x => [V.int x, V.ref D]) hn, ?_⟩
  have nD := hW1.out hD
  have hW2 := hW1.put (o := .lst []) nD
  have k2 : Kp [w, l] H (upd H1 D (.lst [])) := k1.wr (.inr (by
    cases e : H D with
    | none => rfl
    | some o =>
      rw [k1 _ _ (hW.nin nD) e] at hD
      cases hD))
  have hDH : H D = none := k1.free (hW.nin nD) hD
  have hD2 : (upd H1 D (.lst [])) D = some (.lst []) := upd_same
  generalize upd H1 D (.lst []) = H2 at hW2 k2 hD2 ⊢
  refine ⟨_, rfl, w, l, 7, C + 1, rfl, hW2.well, by omega, by decide, by decide, fun H3 r3 k3 hW3 r30 r31 => ?_⟩
  have hW3 := hW2.draw k3 hW3
  have k03 := k2.trans k3
  have hD3 := k3 _ _ (hW.nin nD) hD2
  refine ⟨r3, rfl, by omega, by omega, for_range (lo := 0) (n := r3.toNat) (fun i σ H' => ∃ (y3 y4 : Option V) (xs : List V) (acts : List Act), σ = [some (.ref w), some (.int (n : Nat)), some (.ref D), y3, y4, none, none, none] ∧ Kp [w, l] H H' ∧ Wl H' w l (C + 2 + i * 15) S ∧ H' D = some (.lst xs) ∧ DvAll (D :: S) H' xs (acts.map actD) ∧ Ac n acts ∧ acts.length ≤ i)
    ⟨none, none, [], [], rfl, k03, hW3, hD3, .nil, ⟨(fun a h => nomatch h), (fun a h => nomatch h), (fun a h => nomatch h), List.nodup_nil⟩, Nat.le_refl 0⟩ ?_ ?_⟩
  · rintro i σ H4 hi ⟨y3, y4, xs, acts, rfl, k4, hW4, hD4, hx4, AA, hal⟩
    have hi6 : i < 6 := by omega
    have hxl := hx4.length
    rw [List.length_map] at hxl
    refine ⟨_, rfl, w, l, C + 2 + i * 15, rfl, hW4.well, by omega, fun H5 z k5 hW5 hz => ?_⟩
    have hW5 := hW4.draw k5 hW5
    have k05 := k4.trans k5
    have hD5 := k5 _ _ (hW.nin nD) hD4
    have sub5 : ∀ a ∈ [w, l], a ∈ D :: S := fun a m => List.mem_cons_of_mem _ (hW.sub a m)
    have hx5 := hx4.kp (k5.sub sub5)
    refine ⟨_, rfl, _, rfl, D, rfl, ⟨_, SqL.of hD5⟩, fun D2 hD2 => ?_⟩
    refine lc_list (K := K) (a := D) (xs := xs) (fun j H' => Same H5 H' ∧ H' D2 = some (.lst (((acts.map (·.1)).take j).map V.str))) ⟨same_new hD2, upd_same⟩ (fun j H' _ p => SqL.of (p.1 _ _ hD5)) ?_ ?_
    · rintro j y H6 hj ⟨k6, hDl⟩
      obtain ⟨d, hdj, hdy⟩ := hx5.get hj
      obtain ⟨ac, hac, rfl⟩ : ∃ ac, acts[j]? = some ac ∧ actD ac = d := by
        rw [List.getElem?_map] at hdj
        cases e : acts[j]? with
        | none => rw [e] at hdj; cases hdj
        | some ac => rw [e] at hdj; exact ⟨ac, rfl, Option.some.inj hdj⟩
      obtain ⟨p, m, rfl, hp, _⟩ := act_at hdy
      refine ⟨rfl, _, rfl, p, _, 0, _, rfl, rfl, SqT.of (k6 _ _ hp), atI_nat (j := 0) rfl, _, hDl, ?_, ?_, ?_⟩
      · rw [List.length_map, List.length_take, List.length_map, sizeLine_eq]
        omega
      · exact fun b' o' eb => by
          rw [upd_ne (ne_of_none eb hD2)]
          exact k6 _ _ eb
      · rw [upd_same, List.take_succ, List.getElem?_map, hac, List.map_append]
        rfl
    · rintro H6 ⟨k6, hDl⟩
      rw [List.take_of_length_le (by rw [List.length_map]; omega)] at hDl
      refine ⟨D2, _, rfl, .inl (SqL.of hDl), rfl, ?_, _, rfl, ?_⟩
      · rw [List.all_map]
        exact List.all_eq_true.mpr fun _ _ => rfl
      show if (!inV (.str z) ((acts.map (·.1)).map V.str)) = true then _ else _
      rw [in_names]
      have hW6 := hW5.same k6
      have k06 := k05.trans (Kp.of k6)
      have hD6 := k6 _ _ hD5
      have hx6 := hx5.kp (Kp.of k6)
      by_cases hm : z ∈ acts.map (·.1)
      · rw [decide_eq_true hm]
        exact iteF ⟨_, _, xs, acts, rfl, k06, hW6.mono (by omega), hD6, hx6, AA, by omega⟩
      · rw [decide_eq_false hm]
        refine iteT ?_
        refine ⟨_, rfl, .inl ⟨rfl, _, SqL.of hD6⟩, ?_⟩
        refine ⟨_, rfl, _, rfl, D, _, rfl, .inl (SqL.of hD6), _, _, rfl, rfl, w, l, _, C + 2 + i * 15 + 10, rfl, hW6.well, by omega, by omega, by omega, fun H7 r7 k7 hW7 r70 r71 => ?_⟩
        have hW7 := hW6.draw k7 hW7
        have k07 := k06.trans k7
        have hD7 := k7 _ _ (hW.nin nD) hD6
        have hx7 := hx6.kp (k7.sub sub5)
        have hW7' := hW7.more (p := D) (by rw [hD7]; exact fun z => nomatch z)
        refine ⟨_, rfl, _, rfl, _, rfl, w, l, C + 2 + i * 15 + 10 + 1, n, D :: S, rfl, hW7', by omega, n3, fun H8 t ms k8 hW8 nt ht hml hmv => ?_⟩
        have k08 := k07.trans k8
        have hD8 := k8 _ _ (hW.nin nD) hD7
        have hx8 := hx7.kp (k8.sub sub5)
        refine ⟨by show 2 ≤ sizeLine; decide, fun p hp => ?_⟩
        have np := hW8.out hp
        have kp9 := same_new (o := .tup [.str z, .ref t]) hp
        refine ⟨D, xs, r7, .ref p, rfl, rfl, kp9 _ _ hD8, by rw [sizeLine_eq]; omega, r70, by omega, ?_⟩
        have hW9 := hW8.put (o := .tup [.str z, .ref t]) np
        have kS : Kp (D :: S) (upd H8 p (.tup [.str z, .ref t])) (upd (upd H8 p (.tup [.str z, .ref t])) D (.lst (xs.take r7.toNat ++ [.ref p] ++ xs.drop r7.toNat))) := (Kp.refl _ _).wr (.inl List.mem_cons_self)
        have hx9 := (hx8.kp (Kp.of kp9)).kp kS
        have dv9 : Dv (D :: S) (upd (upd H8 p (.tup [.str z, .ref t])) D (.lst (xs.take r7.toNat ++ [.ref p] ++ xs.drop r7.toNat))) (.ref p) (actD (z, ms)) := (dv_act upd_same np (kp9 _ _ ht) nt).kp kS
        refine ⟨_, _, _, acts.take r7.toNat ++ [(z, ms)] ++ acts.drop r7.toNat, rfl, (k08.trans (Kp.of kp9)).wr (.inr hDH), (((hW9.fewer hW.w_ hW.l_).put nD).mono (by omega)), upd_same, ?_, AA.ins _ hz hml hmv hm, ?_⟩
        · rw [List.map_append, List.map_append, List.map_take, List.map_drop]
          exact ((hx9.take r7.toNat).append (.cons dv9 .nil)).append (hx9.drop r7.toNat)
        · rw [List.length_append, List.length_append, List.length_take, List.length_drop, List.length_singleton]
          omega
  · rintro σ H4 ⟨y3, y4, xs, acts, rfl, k4, hW4, hD4, hx4, AA, hal⟩
    have hr6 : r3.toNat ≤ 6 := by omega
    refine ⟨_, rfl, _, rfl, by omega, by omega, fun D3 hD3 => ?_⟩
    have nD3 := hW4.out hD3
    have hDD : D ≠ D3 := ne_of_none hD4 hD3
    refine lc_range (lo := 0) (n := ((n : Nat) : Int).toNat) (fun j H' => ∃ zs : List Nat, Kp [w, l] H4 H' ∧ Wl H' w l (C + 2 + r3.toNat * 15 + j) S ∧ H' D3 = some (.lst (zs.map fun k => V.int (k : Nat))) ∧ zs.Pairwise (· < ·) ∧ ∀ z ∈ zs, z < j)
      ⟨[], Kp.new hD3, hW4.put nD3, upd_same, List.Pairwise.nil, fun z h => nomatch h⟩ ?_ ?_
    · rintro j H5 hj ⟨zs, k5, hW5, hDl, hpw, hlt⟩
      rw [Int.toNat_natCast] at hj
      have hzl := pw_len hpw hlt
      refine ⟨rfl, _, rfl, w, l, 2, _, rfl, hW5.well, by omega, by decide, by decide, fun H6 r6 k6 hW6 r60 r61 => ?_⟩
      have hW6 := hW5.draw k6 hW6
      have hDl6 := k6 _ _ (hW.nin nD3) hDl
      refine ⟨rfl, _, congrArg V.bl dec_int, ite2 (fun e => ?_) (fun e => ?_)⟩
      · refine ⟨_, rfl, _, hDl6, by rw [List.length_map, sizeLine_eq]; omega, zs ++ [j], (k5.trans k6).wr (.inr hD3), (hW6.put nD3).mono (by omega), by rw [upd_same, List.map_append]; congr 3; show [V.int (0 + (j : Int))] = _; rw [Int.zero_add]; rfl, ?_, ?_⟩
        · rw [List.pairwise_append]
          exact ⟨hpw, List.pairwise_singleton _ _, fun a ha b hb => by rw [List.mem_singleton.mp hb]; exact hlt a ha⟩
        · intro z hz
          rcases List.mem_append.mp hz with hz | hz
          · exact Nat.lt_succ_of_lt (hlt z hz)
          · rw [List.mem_singleton.mp hz]
            exact Nat.lt_succ_self _
      · exact ⟨zs, k5.trans k6, hW6.mono (by omega), hDl6, hpw, fun z hz => Nat.lt_succ_of_lt (hlt z hz)⟩
    · rintro H5 ⟨zs, k5, hW5, hDl, hpw, hlt⟩
      rw [Int.toNat_natCast] at hlt hW5
      have hzl := pw_len hpw hlt
      refine ⟨D3, _, rfl, .inl ⟨SqL.of hDl, fun b hb => ?_⟩⟩
      have kb := same_new (o := .tup (zs.map fun k => V.int (k : Nat))) hb
      have nb := hW5.out hb
      have hb6 : (upd H5 b (.tup (zs.map fun k => V.int (k : Nat)))) b = some (.tup (zs.map fun k => V.int (k : Nat))) := upd_same
      have hW6 := hW5.same kb
      have k46 := k5.trans (Kp.of kb)
      generalize upd H5 b (.tup (zs.map fun k => V.int (k : Nat))) = H6 at kb hb6 hW6 k46 ⊢
      have hD6 := k46 _ _ (hW.nin nD) hD4
      have hx6 := hx4.kp (k46.sub fun a m => List.mem_cons_of_mem _ (hW.sub a m))
      refine ⟨_, rfl, _, rfl, D, xs, rfl, .inl ⟨SqL.of hD6, fun a ha => ?_⟩⟩
      have ka := same_new (o := .tup xs) ha
      have na := hW6.out ha
      refine ⟨_, rfl, by show 3 ≤ sizeLine; decide, fun p hp => ?_⟩
      have kp := same_new (o := .lst [.int (n : Nat), .ref a, .ref b]) hp
      have hW7 := (hW6.same ka)
      have ia : ∀ l : List Nat, DvAll S (upd (upd H6 a (.tup xs)) p (.lst [.int (n : Nat), .ref a, .ref b])) (l.map fun k => V.int (k : Nat)) (l.map fun k => PyData.int (k : Nat)) := fun l => by
        induction l with
        | nil => exact .nil
        | cons z l ih => exact .cons (.int _) ih
      refine q _ p a b n acts (.tuple (zs.map fun k => .int (k : Nat))) (((k4.trans k46).trans (Kp.of ka)).trans (Kp.of kp)) ((hW7.same kp).mono (by omega)) (hW7.out hp) upd_same ?_ ?_ ⟨AA.nm, AA.ln, AA.mv, AA.nd, by omega, n3⟩ (by omega) n1 (rests_st hpw hlt) ?_
      · exact .tup (kp _ _ upd_same) na (((hx6.sub fun a m => List.mem_cons_of_mem _ m).kp (Kp.of ka)).kp (Kp.of kp))
      · exact .tup (kp _ _ (ka _ _ hb6)) nb (ia zs)
      · show (decide ((zs.map fun k => PyData.int (k : Nat)).length ≤ 1000) && okvAll (zs.map fun k => PyData.int (k : Nat))) = true
        rw [List.length_map, decide_eq_true (by omega), Bool.true_and, okvAll_iff]
        intro d hd
        obtain ⟨z, hz, rfl⟩ := List.mem_map.mp hd
        have := hlt z hz
        refine decide_eq_true ?_
        rw [Int.natAbs_natCast]
        exact Nat.lt_of_lt_of_le (by omega : z < 10) (by decide)
end
end K02
set_option Elab.async false
set_option linter.all false
set_option maxHeartbeats 4000000
set_option maxRecDepth 100000
/-! k02: what is not of a store, and displays. -/
namespace K02
open PySem PySem.Spec PyProof.Rows L2 Zg Zr Zd Zv
theorem bulkAll_append : ∀ l m : List PyData, PyData.bulkAll (l ++ m) = PyData.bulkAll l + PyData.bulkAll m := by
  intro l m
  induction l with
  | nil => exact (Nat.zero_add _).symm
  | cons x l ih =>
    show x.bulk + 1 + PyData.bulkAll (l ++ m) = x.bulk + 1 + PyData.bulkAll l + PyData.bulkAll m
    omega
theorem bulkAll_len (l : List PyData) : l.length ≤ PyData.bulkAll l := by
  induction l with
  | nil => exact Nat.le_refl _
  | cons x l ih =>
    show l.length + 1 ≤ x.bulk + 1 + PyData.bulkAll l
    omega
theorem depth_mem : ∀ {l : List PyData} {d : PyData}, d ∈ l → d.depth ≤ PyData.depthAll l
  | x :: l, d, h => by
    show d.depth ≤ max x.depth (PyData.depthAll l)
    rcases List.mem_cons.mp h with rfl | h
    · exact Nat.le_max_left _ _
    · exact Nat.le_trans (depth_mem h) (Nat.le_max_right _ _)
/-- a value, how much of it and how deep -/
def Gv (S : List Addr) (H : Hp) (v : V) (d : PyData) (k dp : Nat) : Prop := Dv S H v d ∧ okv d = true ∧ d.bulk + 1 ≤ k ∧ d.depth ≤ dp
def GvL (S : List Addr) (H : Hp) (vs : List V) (ds : List PyData) (k dp : Nat) : Prop := DvAll S H vs ds ∧ okvAll ds = true ∧ PyData.bulkAll ds ≤ k ∧ PyData.depthAll ds ≤ dp
section
variable {S S' : List Addr} {H H' : Hp} {v : V} {d : PyData} {vs : List V} {ds : List PyData} {k k2 k' dp dp' : Nat}
theorem Gv.mono (h : Gv S H v d k dp) (a : k ≤ k') (b : dp ≤ dp') : Gv S H v d k' dp' := ⟨h.1, h.2.1, Nat.le_trans h.2.2.1 a, Nat.le_trans h.2.2.2 b⟩
theorem GvL.mono (h : GvL S H vs ds k dp) (a : k ≤ k') (b : dp ≤ dp') : GvL S H vs ds k' dp' := ⟨h.1, h.2.1, Nat.le_trans h.2.2.1 a, Nat.le_trans h.2.2.2 b⟩
theorem Gv.kp (h : Gv S H v d k dp) (q : Kp S H H') : Gv S H' v d k dp := ⟨h.1.kp q, h.2⟩
theorem GvL.kp (h : GvL S H vs ds k dp) (q : Kp S H H') : GvL S H' vs ds k dp := ⟨h.1.kp q, h.2⟩
theorem GvL.nil : GvL S H [] [] 0 0 := ⟨.nil, rfl, Nat.le_refl 0, Nat.le_refl 0⟩
theorem GvL.cons (h : Gv S H v d k dp) (t : GvL S H vs ds k2 dp) : GvL S H (v :: vs) (d :: ds) (k + k2) dp := ⟨.cons h.1 t.1, by rw [okvAll, h.2.1, t.2.1]; rfl, by
  have h1 := h.2.2.1
  have h2 := t.2.2.1
  show d.bulk + 1 + PyData.bulkAll ds ≤ _
  omega, Nat.max_le.mpr ⟨h.2.2.2, t.2.2.2⟩⟩
theorem Gv.tup {a : Addr} (h : GvL S H vs ds k dp) (e : H a = some (.tup vs)) (n : a ∉ S) (hk : k ≤ 1000) : Gv S H (.ref a) (.tuple ds) (k + 1) (dp + 1) := by
  have hl := Nat.le_trans (bulkAll_len ds) h.2.2.1
  refine ⟨.tup e n h.1, ?_, Nat.succ_le_succ h.2.2.1, Nat.succ_le_succ h.2.2.2⟩
  show (decide (ds.length ≤ 1000) && okvAll ds) = true
  rw [decide_eq_true (by omega : ds.length ≤ 1000), h.2.1]
  rfl
theorem Gv.lst {a : Addr} (h : GvL S H vs ds k dp) (e : H a = some (.lst vs)) (n : a ∉ S) (hk : k ≤ 1000) : Gv S H (.ref a) (.list ds) (k + 1) (dp + 1) := by
  have hl := Nat.le_trans (bulkAll_len ds) h.2.2.1
  refine ⟨.lst e n h.1, ?_, Nat.succ_le_succ h.2.2.1, Nat.succ_le_succ h.2.2.2⟩
  show (decide (ds.length ≤ 1000) && okvAll ds) = true
  rw [decide_eq_true (by omega : ds.length ≤ 1000), h.2.1]
  rfl
end
/-- t makes a value of so much -/
def Mk (S : List Addr) (H0 : Hp) (t : TE) (σ : L2.St) (k dp : Nat) : Prop := ∀ (H : Hp) (Q : VK), Same H0 H → Trk S H → (∀ v d H', Same H H' → Trk S H' → Gv S H' v d k dp → (rows d).length ≤ 3 → Q v H') → t σ H Q
def MkL (S : List Addr) (H0 : Hp) (t : TA) (σ : L2.St) (k dp n : Nat) : Prop := ∀ (H : Hp) (Q : List V → Hp → Prop), Same H0 H → Trk S H → (∀ vs ds H', Same H H' → Trk S H' → GvL S H' vs ds k dp → vs.length = n → Q vs H') → t σ H Q
/-- all values of so much -/
def Every (S : List Addr) (H : Hp) (vs : List V) (k dp : Nat) : Prop := ∀ v ∈ vs, ∃ d, Gv S H v d k dp ∧ (rows d).length ≤ 3
def MkA (S : List Addr) (H0 : Hp) (t : TA) (σ : L2.St) (k dp n : Nat) : Prop := ∀ (H : Hp) (Q : List V → Hp → Prop), Same H0 H → Trk S H → (∀ vs H', Same H H' → Trk S H' → Every S H' vs k dp → vs.length = n → Q vs H') → t σ H Q
theorem Every.same {S : List Addr} {H H' : Hp} {vs : List V} {k dp : Nat} (h : Every S H vs k dp) (q : Same H H') : Every S H' vs k dp := fun v m => by
  obtain ⟨d, g, r⟩ := h v m
  exact ⟨d, g.kp (Kp.of q), r⟩
section
variable {S : List Addr} {H0 : Hp} {σ : L2.St} {k k2 dp n K : Nat} {t : TE} {ts : TA}
theorem mk_c {v : V} {d : PyData} (h : ∀ H, Gv S H v d k dp) (h0 : rows d = []) : Mk S H0 (tC v) σ k dp := fun H Q _ tr q => q v d H (fun _ _ e => e) tr (h H) (by rw [h0]; exact Nat.zero_le _)
theorem mk_str {x : PySem.Str} (h : okv (.str x) = true) : Mk S H0 (tC (.str x)) σ (x.length + 1) dp := mk_c (fun H => ⟨.str x, h, Nat.le_refl _, Nat.zero_le _⟩) rfl
theorem mk_int {i : Int} (h : okv (.int i) = true) : Mk S H0 (tC (.int i)) σ 1 dp := mk_c (fun H => ⟨.int i, h, Nat.le_refl 1, Nat.zero_le _⟩) rfl
theorem mk_non : Mk S H0 (tC .non) σ 1 dp := mk_c (fun H => ⟨.non, rfl, Nat.le_refl 1, Nat.zero_le _⟩) rfl
theorem mk_bl {b : Bool} : Mk S H0 (tC (.bl b)) σ 1 dp := mk_c (fun H => ⟨.bl b, rfl, Nat.le_refl 1, Nat.zero_le _⟩) rfl
theorem mk_neg {i : Int} (h : okv (.int (-i)) = true) : Mk S H0 (tUn (rU fun i => .int (-i)) (tC (.int i))) σ 1 dp := fun H Q _ tr q => ⟨i, rfl, q _ (.int (-i)) H (fun _ _ e => e) tr ⟨.int _, h, Nat.le_refl 1, Nat.zero_le _⟩ (Nat.zero_le _)⟩
theorem mk_pow : Mk S H0 (tOp (rI CPow fun i j => .int (i ^ j.toNat)) (tC (.int 10)) (tC (.int 39))) σ 1 dp := fun H Q _ tr q =>
  ⟨10, 39, rfl, rfl, ⟨by decide, by decide, by decide⟩, q _ (.int (10 ^ 39)) H (fun _ _ e => e) tr ⟨.int _, by decide +kernel, Nat.le_refl 1, Nat.zero_le _⟩ (Nat.zero_le _)⟩
theorem mk_dic : Mk S H0 tDNewK σ 1 (dp + 1) := fun H Q _ tr q p hp =>
  q _ (.dict []) _ (same_new hp) (tr.same (same_new hp)) ⟨.dic upd_same (tr.out hp), rfl, Nat.le_refl 1, Nat.succ_le_succ (Nat.zero_le _)⟩ (Nat.zero_le _)
theorem mk_tup (h : MkL S H0 ts σ k dp n) (hn : n ≤ 3 ∧ k ≤ 1000) : Mk S H0 (tTup ts) σ (k + 1) (dp + 1) := fun H Q sm tr q => h H _ sm tr fun vs ds H1 s1 t1 g l =>
  ⟨by rw [l, sizeLine_eq]; omega, fun p hp => q _ (.tuple ds) _ (s1.trans (same_new hp)) (t1.same (same_new hp)) (Gv.tup (g.kp (Kp.new hp)) upd_same (t1.out hp) hn.2) (by
    show ds.length ≤ 3
    rw [← g.1.length, l]
    exact hn.1)⟩
theorem mk_lst (h : MkL S H0 ts σ k dp n) (hn : n ≤ 3 ∧ k ≤ 1000) : Mk S H0 (tLst ts) σ (k + 1) (dp + 1) := fun H Q sm tr q => h H _ sm tr fun vs ds H1 s1 t1 g l =>
  ⟨by rw [l, sizeLine_eq]; omega, fun p hp => q _ (.list ds) _ (s1.trans (same_new hp)) (t1.same (same_new hp)) (Gv.lst (g.kp (Kp.new hp)) upd_same (t1.out hp) hn.2) (Nat.zero_le _)⟩
theorem mk_nil : MkL S H0 tNil σ 0 dp 0 := fun H Q sm tr q => q [] [] H (fun _ _ e => e) tr (GvL.nil.mono (Nat.le_refl 0) (Nat.zero_le _)) rfl
theorem mk_cons (h : Mk S H0 t σ k dp) (hs : MkL S H0 ts σ k2 dp n) : MkL S H0 (tCons t ts) σ (k + k2) dp (n + 1) := fun H Q sm tr q => h H _ sm tr fun v d H1 s1 t1 g1 _ =>
  hs H1 _ (sm.trans s1) t1 fun vs ds H2 s2 t2 g2 l => q (v :: vs) (d :: ds) H2 (s1.trans s2) t2 (GvL.cons (g1.kp (Kp.of s2)) g2) (by rw [List.length_cons, l])
theorem mka_nil : MkA S H0 tNil σ K dp 0 := fun H Q sm tr q => q [] H (fun _ _ e => e) tr (fun v m => nomatch m) rfl
theorem mka_cons (h : Mk S H0 t σ k dp) (hk : k ≤ K) (hs : MkA S H0 ts σ K dp n) : MkA S H0 (tCons t ts) σ K dp (n + 1) := fun H Q sm tr q => h H _ sm tr fun v d H1 s1 t1 g1 r1 =>
  hs H1 _ (sm.trans s1) t1 fun vs H2 s2 t2 g2 l => q (v :: vs) H2 (s1.trans s2) t2 (fun u m => by
    rcases List.mem_cons.mp m with rfl | m
    · exact ⟨d, (g1.kp (Kp.of s2)).mono hk (Nat.le_refl _), r1⟩
    · exact g2 u m) (by rw [List.length_cons, l])
theorem mka_lst {H : Hp} {Q : VK} (h : MkA S H ts σ K dp n) (tr : Trk S H) (hn : n ≤ 100000) (q : ∀ (p : Addr) (H' : Hp) (vs : List V), Same H H' → Trk S H' → H' p = some (.lst vs) → p ∉ S → vs.length = n → Every S H' vs K dp → Q (.ref p) H') : tLst ts σ H Q :=
  h H _ (fun _ _ e => e) tr fun vs H1 s1 t1 g l => ⟨by rw [l, sizeLine_eq]; omega, fun p hp => q p _ vs (s1.trans (same_new hp)) (t1.same (same_new hp)) upd_same (t1.out hp) l (g.same (same_new hp))⟩
/-- a list's display, set to a name -/
theorem set_lst {H : Hp} {g : TG} {u : TS} {D : Ends} (h : MkA S H ts σ K dp n) (tr : Trk S H) (hn : n ≤ 100000) (q : ∀ (p : Addr) (H' : Hp) (vs : List V), Same H H' → Trk S H' → H' p = some (.lst vs) → p ∉ S → vs.length = n → Every S H' vs K dp → g (.ref p) σ H' (u D)) : tSeq (tAsg (tLst ts) g) u D σ H :=
  mka_lst (Q := fun x H1 => g x σ H1 (u D)) h tr hn q
/-- and one more behind it -/
theorem set_cat {H : Hp} {g : TG} {u : TS} {D : Ends} {i m : Nat} {p0 : Addr} {v0 : List V} (e : σ[i]? = some (some (.ref p0))) (e0 : H p0 = some (.lst v0)) (l0 : v0.length = m) (g0 : Every S H v0 K dp) (h : MkA S H ts σ K dp n) (tr : Trk S H) (hn : m + n ≤ 100000)
    (q : ∀ (p : Addr) (H' : Hp) (vs : List V), Same H H' → Trk S H' → H' p = some (.lst vs) → p ∉ S → vs.length = m + n → Every S H' vs K dp → g (.ref p) σ H' (u D)) : tSeq (tAsg (tOp rCat (tVar i) (tLst ts)) g) u D σ H :=
  ⟨_, e, mka_lst h tr (by omega) fun p H1 vs s1 t1 hp np hl g1 => ⟨p0, p, v0, vs, rfl, rfl, s1 _ _ e0, hp, by rw [l0, hl, sizeLine_eq]; omega, fun p2 hp2 => q p2 _ _ (s1.trans (same_new hp2)) (t1.same (same_new hp2)) upd_same (t1.out hp2) (by rw [List.length_append, l0, hl])
    (Every.same (H := H1) (fun v hv => by
      rcases List.mem_append.mp hv with hv | hv
      · exact (g0.same s1) v hv
      · exact g1 v hv) (same_new hp2))⟩⟩
end
theorem Every.get {S : List Addr} {H : Hp} {vs : List V} {k dp i : Nat} (h : Every S H vs k dp) (hi : i < vs.length) : ∃ d, Gv S H vs[i] d k dp ∧ (rows d).length ≤ 3 := h _ (List.getElem_mem hi)
section
variable {P : Program} {w : World} {K : PySem.W.Frag} {mg : PySem.Str → Option Value} {base : Heap}
def sp_odd : Sp := fun vs H Q _ => ∃ (w l : Addr) (C : Nat) (S : List Addr), vs = [.ref w] ∧ Wl H w l C S ∧ C + 1 < LIM ∧
  ∀ (H' : Hp) (v : V) (d : PyData), Kp [w, l] H H' → Wl H' w l (C + 1) S → Gv S H' v d 20 2 → (rows d).length ≤ 3 → Q v H'
theorem ok_odd (T : Txt K mg) : FnOk P w K mg base CX0 3 T.a_odd T.d_odd P_odd sp_odd := by
  refine T.F_odd.ok sc_odd (fun vs H Q E h => by obtain ⟨w, l, C, S, rfl, _⟩ := h; rfl) (fun cdv A outer s H vs Q E hr h => ?_)
  refine ⟨_, (pss_cons (ps_set (i := 1) sc_odd.nd rfl (Or.inl rfl) (pe_lst (pa_cons pe_non (pa_cons pe_bl (pa_cons pe_bl (pa_cons pe_int (pa_cons pe_int (pa_cons pe_int (pa_cons pe_int (pa_cons pe_int (pa_cons (pe_un un_neg pe_int) (pa_cons (pe_op op_pow pe_int pe_int) (pa_cons pe_str (pa_cons pe_str (pa_cons pe_str (pa_cons pe_str (pa_cons pe_str (pa_cons pe_str (pa_cons (pe_tup pa_nil) (pa_cons (pe_tup (pa_cons pe_int pa_nil)) (pa_cons (pe_tup (pa_cons pe_int (pa_cons pe_int pa_nil))) pa_nil)))))))))))))))))))))
    (pss_cons (ps_set (i := 1) sc_odd.nd rfl (Or.inl rfl) (pe_op op_cat (pv 1) (pe_lst (pa_cons (pe_tup (pa_cons pe_int (pa_cons pe_int pa_nil))) (pa_cons (pe_tup (pa_cons pe_bl pa_nil)) (pa_cons (pe_tup (pa_cons pe_int (pa_cons pe_int pa_nil))) (pa_cons (pe_lst pa_nil) (pa_cons (pe_lst (pa_cons pe_int pa_nil)) (pa_cons pe_dnewK (pa_cons (pe_tup (pa_cons pe_str (pa_cons (pe_tup (pa_cons pe_int pa_nil)) pa_nil))) (pa_cons (pe_tup (pa_cons pe_str (pa_cons (pe_tup (pa_cons pe_non (pa_cons pe_int pa_nil))) pa_nil))) (pa_cons (pe_tup (pa_cons pe_str (pa_cons (pe_tup (pa_cons pe_int (pa_cons pe_int (pa_cons pe_int pa_nil)))) pa_nil))) (pa_cons (pe_lst (pa_cons pe_str (pa_cons (pe_tup (pa_cons pe_int pa_nil)) pa_nil))) pa_nil)))))))))))))
    (pss_one (ps_ret (pe_call (ok_one_of T) (hr.mono (by decide)) (by rfl) T.g_one_of T.F_one_of.kp T.b_one_of .nil pass0 (pa_cons (pv 0) (pa_cons (pv 1) pa_nil))))))), ?_⟩
  obtain ⟨w, l, C, S, rfl, hW, hC, q⟩ := h
  have m : ∀ H σ, MkA S H _ σ 20 2 _ := fun H σ => (mka_cons mk_non (by decide +kernel) (mka_cons (mk_bl (b := true)) (by decide +kernel) (mka_cons (mk_bl (b := false)) (by decide +kernel) (mka_cons (mk_int (i := 0) (by decide +kernel)) (by decide +kernel) (mka_cons (mk_int (i := 1) (by decide +kernel)) (by decide +kernel) (mka_cons (mk_int (i := 2) (by decide +kernel)) (by decide +kernel) (mka_cons (mk_int (i := 3) (by decide +kernel)) (by decide +kernel) (mka_cons (mk_int (i := 4) (by decide +kernel)) (by decide +kernel) (mka_cons (mk_neg (i := 1) (by decide +kernel)) (by decide +kernel) (mka_cons mk_pow (by decide +kernel) (mka_cons (mk_str (x := "") (by decide +kernel)) (by decide +kernel) (mka_cons (mk_str (x := "a") (by decide +kernel)) (by decide +kernel) (mka_cons (mk_str (x := "A") (by decide +kernel)) (by decide +kernel) (mka_cons (mk_str (x := "a1") (by decide +kernel)) (by decide +kernel) (mka_cons (mk_str (x := "aaaaaaaaa") (by decide +kernel)) (by decide +kernel) (mka_cons (mk_str (x := "a b") (by decide +kernel)) (by decide +kernel) (mka_cons (mk_tup mk_nil (by decide)) (by decide +kernel) (mka_cons (mk_tup (mk_cons (mk_int (i := 0) (by decide +kernel)) mk_nil) (by decide)) (by decide +kernel) (mka_cons (mk_tup (mk_cons (mk_int (i := 0) (by decide +kernel)) (mk_cons (mk_int (i := 0) (by decide +kernel)) mk_nil)) (by decide)) (by decide +kernel) mka_nil)))))))))))))))))))
  refine set_lst (m _ _) hW.trk (by decide) (fun p1 H1 v1 s1 t1 hp1 np1 l1 g1 => ?_)
  clear m
  have m : ∀ H σ, MkA S H _ σ 20 2 _ := fun H σ => (mka_cons (mk_tup (mk_cons (mk_int (i := 1) (by decide +kernel)) (mk_cons (mk_int (i := 0) (by decide +kernel)) mk_nil)) (by decide)) (by decide +kernel) (mka_cons (mk_tup (mk_cons (mk_bl (b := true)) mk_nil) (by decide)) (by decide +kernel) (mka_cons (mk_tup (mk_cons (mk_int (i := 0) (by decide +kernel)) (mk_cons (mk_int (i := 3) (by decide +kernel)) mk_nil)) (by decide)) (by decide +kernel) (mka_cons (mk_lst mk_nil (by decide)) (by decide +kernel) (mka_cons (mk_lst (mk_cons (mk_int (i := 0) (by decide +kernel)) mk_nil) (by decide)) (by decide +kernel) (mka_cons mk_dic (by decide +kernel) (mka_cons (mk_tup (mk_cons (mk_str (x := "a") (by decide +kernel)) (mk_cons (mk_tup (mk_cons (mk_int (i := 0) (by decide +kernel)) mk_nil) (by decide)) mk_nil)) (by decide)) (by decide +kernel) (mka_cons (mk_tup (mk_cons (mk_str (x := "a") (by decide +kernel)) (mk_cons (mk_tup (mk_cons mk_non (mk_cons (mk_int (i := 0) (by decide +kernel)) mk_nil)) (by decide)) mk_nil)) (by decide)) (by decide +kernel) (mka_cons (mk_tup (mk_cons (mk_str (x := "a") (by decide +kernel)) (mk_cons (mk_tup (mk_cons (mk_int (i := 0) (by decide +kernel)) (mk_cons (mk_int (i := 1) (by decide +kernel)) (mk_cons (mk_int (i := 2) (by decide +kernel)) mk_nil))) (by decide)) mk_nil)) (by decide)) (by decide +kernel) (mka_cons (mk_lst (mk_cons (mk_str (x := "a") (by decide +kernel)) (mk_cons (mk_tup (mk_cons (mk_int (i := 0) (by decide +kernel)) mk_nil) (by decide)) mk_nil)) (by decide)) (by decide +kernel) mka_nil))))))))))
  refine set_cat rfl hp1 l1 g1 (m _ _) t1 (by decide) (fun p2 H2 v2 s2 t2 hp2 np2 l2 g2 => ?_)
  clear m
  have sm := s1.trans s2
  have hW2 := hW.same sm
  refine ⟨_, rfl, _, rfl, w, l, p2, v2, C, rfl, hW2.well, by omega, hW2.nin np2, SqL.of hp2, by omega, by omega, fun H8 i hi k8 hW8 => ?_⟩
  obtain ⟨d, g8, r8⟩ := g2.get hi
  exact q H8 _ d ((Kp.of sm).trans k8) (hW2.draw k8 hW8) (g8.kp (k8.sub hW2.sub)) r8
end
end K02
set_option Elab.async false
set_option linter.all false
set_option maxHeartbeats 4000000
set_option maxRecDepth 100000
/-! k02: a tuple with something otherwise. -/
namespace K02
open PySem PySem.Spec PyProof.Rows L2 Zg Zr Zd Zv
section
variable {K : PySem.W.Frag} {S : List Addr} {H : Hp} {Q : VK} {a b : Addr} {xs ys : List V}
theorem cat_any (tr : Trk S H) (ha : H a = some (.tup xs)) (na : a ∉ S) (hb : H b = some (.tup ys)) (nb : b ∉ S) (hl : xs.length + ys.length ≤ 10000) (q : ∀ (H' : Hp) (p : Addr), Same H H' → H' p = some (.tup (xs ++ ys)) → p ∉ S → Q (.ref p) H') : rCatA K (.ref a) (.ref b) H Q := by
  refine ⟨a, b, xs, ys, rfl, rfl, SqT.of ha, SqT.of hb, by rw [sizeLine_eq]; omega, fun z => ?_, fun _ z => ?_, fun _ _ p hp => ?_⟩
  · exact q H b (Same.refl H) (by rw [hb, z]; rfl) nb
  · exact q H a (Same.refl H) (by rw [ha, z, List.append_nil]) na
  · exact q _ p (same_new hp) upd_same (tr.out hp)
end
theorem if_via {S1 B : TS} {D : Ends} {σ : L2.St} {H : Hp} (Pc : Prop) (h1 : Pc → B D σ H) (h2 : ∀ nx : L2.St → Hp → Prop, (Pc → nx σ H) → S1 { D with nx := nx } σ H) : tSeq S1 B D σ H := h2 _ h1
theorem bulkAll_split (l : List PyData) (j : Nat) : PyData.bulkAll l = PyData.bulkAll (l.take j) + PyData.bulkAll (l.drop j) := by
  rw [← bulkAll_append, List.take_append_drop]
theorem bulkAll_drop {l : List PyData} {j : Nat} {d : PyData} (h : l[j]? = some d) : PyData.bulkAll (l.drop j) = d.bulk + 1 + PyData.bulkAll (l.drop (j + 1)) := by
  obtain ⟨hj, rfl⟩ := List.getElem?_eq_some_iff.mp h
  rw [List.drop_eq_getElem_cons hj]
  rfl
theorem bulkAll_reverse (l : List PyData) : PyData.bulkAll l.reverse = PyData.bulkAll l := by
  induction l with
  | nil => rfl
  | cons x l ih =>
    rw [List.reverse_cons, bulkAll_append, ih]
    show PyData.bulkAll l + (x.bulk + 1 + 0) = x.bulk + 1 + PyData.bulkAll l
    omega
theorem depthAll_le {l : List PyData} {n : Nat} (h : ∀ d ∈ l, d.depth ≤ n) : PyData.depthAll l ≤ n := by
  induction l with
  | nil => exact Nat.zero_le _
  | cons x l ih =>
    have h1 := h x List.mem_cons_self
    have h2 := ih fun d m => h d (List.mem_cons_of_mem _ m)
    show max x.depth (PyData.depthAll l) ≤ n
    omega
theorem DvAll.reverse {S : List Addr} {H : Hp} : ∀ {vs : List V} {ds : List PyData}, DvAll S H vs ds → DvAll S H vs.reverse ds.reverse
  | _, _, .nil => .nil
  | _, _, .cons h t => by
    rw [List.reverse_cons, List.reverse_cons]
    exact (DvAll.reverse t).append (.cons h .nil)
section
variable {S : List Addr} {H : Hp} {vs : List V} {es : List PyData} {k D dp : Nat}
theorem mkL {p : Addr} (hx : DvAll S H vs es) (ok : ∀ d ∈ es, okv d = true ∧ d.depth ≤ D) (hb : PyData.bulkAll es ≤ k) : GvL S H vs es k D := ⟨hx, okvAll_iff.mpr fun d m => (ok d m).1, hb, depthAll_le fun d m => (ok d m).2⟩
theorem mkTup {p : Addr} (e : H p = some (.tup vs)) (n : p ∉ S) (hx : DvAll S H vs es) (ok : ∀ d ∈ es, okv d = true ∧ d.depth ≤ D) (hb : PyData.bulkAll es + 1 ≤ k) (hk : k ≤ 1000) (hD : D + 1 ≤ dp) : Gv S H (.ref p) (.tuple es) k dp :=
  (Gv.tup (mkL (p := p) hx ok (Nat.le_sub_of_add_le hb)) e n (by omega)).mono (by omega) hD
theorem mkLst {p : Addr} (e : H p = some (.lst vs)) (n : p ∉ S) (hx : DvAll S H vs es) (ok : ∀ d ∈ es, okv d = true ∧ d.depth ≤ D) (hb : PyData.bulkAll es + 1 ≤ k) (hk : k ≤ 1000) (hD : D + 1 ≤ dp) : Gv S H (.ref p) (.list es) k dp :=
  (Gv.lst (mkL (p := p) hx ok (Nat.le_sub_of_add_le hb)) e n (by omega)).mono (by omega) hD
end
section
variable {P : Program} {w : World} {K : PySem.W.Frag} {mg : PySem.Str → Option Value} {base : Heap}
def sp_tbent (n : Nat) : Sp := fun vs H Q _ => ∃ (w l : Addr) (C : Nat) (S : List Addr) (v : V) (ds : List PyData) (k dp : Nat), vs = [.ref w, v] ∧ Wl H w l C S ∧ C + 4 * n + 50 < LIM ∧ Gv S H v (.tuple ds) k dp ∧ ds ≠ [] ∧ k ≤ 400 ∧ dp ≤ n ∧
  ∀ (H' : Hp) (v' : V) (d' : PyData), Kp [w, l] H H' → Wl H' w l (C + 4 * n + 5) S → Gv S H' v' d' (2 * k + 20) (dp + 2) → (rows d').length ≤ ds.length + 1 → Q v' H'
theorem fn_none {k : Nat} {f : Addr} {fd : FuncData} {ps : List PySem.Str} : FnOk P w K mg base CX0 k f fd ps (fun _ _ _ _ => False) := ⟨fun _ _ _ _ h => h.elim, fun _ _ _ _ _ _ _ _ _ _ _ _ _ h => h.elim⟩
theorem ok_tbent_of (T : Txt K mg) {n : Nat} {spB : Sp} (hB : FnOk P w K mg base CX0 (n + 3) T.a_tuple_bent T.d_tuple_bent P_tuple_bent spB) (eB : ∀ m, n = m + 1 → spB = sp_tbent m) : FnOk P w K mg base CX0 (n + 4) T.a_tuple_bent T.d_tuple_bent P_tuple_bent (sp_tbent n) := by
  refine T.F_tuple_bent.ok sc_tuple_bent (fun vs H Q E h => by obtain ⟨w, l, C, S, v, d, k, dp, rfl, _⟩ := h; rfl) (fun cdv A outer s H vs Q E hr h => ?_)
  refine ⟨_, (pss_cons (ps_par (i := 2) (j := 3) (by rfl) sc_tuple_bent.nd rfl rfl (by decide) rfl rfl (pa_cons (pe_call (ok_drawn T) (hr.mono (by omega)) (by rfl) T.g_drawn T.F_drawn.kp T.b_drawn .nil pass0 (pa_cons (pv 0) (pa_cons (pe_callB call_len_seq (by rfl) T.n_len (by decide +kernel) (pa_cons (pv 1) pa_nil)) pa_nil))) (pa_cons (pe_call (ok_drawn T) (hr.mono (by omega)) (by rfl) T.g_drawn T.F_drawn.kp T.b_drawn .nil pass0 (pa_cons (pv 0) (pa_cons pe_int pa_nil))) pa_nil)) (by rfl))
    (pss_cons (ps_if (pt_cmpR op_eq (pv 3) pe_int (nomark _)) (pss_one (ps_ret (pe_op op_catA (pe_slice sl_tupA (pv 1) po_none (po_some (pv 2))) (pe_slice sl_tupA (pv 1) (po_some (pe_op op_add (pv 2) pe_int)) po_none)))) pss_nil)
    (pss_cons (ps_if (pt_cmpR op_eq (pv 3) pe_int (nomark _)) (pss_one (ps_ret (pe_op op_catA (pe_slice sl_tupA (pv 1) po_none (po_some (pe_op op_add (pv 2) pe_int))) (pe_slice sl_tupA (pv 1) (po_some (pv 2)) po_none)))) pss_nil)
    (pss_cons (ps_if (pt_cmpR op_eq (pv 3) pe_int (nomark _)) (pss_one (ps_ret (pe_callTy call_list_of (by rfl) T.n_list (by decide +kernel) (pa_cons (pv 1) pa_nil)))) pss_nil)
    (pss_cons (ps_if (pt_cmpR op_eq (pv 3) pe_int (nomark _)) (pss_one (ps_ret (Zw.pe_revT (pv 1)))) pss_nil)
    (pss_cons (ps_set (i := 4) sc_tuple_bent.nd rfl (Or.inl rfl) (pe_ix ix_tup (pv 1) (pv 2) (fun _ _ => rfl)))
    (pss_cons (ps_if (PW.pt (pw_and (pt_cmpR op_gt (pv 3) pe_int (nomark _)) (pw_and (pt_val (pe_callB call_isi (by rfl) T.n_isinstance (by decide +kernel) (pa_cons (pv 4) (pa_cons (pe_bltn (v := .ty "tuple") (u := .type "tuple") (by rfl) T.n_tuple (by decide +kernel) rfl) pa_nil)))) (pw_and1 (pt_cmpR op_gt (pe_callB call_len_seq (by rfl) T.n_len (by decide +kernel) (pa_cons (pv 4) pa_nil)) pe_int (nomark _)))))) (pss_one (ps_ret (pe_op op_catA (pe_op op_catA (pe_slice sl_tupA (pv 1) po_none (po_some (pv 2))) (pe_tup (pa_cons (pe_call hB (hr.mono (by omega)) (by rfl) T.g_tuple_bent T.F_tuple_bent.kp T.b_tuple_bent .nil pass0 (pa_cons (pv 0) (pa_cons (pv 4) pa_nil))) pa_nil))) (pe_slice sl_tupA (pv 1) (po_some (pe_op op_add (pv 2) pe_int)) po_none)))) pss_nil)
    (pss_one (ps_ret (pe_op op_catA (pe_op op_catA (pe_slice sl_tupA (pv 1) po_none (po_some (pv 2))) (pe_tup (pa_cons (pe_call (ok_odd T) (hr.mono (by omega)) (by rfl) T.g_odd T.F_odd.kp T.b_odd .nil pass0 (pa_cons (pv 0) pa_nil)) pa_nil))) (pe_slice sl_tupA (pv 1) (po_some (pe_op op_add (pv 2) pe_int)) po_none))))))))))), ?_⟩
  obtain ⟨w, l, C, S, v, ds, k, dp, rfl, hW, hC, hg, hne, hk, hn, q⟩ := h
  have s2 := hW.sub
  obtain ⟨a, xs, ds0, rfl, e0, ha, na, hx⟩ := hg.1.tuple rfl
  cases e0
  have hxl := hx.length
  have hx0 : 0 < ds.length := by
    cases ds with
    | nil => exact absurd rfl hne
    | cons x xs => exact Nat.succ_pos _
  have naw := hW.nin na
  have hb : PyData.bulkAll ds + 1 ≤ k := hg.2.2.1
  have hdd : PyData.depthAll ds + 1 ≤ dp := hg.2.2.2
  have okd := (okv_tup hg.2.1).2
  have hlk := bulkAll_len ds
  have fine0 : ∀ d ∈ ds, okv d = true ∧ d.depth + 1 ≤ dp := fun d m => by
    have := depth_mem m
    exact ⟨okd d m, by omega⟩
  have fine : ∀ d ∈ ds, okv d = true ∧ d.depth ≤ dp + 1 := fun d m => by
    obtain ⟨h1, h2⟩ := fine0 d m
    exact ⟨h1, by omega⟩
  refine ⟨_, rfl, _, rfl, a, _, rfl, .inr (SqT.of ha), w, l, (xs.length : Nat), C, rfl, hW.well, by omega, by omega, by omega, fun H2 at' k2 hW2 a0 a1 => ?_⟩
  replace hW2 := hW.draw k2 hW2
  refine ⟨_, rfl, w, l, 7, C + 1, rfl, hW2.well, by omega, by decide, by decide, fun H3 way k3 hW3 w0 w1 => ⟨_, _, rfl, ?_⟩⟩
  replace hW3 := hW2.draw k3 hW3
  have kH3 := k2.trans k3
  have ha3 := kH3 _ _ naw ha
  obtain ⟨j, rfl⟩ := Int.eq_ofNat_of_zero_le a0
  have hj : j < xs.length := by omega
  obtain ⟨dj, hdj, hvj⟩ := (hx.kp (kH3.sub s2)).get (List.getElem?_eq_getElem hj)
  have mj := List.mem_of_getElem? hdj
  have sj := bulkAll_split ds j
  have sj1 := bulkAll_split ds (j + 1)
  have dj1 := bulkAll_drop hdj
  have hat : atI xs (j : Int) = some xs[j] := atI_nat (j := j) (List.getElem?_eq_getElem hj)
  have hW3t : Trk S H3 := hW3.trk
  have hwl : (rows (.tuple ds)).length ≤ ds.length := Nat.le_refl _
  refine ⟨_, rfl, rfl, _, congrArg V.bl dec_int, ite2 (fun _ => ?_) (fun _ => ?_)⟩
  · -- one part less
    refine ⟨_, rfl, ?_⟩
    dsimp only [tNoPart]
    refine ⟨_, rfl, (j : Int), rfl, ?_⟩
    refine sl_to (S := S) (K := K) (k := j) hW3.trk na ha3 rfl fun H4 p4 k4 hp4 np4 => ?_
    have hW4 := hW3.same k4
    refine ⟨_, rfl, ?_⟩
    refine ⟨_, rfl, _, _, rfl, rfl, _, rfl, ?_⟩
    dsimp only [tNoPart]
    refine sl_from (S := S) (K := K) (k := j + 1) hW4.trk na (k4 _ _ ha3) rfl fun H5 p5 k5 hp5 np5 => ?_
    have hW5 := hW4.same k5
    refine cat_any (S := S) hW5.trk (k5 _ _ hp4) np4 hp5 np5 (by rw [List.length_take, List.length_drop]; omega) fun H6 p6 k6 hp6 np6 => ?_
    have kH6 := ((kH3.trans (Kp.of k4)).trans (Kp.of k5)).trans (Kp.of k6)
    have hx6 := hx.kp (kH6.sub s2)
    refine q H6 _ (.tuple (ds.take (j) ++ ds.drop (j + 1))) kH6 ((hW5.same k6).mono (by omega)) (mkTup (D := dp + 1) hp6 np6 ((hx6.take _).append (hx6.drop _)) (fun d m => ?_) ?_ (by omega) (by omega)) ?_
    · rcases List.mem_append.mp m with m | m
      · exact fine d (List.mem_of_mem_take m)
      · exact fine d (List.mem_of_mem_drop m)
    · rw [bulkAll_append]
      omega
    · show (ds.take (j) ++ ds.drop (j + 1)).length ≤ _
      rw [List.length_append, List.length_take, List.length_drop]
      omega
  refine ⟨_, rfl, rfl, _, congrArg V.bl dec_int, ite2 (fun _ => ?_) (fun _ => ?_)⟩
  · -- one part twice
    refine ⟨_, rfl, ?_⟩
    dsimp only [tNoPart]
    refine ⟨_, rfl, _, _, rfl, rfl, _, rfl, ?_⟩
    refine sl_to (S := S) (K := K) (k := j + 1) hW3.trk na ha3 rfl fun H4 p4 k4 hp4 np4 => ?_
    have hW4 := hW3.same k4
    refine ⟨_, rfl, ?_⟩
    refine ⟨_, rfl, (j : Int), rfl, ?_⟩
    dsimp only [tNoPart]
    refine sl_from (S := S) (K := K) (k := j) hW4.trk na (k4 _ _ ha3) rfl fun H5 p5 k5 hp5 np5 => ?_
    have hW5 := hW4.same k5
    refine cat_any (S := S) hW5.trk (k5 _ _ hp4) np4 hp5 np5 (by rw [List.length_take, List.length_drop]; omega) fun H6 p6 k6 hp6 np6 => ?_
    have kH6 := ((kH3.trans (Kp.of k4)).trans (Kp.of k5)).trans (Kp.of k6)
    have hx6 := hx.kp (kH6.sub s2)
    refine q H6 _ (.tuple (ds.take (j + 1) ++ ds.drop (j))) kH6 ((hW5.same k6).mono (by omega)) (mkTup (D := dp + 1) hp6 np6 ((hx6.take _).append (hx6.drop _)) (fun d m => ?_) ?_ (by omega) (by omega)) ?_
    · rcases List.mem_append.mp m with m | m
      · exact fine d (List.mem_of_mem_take m)
      · exact fine d (List.mem_of_mem_drop m)
    · rw [bulkAll_append]
      omega
    · show (ds.take (j + 1) ++ ds.drop (j)).length ≤ _
      rw [List.length_append, List.length_take, List.length_drop]
      omega
  refine ⟨_, rfl, rfl, _, congrArg V.bl dec_int, ite2 (fun _ => ?_) (fun _ => ?_)⟩
  · -- a list
    refine ⟨_, rfl, a, xs, rfl, .inr (SqT.of ha3), fun p4 hp4 => ?_⟩
    have k4 := same_new (o := .lst xs) hp4
    have kH4 := kH3.trans (Kp.of k4)
    exact q _ _ (.list ds) kH4 ((hW3.same k4).mono (by omega)) (mkLst (D := dp + 1) upd_same (hW3t.out hp4) (hx.kp (kH4.sub s2)) fine (by omega) (by omega) (by omega)) (Nat.zero_le _)
  refine ⟨_, rfl, rfl, _, congrArg V.bl dec_int, ite2 (fun _ => ?_) (fun _ => ?_)⟩
  · -- turned about
    refine ⟨_, rfl, a, xs, rfl, SqT.of ha3, fun p4 hp4 => ?_⟩
    have k4 := same_new (o := .tup xs.reverse) hp4
    have kH4 := kH3.trans (Kp.of k4)
    exact q _ _ (.tuple ds.reverse) kH4 ((hW3.same k4).mono (by omega)) (mkTup (D := dp + 1) upd_same (hW3t.out hp4) (DvAll.reverse (hx.kp (kH4.sub s2))) (fun d m => fine d (List.mem_reverse.mp m)) (by rw [bulkAll_reverse]; omega) (by omega) (by omega)) (by show ds.reverse.length ≤ _; rw [List.length_reverse]; omega)
  -- the end of both ways: what stands at j
  have fin : ∀ (H4 H7 H9 : Hp) (p9 : Addr) (v5 : V) (d5 : PyData), Kp [w, l] H H9 → Wl H9 w l (C + 4 * n + 5) S → Dv S H9 v5 d5 → okv d5 = true → d5.bulk + 1 ≤ 2 * (dj.bulk + 1) + 20 → d5.depth ≤ dp + 1 → H9 p9 = some (.tup (xs.take j ++ [v5] ++ xs.drop (j + 1))) → p9 ∉ S → Q (.ref p9) H9 := by
    intro H4 H7 H9 p9 v5 d5 kH9 hW9 g1 g2 g3 g4 hp9 np9
    have hx9 := hx.kp (kH9.sub s2)
    refine q H9 _ (.tuple (ds.take j ++ [d5] ++ ds.drop (j + 1))) kH9 hW9 (mkTup (D := dp + 1) hp9 np9 (((hx9.take _).append (.cons g1 .nil)).append (hx9.drop _)) (fun d m => ?_) ?_ (by omega) (by omega)) ?_
    · rcases List.mem_append.mp m with m | m
      · rcases List.mem_append.mp m with m | m
        · exact fine d (List.mem_of_mem_take m)
        · rw [List.mem_singleton] at m
          subst m
          exact ⟨g2, g4⟩
      · exact fine d (List.mem_of_mem_drop m)
    · rw [bulkAll_append, bulkAll_append]
      show PyData.bulkAll (ds.take j) + (d5.bulk + 1 + 0) + _ + 1 ≤ _
      omega
    · show (ds.take j ++ [d5] ++ ds.drop (j + 1)).length ≤ _
      rw [List.length_append, List.length_append, List.length_take, List.length_drop, List.length_singleton]
      omega
  obtain ⟨hjo, hjd⟩ := fine0 dj mj
  refine ⟨_, rfl, _, rfl, a, xs, (j : Int), _, rfl, rfl, SqT.of ha3, hat, ?_⟩
  try dsimp only [tNext]
  -- the last steps, once for both
  refine if_via True (fun _ => ?_) (fun nx cont => ?_)
  · refine ⟨_, rfl, ?_⟩
    dsimp only [tNoPart]
    refine ⟨_, rfl, (j : Int), rfl, ?_⟩
    refine sl_to (S := S) (K := K) (k := j) hW3.trk na ha3 rfl fun H4 p4 k4 hp4 np4 => ?_
    have hW4 := hW3.same k4
    have kH4 := kH3.trans (Kp.of k4)
    refine ⟨_, rfl, w, l, C + 1 + 1, S, rfl, hW4, by omega, fun H5 v5 d5 k5 hW5 g5 r5 => ?_⟩
    refine ⟨by show 1 ≤ sizeLine; decide, fun p6 hp6 => ?_⟩
    have k6 := same_new (o := .tup [v5]) hp6
    have np6 := hW5.out hp6
    have hW6 := hW5.same k6
    have kH6 := (kH4.trans k5).trans (Kp.of k6)
    have hp4' : H5 p4 = some (.tup (xs.take j)) := k5 _ _ (hW.nin np4) hp4
    refine cat_any (S := S) hW6.trk (k6 _ _ hp4') np4 upd_same np6 (by rw [List.length_take]; show min j xs.length + 1 ≤ 10000; omega) fun H7 p7 k7 hp7 np7 => ?_
    have kH7 := kH6.trans (Kp.of k7)
    have hW7 := hW6.same k7
    refine ⟨_, rfl, ?_⟩
    refine ⟨_, rfl, _, _, rfl, rfl, _, rfl, ?_⟩
    dsimp only [tNoPart]
    refine sl_from (S := S) (K := K) (k := j + 1) hW7.trk na (kH7 _ _ naw ha) rfl fun H8 p8 k8 hp8 np8 => ?_
    have hW8 := hW7.same k8
    refine cat_any (S := S) hW8.trk (k8 _ _ hp7) np7 hp8 np8 (by rw [List.length_append, List.length_take, List.length_drop]; show min j xs.length + 1 + _ ≤ 10000; omega) fun H9 p9 k9 hp9 np9 => ?_
    have kH9 := (kH7.trans (Kp.of k8)).trans (Kp.of k9)
    have g9 := g5.kp (((Kp.of (S := S) k6).trans (Kp.of k7)).trans ((Kp.of k8).trans (Kp.of k9)))
    have := g9.2.2.1
    have := g9.2.2.2
    exact fin H9 H9 H9 p9 v5 d5 kH9 ((hW8.same k9).mono (by omega)) g9.1 g9.2.1 (by omega) (by omega) hp9 np9
  refine ⟨_, rfl, _, _, rfl, rfl, _, rfl, ite2 (fun _ => ?_) (fun _ => cont True.intro)⟩
  refine ⟨_, rfl, xs[j], .ty "tuple", _, _, _, rfl, .ty _, hvj.ty, kit_all K _ (by decide) _ (tyD_mem dj), ?_⟩
  rcases (Bool.eq_false_or_eq_true (isA "tuple" dj)).symm with et | et
  · have et' : isB "tuple" (tyD dj) = false := et
    rw [et']
    exact ⟨_, rfl, cont True.intro⟩
  have et' : isB "tuple" (tyD dj) = true := et
  rw [et']
  refine ⟨_, rfl, ?_⟩
  obtain ⟨b, ys, es, evj, rfl, hbb, nb, hy⟩ := hvj.tuple et
  have hyl := hy.length
  refine ⟨_, rfl, b, ys, by rw [evj], .inr (SqT.of hbb), _, _, rfl, rfl, _, rfl, ite2 (fun e3 => ?_) (fun e3 => cont True.intro)⟩
  -- a part otherwise
  have hn0 : n ≠ 0 := fun z => by
    have := (fine0 _ mj).2
    omega
  obtain ⟨m, rfl⟩ := Nat.exists_eq_succ_of_ne_zero hn0
  have eS := eB m rfl
  subst eS
  refine ⟨_, rfl, ?_⟩
  dsimp only [tNoPart]
  refine ⟨_, rfl, (j : Int), rfl, ?_⟩
  refine sl_to (S := S) (K := K) (k := j) hW3.trk na ha3 rfl fun H4 p4 k4 hp4 np4 => ?_
  have hW4 := hW3.same k4
  have kH4 := kH3.trans (Kp.of k4)
  have ge : Gv S H4 xs[j] (.tuple es) ((PyData.tuple es).bulk + 1) (dp - 1) := ⟨hvj.kp (Kp.of k4), hjo, Nat.le_refl _, by omega⟩
  have hes : es ≠ [] := fun z => by
    rw [z] at hyl
    have e3 : (0 : Int) < (ys.length : Int) := of_decide_eq_true e3
    rw [hyl] at e3
    exact absurd e3 (by decide)
  have hjb : (PyData.tuple es).bulk + 1 ≤ k := by omega
  refine ⟨_, rfl, _, rfl, w, l, C + 1 + 1, S, xs[j], es, (PyData.tuple es).bulk + 1, dp - 1, rfl, hW4, by omega, ge, hes, by omega, by omega, fun H5 v5 d5 k5 hW5 g5 r5 => ?_⟩
  refine ⟨by show 1 ≤ sizeLine; decide, fun p6 hp6 => ?_⟩
  have k6 := same_new (o := .tup [v5]) hp6
  have np6 := hW5.out hp6
  have hW6 := hW5.same k6
  have kH6 := (kH4.trans k5).trans (Kp.of k6)
  have hp4' : H5 p4 = some (.tup (xs.take j)) := k5 _ _ (hW.nin np4) hp4
  refine cat_any (S := S) hW6.trk (k6 _ _ hp4') np4 upd_same np6 (by rw [List.length_take]; show min j xs.length + 1 ≤ 10000; omega) fun H7 p7 k7 hp7 np7 => ?_
  have kH7 := kH6.trans (Kp.of k7)
  have hW7 := hW6.same k7
  refine ⟨_, rfl, ?_⟩
  refine ⟨_, rfl, _, _, rfl, rfl, _, rfl, ?_⟩
  dsimp only [tNoPart]
  refine sl_from (S := S) (K := K) (k := j + 1) hW7.trk na (kH7 _ _ naw ha) rfl fun H8 p8 k8 hp8 np8 => ?_
  have hW8 := hW7.same k8
  refine cat_any (S := S) hW8.trk (k8 _ _ hp7) np7 hp8 np8 (by rw [List.length_append, List.length_take, List.length_drop]; show min j xs.length + 1 + _ ≤ 10000; omega) fun H9 p9 k9 hp9 np9 => ?_
  have kH9 := (kH7.trans (Kp.of k8)).trans (Kp.of k9)
  have g9 := g5.kp (((Kp.of (S := S) k6).trans (Kp.of k7)).trans ((Kp.of k8).trans (Kp.of k9)))
  have h1 := g9.2.2.1
  have h2 := g9.2.2.2
  exact fin H9 H9 H9 p9 v5 d5 kH9 ((hW8.same k9).mono (by omega)) g9.1 g9.2.1 h1 (by omega) hp9 np9
theorem ok_tbent_n (T : Txt K mg) : ∀ n : Nat, FnOk P w K mg base CX0 (n + 4) T.a_tuple_bent T.d_tuple_bent P_tuple_bent (sp_tbent n)
  | 0 => ok_tbent_of T fn_none (fun m e => nomatch e)
  | n + 1 => ok_tbent_of T (n := n + 1) (ok_tbent_n T n) (fun m e => by
    have e : n = m := by omega
    rw [e])
theorem ok_tuple_bent (T : Txt K mg) : FnOk P w K mg base CX0 11 T.a_tuple_bent T.d_tuple_bent P_tuple_bent (sp_tbent 7) := ok_tbent_n T 7
end
end K02
set_option Elab.async false
set_option linter.all false
set_option maxHeartbeats 4000000
set_option maxRecDepth 100000
/-! k02: the parts with one put otherwise. -/
namespace K02
open PySem PySem.Spec PyProof.Rows L2 Zg Zr Zd Zv
theorem if_viaH {S1 B : TS} {D : Ends} {σ : L2.St} {H : Hp} (Pc : Hp → Prop) (h1 : ∀ H', Pc H' → B D σ H') (h2 : ∀ nx : L2.St → Hp → Prop, (∀ H', Pc H' → nx σ H') → S1 { D with nx := nx } σ H) : tSeq S1 B D σ H := h2 _ h1
/-- the parts of a store, of any kind -/
structure Pt (S : List Addr) (H : Hp) (p : Addr) (sd ad rd : PyData) (k dp r : Nat) : Prop where
  at_ : ∃ sv av rv, H p = some (.lst [sv, av, rv]) ∧ Gv S H sv sd k dp ∧ Gv S H av ad k dp ∧ Gv S H rv rd k dp
  np : p ∉ S
  rw_ : (rows ad).length ≤ r
theorem Pt.kp {S : List Addr} {H H' : Hp} {p : Addr} {sd ad rd : PyData} {k dp r : Nat} (h : Pt S H p sd ad rd k dp r) (q : Kp S H H') : Pt S H' p sd ad rd k dp r := by
  obtain ⟨⟨sv, av, rv, h1, h2, h3, h4⟩, n, r⟩ := h
  exact ⟨⟨sv, av, rv, q _ _ n h1, h2.kp q, h3.kp q, h4.kp q⟩, n, r⟩
theorem idx6 {i : Nat} (h : i < ([.int 0, .int 1, .int 1, .int 1, .int 2, .int 2] : List V).length) : ∃ j : Nat, j < 3 ∧ ([.int 0, .int 1, .int 1, .int 1, .int 2, .int 2] : List V)[i] = .int (j : Nat) := by
  have h' : i < 6 := h
  rcases (by omega : i = 0 ∨ i = 1 ∨ i = 2 ∨ i = 3 ∨ i = 4 ∨ i = 5) with rfl | rfl | rfl | rfl | rfl | rfl
  · exact ⟨0, by decide, rfl⟩
  · exact ⟨1, by decide, rfl⟩
  · exact ⟨1, by decide, rfl⟩
  · exact ⟨1, by decide, rfl⟩
  · exact ⟨2, by decide, rfl⟩
  · exact ⟨2, by decide, rfl⟩
section
variable {P : Program} {w : World} {K : PySem.W.Frag} {mg : PySem.Str → Option Value} {base : Heap}
def sp_bent : Sp := fun vs H Q _ => ∃ (w l : Addr) (C : Nat) (S : List Addr) (p : Addr) (sd ad rd : PyData) (k dp r : Nat), vs = [.ref w, .ref p] ∧ Wl H w l C S ∧ C + 100 < LIM ∧ Pt S H p sd ad rd k dp r ∧ 20 ≤ k ∧ k ≤ 400 ∧ dp ≤ 7 ∧ 2 ≤ r ∧
  ∀ (H' : Hp) (p' : Addr) (sd' ad' rd' : PyData), Kp [w, l] H H' → Wl H' w l (C + 50) S → Pt S H' p' sd' ad' rd' (2 * k + 20) (dp + 2) (r + 1) → Q (.ref p') H'
theorem ok_bent (T : Txt K mg) : FnOk P w K mg base CX0 12 T.a_bent T.d_bent P_bent sp_bent := by
  refine T.F_bent.ok sc_bent (fun vs H Q E h => by obtain ⟨w, l, C, S, p, sd, ad, rd, k, dp, r, rfl, _⟩ := h; rfl) (fun cdv A outer s H vs Q E hr h => ?_)
  refine ⟨_, (pss_cons (ps_set (i := 2) sc_bent.nd rfl (Or.inl rfl) (pe_call (ok_one_of T) (hr.mono (by decide)) (by rfl) T.g_one_of T.F_one_of.kp T.b_one_of .nil pass0 (pa_cons (pv 0) (pa_cons (pe_lst (pa_cons pe_int (pa_cons pe_int (pa_cons pe_int (pa_cons pe_int (pa_cons pe_int (pa_cons pe_int pa_nil))))))) pa_nil))))
    (pss_cons (ps_set (i := 3) sc_bent.nd rfl (Or.inl rfl) (pe_ix ix_list (pv 1) (pv 2) (fun _ _ => rfl)))
    (pss_cons (ps_if (PW.pt (pw_and (pt_val (pe_callB call_isi (by rfl) T.n_isinstance (by decide +kernel) (pa_cons (pv 3) (pa_cons (pe_bltn (v := .ty "tuple") (u := .type "tuple") (by rfl) T.n_tuple (by decide +kernel) rfl) pa_nil)))) (pw_and (pt_cmpR op_gt (pe_callB call_len_seq (by rfl) T.n_len (by decide +kernel) (pa_cons (pv 3) pa_nil)) pe_int (nomark _)) (pw_and1 (pt_cmpR op_gt (pe_call (ok_drawn T) (hr.mono (by decide)) (by rfl) T.g_drawn T.F_drawn.kp T.b_drawn .nil pass0 (pa_cons (pv 0) (pa_cons pe_int pa_nil))) pe_int (nomark _)))))) (pss_one (ps_ret (pe_op op_cat (pe_op op_cat (pe_slice sl_list (pv 1) po_none (po_some (pv 2))) (pe_lst (pa_cons (pe_call (ok_tuple_bent T) (hr.mono (by decide)) (by rfl) T.g_tuple_bent T.F_tuple_bent.kp T.b_tuple_bent .nil pass0 (pa_cons (pv 0) (pa_cons (pv 3) pa_nil))) pa_nil))) (pe_slice sl_list (pv 1) (po_some (pe_op op_add (pv 2) pe_int)) po_none)))) pss_nil)
    (pss_one (ps_ret (pe_op op_cat (pe_op op_cat (pe_slice sl_list (pv 1) po_none (po_some (pv 2))) (pe_lst (pa_cons (pe_call (ok_odd T) (hr.mono (by decide)) (by rfl) T.g_odd T.F_odd.kp T.b_odd .nil pass0 (pa_cons (pv 0) pa_nil)) pa_nil))) (pe_slice sl_list (pv 1) (po_some (pe_op op_add (pv 2) pe_int)) po_none))))))), ?_⟩
  obtain ⟨w, l, C, S, p, sd, ad, rd, k, dp, r, rfl, hW, hC, ⟨⟨sv, av, rv, hp, gs, ga, gr⟩, np, hr2⟩, hk0, hk, hdp, hr3, q⟩ := h
  have s2 := hW.sub
  have npw := hW.nin np
  refine ⟨_, rfl, by show 6 ≤ sizeLine; decide, fun p0 hp0 => ⟨w, l, p0, _, C, rfl, (hW.same (same_new hp0)).well, by omega, hW.nin (hW.out hp0), SqL.of upd_same, by decide, by decide, fun H1 i hi k1 hW1 => ?_⟩⟩
  have k1 := (Kp.of (S := [w, l]) (same_new (o := .lst [.int 0, .int 1, .int 1, .int 1, .int 2, .int 2]) hp0)).trans k1
  have hW1 := hW.draw k1 hW1
  obtain ⟨j, hj, ej⟩ := idx6 hi
  rw [ej]
  have hp1 := k1 _ _ npw hp
  have gs1 := gs.kp (k1.sub s2)
  have ga1 := ga.kp (k1.sub s2)
  have gr1 := gr.kp (k1.sub s2)
  obtain ⟨vj, dj, hvj, gj, rj⟩ : ∃ vj dj, atI [sv, av, rv] (j : Int) = some vj ∧ Gv S H1 vj dj k dp ∧ (j = 1 → (rows dj).length ≤ r) := by
    rcases (by omega : j = 0 ∨ j = 1 ∨ j = 2) with rfl | rfl | rfl
    · exact ⟨sv, sd, rfl, gs1, fun z => nomatch z⟩
    · exact ⟨av, ad, rfl, ga1, fun _ => hr2⟩
    · exact ⟨rv, rd, rfl, gr1, fun z => nomatch z⟩
  have fin : ∀ (H9 : Hp) (p9 : Addr) (v5 : V) (d5 : PyData), Kp [w, l] H H9 → Wl H9 w l (C + 50) S → Gv S H9 v5 d5 (2 * k + 20) (dp + 2) → (j = 1 → (rows d5).length ≤ r + 1) → H9 p9 = some (.lst ([sv, av, rv].take j ++ [v5] ++ [sv, av, rv].drop (j + 1))) → p9 ∉ S → Q (.ref p9) H9 := by
    intro H9 p9 v5 d5 k9 hW9 g5 r5 hp9 np9
    have gs9 := (gs.kp (k9.sub s2)).mono (k' := 2 * k + 20) (dp' := dp + 2) (by omega) (by omega)
    have ga9 := (ga.kp (k9.sub s2)).mono (k' := 2 * k + 20) (dp' := dp + 2) (by omega) (by omega)
    have gr9 := (gr.kp (k9.sub s2)).mono (k' := 2 * k + 20) (dp' := dp + 2) (by omega) (by omega)
    rcases (by omega : j = 0 ∨ j = 1 ∨ j = 2) with rfl | rfl | rfl
    · exact q H9 p9 d5 ad rd k9 hW9 ⟨⟨_, _, _, hp9, g5, ga9, gr9⟩, np9, by omega⟩
    · exact q H9 p9 sd d5 rd k9 hW9 ⟨⟨_, _, _, hp9, gs9, g5, gr9⟩, np9, r5 rfl⟩
    · exact q H9 p9 sd ad d5 k9 hW9 ⟨⟨_, _, _, hp9, gs9, ga9, g5⟩, np9, by omega⟩
  refine ⟨_, rfl, _, rfl, p, [sv, av, rv], (j : Int), vj, rfl, rfl, SqL.of hp1, hvj, ?_⟩
  try dsimp only [tNext]
  show tSeq (tIfS _ _ _) _ _ _ _
  refine if_viaH (fun H' => Kp [w, l] H1 H' ∧ Wl H' w l (C + 2) S) (fun H2 hH2 => ?_) (fun nx cont => ?_)
  · obtain ⟨k2, hW2⟩ := hH2
    have kH2 := k1.trans k2
    refine ⟨_, rfl, ?_⟩
    dsimp only [tNoPart]
    refine ⟨_, rfl, (j : Int), rfl, p, [sv, av, rv], rfl, SqL.of (kH2 _ _ npw hp), fun p4 hp4 => ?_⟩
    rw [cut_to [sv, av, rv] j (by show j ≤ 3; omega)]
    have k4 := same_new (o := .lst ([sv, av, rv].take j)) hp4
    have np4 := hW2.out hp4
    have hW4 := hW2.same k4
    have kH4 := kH2.trans (Kp.of k4)
    refine ⟨_, rfl, w, l, C + 2, S, rfl, hW4, by omega, fun H5 v5 d5 k5 hW5 g5 r5 => ?_⟩
    refine ⟨by show 1 ≤ sizeLine; decide, fun p6 hp6 => ?_⟩
    have k6 := same_new (o := .lst [v5]) hp6
    have hW6 := hW5.same k6
    have kH6 := (kH4.trans k5).trans (Kp.of k6)
    have hp4' := k6 _ _ (k5 _ _ (hW.nin np4) (upd_same (H := H2) (a := p4) (o := .lst ([sv, av, rv].take j))))
    refine ⟨p4, p6, _, _, rfl, rfl, hp4', upd_same, by rw [List.length_take, sizeLine_eq]; show min j 3 + 1 ≤ _; omega, fun p7 hp7 => ?_⟩
    have k7 := same_new (o := .lst ([sv, av, rv].take j ++ [v5])) hp7
    have hW7 := hW6.same k7
    have kH7 := kH6.trans (Kp.of k7)
    refine ⟨_, rfl, ?_⟩
    dsimp only [tNoPart]
    refine ⟨_, rfl, _, _, rfl, rfl, _, rfl, p, [sv, av, rv], rfl, SqL.of (kH7 _ _ npw hp), fun p8 hp8 => ?_⟩
    rw [show (j : Int) + 1 = ((j + 1 : Nat) : Int) from rfl, cut_from [sv, av, rv] (j + 1) (by show j + 1 ≤ 3; omega)]
    have k8 := same_new (o := .lst ([sv, av, rv].drop (j + 1))) hp8
    have hW8 := hW7.same k8
    refine ⟨p7, p8, _, _, rfl, rfl, k8 _ _ upd_same, upd_same, by rw [List.length_append, List.length_take, List.length_drop, sizeLine_eq]; show min j 3 + 1 + (3 - _) ≤ _; omega, fun p9 hp9 => ?_⟩
    have k9 := same_new (o := .lst ([sv, av, rv].take j ++ [v5] ++ [sv, av, rv].drop (j + 1))) hp9
    have hW9 := hW8.same k9
    have g9 := g5.kp (((Kp.of (S := S) k6).trans (Kp.of k7)).trans ((Kp.of k8).trans (Kp.of k9)))
    exact fin _ p9 v5 d5 ((kH7.trans (Kp.of k8)).trans (Kp.of k9)) (hW9.mono (by omega)) (g9.mono (by omega) (by omega)) (fun _ => by omega) upd_same (hW8.out hp9)
  refine ⟨_, rfl, vj, .ty "tuple", _, _, _, rfl, .ty _, gj.1.ty, kit_all K _ (by decide) _ (tyD_mem dj), ?_⟩
  rcases (Bool.eq_false_or_eq_true (isA "tuple" dj)).symm with et | et
  · have et' : isB "tuple" (tyD dj) = false := et
    rw [et']
    exact ⟨_, rfl, cont H1 ⟨Kp.refl _ _, hW1.mono (by omega)⟩⟩
  have et' : isB "tuple" (tyD dj) = true := et
  rw [et']
  obtain ⟨b, ys, es, evj, rfl, hbb, nb, hy⟩ := gj.1.tuple et
  have hyl := hy.length
  refine ⟨_, rfl, ?_⟩
  refine ⟨_, rfl, b, ys, by rw [evj], .inr (SqT.of hbb), _, _, rfl, rfl, _, rfl, ite2 (fun e3 => ?_) (fun e3 => cont H1 ⟨Kp.refl _ _, hW1.mono (by omega)⟩)⟩
  have hes : es ≠ [] := fun z => by
    rw [z] at hyl
    have e3 : (0 : Int) < (ys.length : Int) := of_decide_eq_true e3
    rw [hyl] at e3
    exact absurd e3 (by decide)
  refine ⟨_, rfl, w, l, 4, C + 1, rfl, hW1.well, by omega, by decide, by decide, fun H2 r2 k2 hW2 _ _ => ?_⟩
  have hW2 := hW1.draw k2 hW2
  have kH2 := k1.trans k2
  refine ⟨_, _, rfl, rfl, _, rfl, ite2 (fun e4 => ?_) (fun e4 => cont H2 ⟨k2, hW2⟩)⟩
  refine ⟨_, rfl, ?_⟩
  dsimp only [tNoPart]
  refine ⟨_, rfl, (j : Int), rfl, p, [sv, av, rv], rfl, SqL.of (kH2 _ _ npw hp), fun p4 hp4 => ?_⟩
  rw [cut_to [sv, av, rv] j (by show j ≤ 3; omega)]
  have k4 := same_new (o := .lst ([sv, av, rv].take j)) hp4
  have np4 := hW2.out hp4
  have hW4 := hW2.same k4
  have kH4 := kH2.trans (Kp.of k4)
  refine ⟨_, rfl, _, rfl, w, l, C + 2, S, vj, es, k, dp, rfl, hW4, by omega, (gj.kp (k2.sub s2)).kp (Kp.of k4), hes, hk, hdp, fun H5 v5 d5 k5 hW5 g5 r5 => ?_⟩
  refine ⟨by show 1 ≤ sizeLine; decide, fun p6 hp6 => ?_⟩
  have k6 := same_new (o := .lst [v5]) hp6
  have hW6 := hW5.same k6
  have kH6 := (kH4.trans k5).trans (Kp.of k6)
  have hp4' := k6 _ _ (k5 _ _ (hW.nin np4) (upd_same (H := H2) (a := p4) (o := .lst ([sv, av, rv].take j))))
  refine ⟨p4, p6, _, _, rfl, rfl, hp4', upd_same, by rw [List.length_take, sizeLine_eq]; show min j 3 + 1 ≤ _; omega, fun p7 hp7 => ?_⟩
  have k7 := same_new (o := .lst ([sv, av, rv].take j ++ [v5])) hp7
  have hW7 := hW6.same k7
  have kH7 := kH6.trans (Kp.of k7)
  refine ⟨_, rfl, ?_⟩
  dsimp only [tNoPart]
  refine ⟨_, rfl, _, _, rfl, rfl, _, rfl, p, [sv, av, rv], rfl, SqL.of (kH7 _ _ npw hp), fun p8 hp8 => ?_⟩
  rw [show (j : Int) + 1 = ((j + 1 : Nat) : Int) from rfl, cut_from [sv, av, rv] (j + 1) (by show j + 1 ≤ 3; omega)]
  have k8 := same_new (o := .lst ([sv, av, rv].drop (j + 1))) hp8
  have hW8 := hW7.same k8
  refine ⟨p7, p8, _, _, rfl, rfl, k8 _ _ upd_same, upd_same, by rw [List.length_append, List.length_take, List.length_drop, sizeLine_eq]; show min j 3 + 1 + (3 - _) ≤ _; omega, fun p9 hp9 => ?_⟩
  have k9 := same_new (o := .lst ([sv, av, rv].take j ++ [v5] ++ [sv, av, rv].drop (j + 1))) hp9
  have hW9 := hW8.same k9
  have g9 := g5.kp (((Kp.of (S := S) k6).trans (Kp.of k7)).trans ((Kp.of k8).trans (Kp.of k9)))
  exact fin _ p9 v5 d5 ((kH7.trans (Kp.of k8)).trans (Kp.of k9)) (hW9.mono (by omega)) (g9.mono (by omega) (by omega)) (fun z => Nat.le_trans r5 (Nat.succ_le_succ (rj z))) upd_same (hW8.out hp9)
end
end K02
set_option Elab.async false
set_option linter.all false
set_option maxHeartbeats 4000000
set_option maxRecDepth 100000
/-! k02: a store made by the class itself, in each way. -/
namespace K02
open PySem PySem.Spec PyProof.Rows L2 Zg Zr Zd Zv
section
variable {P : Program} {w : World} {K : PySem.W.Frag} {mg : PySem.Str → Option Value} {base : Heap}
def sp_initA (T : Txt K mg) : List V → Sp := fun zs vs H Q E => zs = [] ∧ sp_init T [.ref T.dfl] vs H Q E
def sp_initB (T : Txt K mg) : List V → Sp := fun zs vs H Q E => ∃ x sv, vs = [x] ∧ zs = [sv] ∧ sp_init T [.ref T.dfl] [x, sv] H Q E
def sp_initC (T : Txt K mg) : List V → Sp := fun zs vs H Q E => ∃ x sv r, vs = [x] ∧ zs = [sv, r] ∧ sp_init T [r] [x, sv] H Q E
theorem init_len {T : Txt K mg} {zs vs : List V} {H : Hp} {Q : VK} {E : XK} (h : sp_init T zs vs H Q E) : 2 ≤ vs.length ∧ vs.length ≤ sizeLine := by
  obtain ⟨p, dx, S, sv, sd, rest', ds, r, rd, rfl, rfl, hpS, hp, hsv, osv, hx, ox, h20, _⟩ := h
  have := hx.length
  refine ⟨by show 2 ≤ _ + 1 + 1; omega, ?_⟩
  show _ + 1 + 1 ≤ _
  rw [sizeLine_eq]
  omega
theorem ok_initA (T : Txt K mg) : Sk.FnK P w K mg base (L2N.CX P w) 6 T.a_Store_init [] (sp_initA T) := by
  refine Xc.fn_starG (n := 2) (pb := ["self", "size", "resting"]) (pv := "actions") (Rr := fun _ => True) (fun us _ => us ++ [.ref T.dfl]) (fun vs _ => vs ++ [.ref T.dfl]) T.F_Store_init sc_Store_init cxUpN
    (fun vs zs us ws h1 h2 r rz => ⟨r.append (.cons (show L2.RelV (V.ref T.dfl) (Value.ref T.dfl) from rfl) .nil), by rw [List.length_append, h1]; rfl⟩)
    (fun kV doc pm an cdv ct us rest ws s A Q E e h1 h2 _ hk q => ?_) (fun cdv A outer s H vs rest zs Q E hr hl hz h pt hpt => ?_) (fun zs vs H Q E h => ⟨(init_len h.2).1, (init_len h.2).2, True.intro⟩)
  · have ek := T.k_dfl
    rw [e] at ek
    have ek : kV = .ref T.dfD := ek
    subst ek
    rw [e]
    refine Xc.KwTo.run hk T.n_dfl ?_ q
    match us, ws, rest, h1, h2 with
    | [a, b], [], [], _, _ => exact ⟨_, _, _, _, _, _, rfl, rfl, rfl⟩
    | [a, b], [], r :: rs, _, _ => exact ⟨_, _, _, _, _, _, rfl, rfl, rfl⟩
  · exact init_body T cdv A outer s H vs rest [.ref T.dfl] Q E hr hl h.2 pt hpt
theorem ok_initB (T : Txt K mg) : Sk.FnK P w K mg base (L2N.CX P w) 6 T.a_Store_init ["size"] (sp_initB T) := by
  refine Xc.fn_starG (n := 1) (pb := ["self", "size", "resting"]) (pv := "actions") (Rr := fun k => k = 0) (fun us ws => us ++ ws ++ [.ref T.dfl]) (fun vs zs => vs ++ zs ++ [.ref T.dfl]) T.F_Store_init sc_Store_init cxUpN
    (fun vs zs us ws h1 h2 r rz => ⟨(r.append rz).append (.cons (show L2.RelV (V.ref T.dfl) (Value.ref T.dfl) from rfl) .nil), by rw [List.length_append, List.length_append, h1, h2]; rfl⟩)
    (fun kV doc pm an cdv ct us rest ws s A Q E e h1 h2 h3 hk q => ?_) (fun cdv A outer s H vs rest zs Q E hr hl hz h pt hpt => ?_) (fun zs vs H Q E h => ?_)
  · have ek := T.k_dfl
    rw [e] at ek
    have ek : kV = .ref T.dfD := ek
    subst ek
    rw [e]
    refine Xc.KwTo.run hk T.n_dfl ?_ q
    match us, ws, rest, h1, h2, h3 with
    | [a], [b], [], _, _, _ => exact ⟨_, _, _, _, _, _, rfl, rfl, rfl⟩
  · obtain ⟨x, sv, ev, rfl, h⟩ := h
    match vs, rest, hl, ev with
    | [y], [], _, ev =>
      cases ev
      exact init_body T cdv A outer s H [x, sv] [] [.ref T.dfl] Q E hr rfl h pt hpt
  · obtain ⟨x, sv, rfl, rfl, h⟩ := h
    exact ⟨Nat.le_refl 1, by show 1 ≤ sizeLine; decide, rfl⟩
theorem ok_initC (T : Txt K mg) : Sk.FnK P w K mg base (L2N.CX P w) 6 T.a_Store_init ["size", "resting"] (sp_initC T) := by
  refine Xc.fn_starG (n := 1) (pb := ["self", "size", "resting"]) (pv := "actions") (Rr := fun k => k = 0) (fun us ws => us ++ ws) (fun vs zs => vs ++ zs) T.F_Store_init sc_Store_init cxUpN
    (fun vs zs us ws h1 h2 r rz => ⟨r.append rz, by rw [List.length_append, h1, h2]; rfl⟩)
    (fun kV doc pm an cdv ct us rest ws s A Q E e h1 h2 h3 hk q => ?_) (fun cdv A outer s H vs rest zs Q E hr hl hz h pt hpt => ?_) (fun zs vs H Q E h => ?_)
  · rw [e]
    match us, ws, rest, h1, h2, h3 with
    | [a], [b, c], [], _, _, _ => exact q
  · obtain ⟨x, sv, r, ev, rfl, h⟩ := h
    match vs, rest, hl, ev with
    | [y], [], _, ev =>
      cases ev
      exact init_body T cdv A outer s H [x, sv] [] [r] Q E hr rfl h pt hpt
  · obtain ⟨x, sv, r, rfl, rfl, h⟩ := h
    exact ⟨Nat.le_refl 1, by show 1 ≤ sizeLine; decide, rfl⟩
end
end K02
set_option Elab.async false
set_option linter.all false
set_option maxHeartbeats 4000000
set_option maxRecDepth 100000
/-! k02: a store made by the class, as the law does. -/
namespace K02
open PySem PySem.Spec PyProof.Rows L2 Zg Zr Zd Zv
section
variable {P : Program} {w : World} {K : PySem.W.Frag} {mg : PySem.Str → Option Value} {base : Heap}
/-- what is wished of a store that is made -/
def MadeQ (T : Txt K mg) (S : List Addr) (H : Hp) (Q : VK) (E : XK) (sd : PyData) (ds : List PyData) (rd : PyData) : Prop :=
  match chk sd ds rd with
    | none => ∀ (n : Nat) (acts : List Act), sd = .int (n : Nat) → ds = acts.map actD → Acts n acts → ∀ (H' : Hp) (p : Addr) (acts' : List Act) (r : V), Same H H' → H p = none → acts'.Perm acts → Asc acts' → StAt T.C_Store H' S p n acts' r → Rv K S H' r rd → Q (.ref p) H'
    | some f => Bad T S H E f
theorem init_of {T : Txt K mg} {S : List Addr} {H H1 : Hp} {sv r : V} {sd rd : PyData} {xs : List V} {ds : List PyData} {Q : VK} {E : XK} (q : MadeQ T S H Q E sd ds rd) (k1 : Same H H1) (hsv : Dv S H sv sd) (osv : Zv.okv sd = true) (hx : DvAll S H xs ds) (od : okvAll ds = true) (h20 : ds.length ≤ 20) (hrd : Rv K S H r rd) (ord : Zv.okv rd = true) :
    ∀ x dx, H1 x = none → H1 dx = none → dx ≠ x → sp_init T [r] (.ref x :: sv :: xs) (upd (upd H1 dx (.own x)) x (.ins T.C_Store dx [])) (fun v H3 => v = .non ∧ Q (.ref x) H3) E := by
  intro x dx hx0 hdx ne
  have s1 : Same H1 (upd (upd H1 dx (.own x)) x (.ins T.C_Store dx [])) := fun b o e => by
    rw [upd_ne (ne_of_none e hx0)]
    exact same_new hdx _ _ e
  have hS : ∀ a ∈ S, a ∈ x :: S := fun a ha => List.mem_cons_of_mem _ ha
  have kk : Same H (upd (upd H1 dx (.own x)) x (.ins T.C_Store dx [])) := k1.trans s1
  have hss : Dv (x :: S) H1 sv sd := (hsv.kp (Kp.of k1)).fresh hx0
  have hxx : DvAll (x :: S) H1 xs ds := (hx.kp (Kp.of k1)).fresh hx0
  have hrr : Rv K (x :: S) H1 r rd := (hrd.kp (Kp.of k1)).fresh hx0
  have hxH : H x = none := k1.free hx0
  refine ⟨x, dx, x :: S, sv, sd, xs, ds, r, rd, rfl, rfl, List.mem_cons_self, upd_same, hss.kp (Kp.of s1), osv, hxx.kp (Kp.of s1), od, h20, hrr.kp (Kp.of s1), ord, ?_⟩
  unfold MadeQ at q
  cases hc : chk sd ds rd with
  | some f =>
    rw [hc] at q
    exact fun d H' v k h1 h2 => q d H' v (kk.trans k) h1 (h2.sub hS)
  | none =>
    rw [hc] at q
    intro n acts e1 e2 AA H' acts' k' perm asc st
    have k2 : Same H H' := fun b o e => by
      have nb : b ∉ [x] := fun m => by
        cases List.mem_singleton.mp m
        rw [hxH] at e
        cases e
      exact k' _ _ nb (kk _ _ e)
    exact ⟨rfl, q n acts e1 e2 AA H' x acts' r k2 hxH perm asc (st.sub hS) (hrd.kp (Kp.of k2))⟩
def sp_made (T : Txt K mg) : Sp := fun vs H Q E => ∃ (S : List Addr) (sv r : V) (sd rd : PyData) (a : Addr) (xs : List V) (ds : List PyData), vs = [sv, .ref a, r] ∧ Dv S H sv sd ∧ Zv.okv sd = true ∧ H a = some (.tup xs) ∧ DvAll S H xs ds ∧ okvAll ds = true ∧ ds.length ≤ 6 ∧ Dv S H r rd ∧ Zv.okv rd = true ∧ MadeQ T S H Q E sd ds rd
theorem len_2 {α : Type} {l : List α} (h : l.length = 2) : ∃ a0 a1, l = [a0, a1] := by
  match l, h with
  | [a0, a1], _ => exact ⟨a0, a1, rfl⟩
theorem len_3 {α : Type} {l : List α} (h : l.length = 3) : ∃ a0 a1 a2, l = [a0, a1, a2] := by
  match l, h with
  | [a0, a1, a2], _ => exact ⟨a0, a1, a2, rfl⟩
theorem len_4 {α : Type} {l : List α} (h : l.length = 4) : ∃ a0 a1 a2 a3, l = [a0, a1, a2, a3] := by
  match l, h with
  | [a0, a1, a2, a3], _ => exact ⟨a0, a1, a2, a3, rfl⟩
theorem len_5 {α : Type} {l : List α} (h : l.length = 5) : ∃ a0 a1 a2 a3 a4, l = [a0, a1, a2, a3, a4] := by
  match l, h with
  | [a0, a1, a2, a3, a4], _ => exact ⟨a0, a1, a2, a3, a4, rfl⟩
theorem len_6 {α : Type} {l : List α} (h : l.length = 6) : ∃ a0 a1 a2 a3 a4 a5, l = [a0, a1, a2, a3, a4, a5] := by
  match l, h with
  | [a0, a1, a2, a3, a4, a5], _ => exact ⟨a0, a1, a2, a3, a4, a5, rfl⟩
theorem isE_eq {d : PyData} (h : Xq.isE d = true) : d = .tuple [] := by
  cases d with
  | tuple ds => cases ds with
    | nil => rfl
    | cons _ _ => cases h
  | _ => cases h
theorem ok_made (T : Txt K mg) : FnOk P w K mg base (L2N.CX P w) 8 T.a_made T.d_made P_made (sp_made T) := by
  refine Xv.okXN T.F_made sc_made (fun vs H Q E h => by obtain ⟨S, sv, r, sd, rd, a, xs, ds, rfl, _⟩ := h; rfl) (fun cdv A outer s H vs Q E hr h => ?_)
  refine ⟨_, (pss_cons (ps_if (pt_cmpR op_eq (pe_callB call_len_seq (by rfl) T.n_len (by decide +kernel) (pa_cons (pv 1) pa_nil)) pe_int (nomark _)) (pss_one (ps_ret (pe_ifExp (pt_cmpR (Xq.op_eqV (Nat.lt_of_le_of_lt (Nat.le_add_right _ 64) hr.units)) (pv 2) (pe_tup pa_nil) (nomark _)) (Xc.pe_cls0K T.mk_Store (ok_initB T) (hr.mono (by decide)) (by rfl) T.g_Store (L2N.passes_call (L2N.takes_of rfl rfl rfl rfl) (fun _ _ _ _ h => h)) (pk_cons (pv 0) pk_nil)) (Xc.pe_cls0K T.mk_Store (ok_initC T) (hr.mono (by decide)) (by rfl) T.g_Store (L2N.passes_call (L2N.takes_of rfl rfl rfl rfl) (fun _ _ _ _ h => h)) (pk_cons (pv 0) (pk_cons (pv 2) pk_nil)))))) pss_nil)
    (pss_cons (ps_if (pt_cmpR op_eq (pe_callB call_len_seq (by rfl) T.n_len (by decide +kernel) (pa_cons (pv 1) pa_nil)) pe_int (nomark _)) (pss_one (ps_ret (pe_ifExp (pt_cmpR (Xq.op_eqV (Nat.lt_of_le_of_lt (Nat.le_add_right _ 64) hr.units)) (pv 2) (pe_tup pa_nil) (nomark _)) (Xc.pe_clsP T.mk_Store (ok_initA T) (hr.mono (by decide)) (by rfl) T.g_Store (L2N.passes_call (L2N.takes_of rfl rfl rfl rfl) (fun _ _ _ _ h => h)) (pa_cons (pv 0) (pa_cons (pe_ix ix_tup (pv 1) pe_int (fun _ _ => rfl)) pa_nil))) (Xc.pe_clsPK T.mk_Store (ok_Store_init T) (hr.mono (by decide)) (by rfl) T.g_Store (L2N.passes_call (L2N.takes_of rfl rfl rfl rfl) (fun _ _ _ _ h => h)) (pa_cons (pv 0) (pa_cons (pe_ix ix_tup (pv 1) pe_int (fun _ _ => rfl)) pa_nil)) (pk_cons (pv 2) pk_nil))))) pss_nil)
    (pss_cons (ps_if (pt_cmpR op_eq (pe_callB call_len_seq (by rfl) T.n_len (by decide +kernel) (pa_cons (pv 1) pa_nil)) pe_int (nomark _)) (pss_one (ps_ret (Xc.pe_clsPK T.mk_Store (ok_Store_init T) (hr.mono (by decide)) (by rfl) T.g_Store (L2N.passes_call (L2N.takes_of rfl rfl rfl rfl) (fun _ _ _ _ h => h)) (pa_cons (pv 0) (pa_cons (pe_ix ix_tup (pv 1) pe_int (fun _ _ => rfl)) (pa_cons (pe_ix ix_tup (pv 1) pe_int (fun _ _ => rfl)) pa_nil))) (pk_cons (pv 2) pk_nil)))) pss_nil)
    (pss_cons (ps_if (pt_cmpR op_eq (pe_callB call_len_seq (by rfl) T.n_len (by decide +kernel) (pa_cons (pv 1) pa_nil)) pe_int (nomark _)) (pss_one (ps_ret (Xc.pe_clsPK T.mk_Store (ok_Store_init T) (hr.mono (by decide)) (by rfl) T.g_Store (L2N.passes_call (L2N.takes_of rfl rfl rfl rfl) (fun _ _ _ _ h => h)) (pa_cons (pv 0) (pa_cons (pe_ix ix_tup (pv 1) pe_int (fun _ _ => rfl)) (pa_cons (pe_ix ix_tup (pv 1) pe_int (fun _ _ => rfl)) (pa_cons (pe_ix ix_tup (pv 1) pe_int (fun _ _ => rfl)) pa_nil)))) (pk_cons (pv 2) pk_nil)))) pss_nil)
    (pss_cons (ps_if (pt_cmpR op_eq (pe_callB call_len_seq (by rfl) T.n_len (by decide +kernel) (pa_cons (pv 1) pa_nil)) pe_int (nomark _)) (pss_one (ps_ret (Xc.pe_clsPK T.mk_Store (ok_Store_init T) (hr.mono (by decide)) (by rfl) T.g_Store (L2N.passes_call (L2N.takes_of rfl rfl rfl rfl) (fun _ _ _ _ h => h)) (pa_cons (pv 0) (pa_cons (pe_ix ix_tup (pv 1) pe_int (fun _ _ => rfl)) (pa_cons (pe_ix ix_tup (pv 1) pe_int (fun _ _ => rfl)) (pa_cons (pe_ix ix_tup (pv 1) pe_int (fun _ _ => rfl)) (pa_cons (pe_ix ix_tup (pv 1) pe_int (fun _ _ => rfl)) pa_nil))))) (pk_cons (pv 2) pk_nil)))) pss_nil)
    (pss_cons (ps_if (pt_cmpR op_eq (pe_callB call_len_seq (by rfl) T.n_len (by decide +kernel) (pa_cons (pv 1) pa_nil)) pe_int (nomark _)) (pss_one (ps_ret (Xc.pe_clsPK T.mk_Store (ok_Store_init T) (hr.mono (by decide)) (by rfl) T.g_Store (L2N.passes_call (L2N.takes_of rfl rfl rfl rfl) (fun _ _ _ _ h => h)) (pa_cons (pv 0) (pa_cons (pe_ix ix_tup (pv 1) pe_int (fun _ _ => rfl)) (pa_cons (pe_ix ix_tup (pv 1) pe_int (fun _ _ => rfl)) (pa_cons (pe_ix ix_tup (pv 1) pe_int (fun _ _ => rfl)) (pa_cons (pe_ix ix_tup (pv 1) pe_int (fun _ _ => rfl)) (pa_cons (pe_ix ix_tup (pv 1) pe_int (fun _ _ => rfl)) pa_nil)))))) (pk_cons (pv 2) pk_nil)))) pss_nil)
    (pss_one (ps_ret (Xc.pe_clsPK T.mk_Store (ok_Store_init T) (hr.mono (by decide)) (by rfl) T.g_Store (L2N.passes_call (L2N.takes_of rfl rfl rfl rfl) (fun _ _ _ _ h => h)) (pa_cons (pv 0) (pa_cons (pe_ix ix_tup (pv 1) pe_int (fun _ _ => rfl)) (pa_cons (pe_ix ix_tup (pv 1) pe_int (fun _ _ => rfl)) (pa_cons (pe_ix ix_tup (pv 1) pe_int (fun _ _ => rfl)) (pa_cons (pe_ix ix_tup (pv 1) pe_int (fun _ _ => rfl)) (pa_cons (pe_ix ix_tup (pv 1) pe_int (fun _ _ => rfl)) (pa_cons (pe_ix ix_tup (pv 1) pe_int (fun _ _ => rfl)) pa_nil))))))) (pk_cons (pv 2) pk_nil)))))))))), ?_⟩
  obtain ⟨S, sv, r, sd, rd, a, xs, ds, rfl, hsv, osv, ha, hx, od, h6, hrd, ord, q⟩ := h
  have hl := hx.length
  have hlen : ∀ k : Nat, ((xs.length : Int) == (k : Nat)) = true → xs.length = k := fun k e => by
    have := beq_iff_eq.mp e
    omega
  refine ⟨_, rfl, a, xs, rfl, .inr (SqT.of ha), rfl, _, congrArg V.bl dec_int, ite2 (fun e => ?_) (fun e0 => ?_)⟩
  · have e := hlen 0 e
    obtain rfl : xs = [] := List.length_eq_zero_iff.mp e
    refine ⟨_, rfl, by show 0 ≤ sizeLine; decide, fun p0 hp0 => ⟨S, rd, p0, hrd.kp (Kp.new hp0), rfl, SqT.of upd_same, ?_⟩⟩
    have k0 := same_new (o := .tup []) hp0
    cases hx
    refine ⟨_, rfl, ite2 (fun e0 => ?_) (fun _ => ?_)⟩
    · exact ⟨_, rfl, rfl, fun x dx h1 h2 h3 => ⟨.ref x, sv, rfl, rfl, init_of q k0 hsv osv .nil od (by omega) (.inr ⟨T.dfl, rfl, isE_eq e0, T.e_dfl⟩) ord x dx h1 h2 h3⟩⟩
    · exact ⟨_, rfl, _, rfl, rfl, fun x dx h1 h2 h3 => ⟨.ref x, sv, r, rfl, rfl, init_of q k0 hsv osv .nil od (by omega) (.inl hrd) ord x dx h1 h2 h3⟩⟩
  refine ⟨_, rfl, a, xs, rfl, .inr (SqT.of ha), rfl, _, congrArg V.bl dec_int, ite2 (fun e => ?_) (fun e1 => ?_)⟩
  · have e := hlen 1 e
    obtain ⟨x0, rfl⟩ := List.length_eq_one_iff.mp e
    refine ⟨_, rfl, by show 0 ≤ sizeLine; decide, fun p0 hp0 => ⟨S, rd, p0, hrd.kp (Kp.new hp0), rfl, SqT.of upd_same, ?_⟩⟩
    have k0 := same_new (o := .tup []) hp0
    have ha0 := k0 _ _ ha
    refine ⟨_, rfl, ite2 (fun e0 => ?_) (fun _ => ?_)⟩
    · exact ⟨_, rfl, _, rfl, a, _, 0, x0, rfl, rfl, SqT.of ha0, rfl, fun x dx h1 h2 h3 => ⟨rfl, init_of q k0 hsv osv hx od (by omega) (.inr ⟨T.dfl, rfl, isE_eq e0, T.e_dfl⟩) ord x dx h1 h2 h3⟩⟩
    · exact ⟨_, rfl, _, rfl, a, _, 0, x0, rfl, rfl, SqT.of ha0, rfl, _, rfl, rfl, fun x dx h1 h2 h3 => init_of q k0 hsv osv hx od (by omega) (.inl hrd) ord x dx h1 h2 h3⟩
  refine ⟨_, rfl, a, xs, rfl, .inr (SqT.of ha), rfl, _, congrArg V.bl dec_int, ite2 (fun e => ?_) (fun e2 => ?_)⟩
  · have e := hlen 2 e
    obtain ⟨x0, x1, rfl⟩ := len_2 e
    exact ⟨_, rfl, _, rfl, a, _, 0, x0, rfl, rfl, SqT.of ha, rfl, _, rfl, a, _, 1, x1, rfl, rfl, SqT.of ha, rfl, _, rfl, rfl, fun x dx h1 h2 h3 => init_of q (Same.refl H) hsv osv hx od (by omega) (.inl hrd) ord x dx h1 h2 h3⟩
  refine ⟨_, rfl, a, xs, rfl, .inr (SqT.of ha), rfl, _, congrArg V.bl dec_int, ite2 (fun e => ?_) (fun e3 => ?_)⟩
  · have e := hlen 3 e
    obtain ⟨x0, x1, x2, rfl⟩ := len_3 e
    exact ⟨_, rfl, _, rfl, a, _, 0, x0, rfl, rfl, SqT.of ha, rfl, _, rfl, a, _, 1, x1, rfl, rfl, SqT.of ha, rfl, _, rfl, a, _, 2, x2, rfl, rfl, SqT.of ha, rfl, _, rfl, rfl, fun x dx h1 h2 h3 => init_of q (Same.refl H) hsv osv hx od (by omega) (.inl hrd) ord x dx h1 h2 h3⟩
  refine ⟨_, rfl, a, xs, rfl, .inr (SqT.of ha), rfl, _, congrArg V.bl dec_int, ite2 (fun e => ?_) (fun e4 => ?_)⟩
  · have e := hlen 4 e
    obtain ⟨x0, x1, x2, x3, rfl⟩ := len_4 e
    exact ⟨_, rfl, _, rfl, a, _, 0, x0, rfl, rfl, SqT.of ha, rfl, _, rfl, a, _, 1, x1, rfl, rfl, SqT.of ha, rfl, _, rfl, a, _, 2, x2, rfl, rfl, SqT.of ha, rfl, _, rfl, a, _, 3, x3, rfl, rfl, SqT.of ha, rfl, _, rfl, rfl, fun x dx h1 h2 h3 => init_of q (Same.refl H) hsv osv hx od (by omega) (.inl hrd) ord x dx h1 h2 h3⟩
  refine ⟨_, rfl, a, xs, rfl, .inr (SqT.of ha), rfl, _, congrArg V.bl dec_int, ite2 (fun e => ?_) (fun e5 => ?_)⟩
  · have e := hlen 5 e
    obtain ⟨x0, x1, x2, x3, x4, rfl⟩ := len_5 e
    exact ⟨_, rfl, _, rfl, a, _, 0, x0, rfl, rfl, SqT.of ha, rfl, _, rfl, a, _, 1, x1, rfl, rfl, SqT.of ha, rfl, _, rfl, a, _, 2, x2, rfl, rfl, SqT.of ha, rfl, _, rfl, a, _, 3, x3, rfl, rfl, SqT.of ha, rfl, _, rfl, a, _, 4, x4, rfl, rfl, SqT.of ha, rfl, _, rfl, rfl, fun x dx h1 h2 h3 => init_of q (Same.refl H) hsv osv hx od (by omega) (.inl hrd) ord x dx h1 h2 h3⟩
  have e : xs.length = 6 := by
    have ne : ∀ k : Nat, ¬ ((xs.length : Int) == (k : Nat)) = true → xs.length ≠ k := fun k h z => h (by rw [z]; exact beq_self_eq_true _)
    have := ne 0 e0
    have := ne 1 e1
    have := ne 2 e2
    have := ne 3 e3
    have := ne 4 e4
    have := ne 5 e5
    omega
  obtain ⟨x0, x1, x2, x3, x4, x5, rfl⟩ := len_6 e
  exact ⟨_, rfl, _, rfl, a, _, 0, x0, rfl, rfl, SqT.of ha, rfl, _, rfl, a, _, 1, x1, rfl, rfl, SqT.of ha, rfl, _, rfl, a, _, 2, x2, rfl, rfl, SqT.of ha, rfl, _, rfl, a, _, 3, x3, rfl, rfl, SqT.of ha, rfl, _, rfl, a, _, 4, x4, rfl, rfl, SqT.of ha, rfl, _, rfl, a, _, 5, x5, rfl, rfl, SqT.of ha, rfl, _, rfl, rfl, fun x dx h1 h2 h3 => init_of q (Same.refl H) hsv osv hx od (by omega) (.inl hrd) ord x dx h1 h2 h3⟩
end
end K02
set_option Elab.async false
set_option linter.all false
set_option maxHeartbeats 4000000
set_option maxRecDepth 100000
/-! k02: what the law is told of a store. -/
namespace K02
open PySem PySem.Spec PyProof.Rows L2 Zg Zr Zd Zv
section
variable {P : Program} {w : World} {K : PySem.W.Frag} {mg : PySem.Str → Option Value} {base : Heap}
/-- a store, or a list of the part -/
def TellQ (T : Txt K mg) (S : List Addr) (H : Hp) (Q : VK) (sd ad rd : PyData) : Prop :=
  match flt sd ad rd with
    | none => ∀ (n : Nat) (acts : List Act), sd = .int (n : Nat) → ad = .tuple (acts.map actD) → Acts n acts → ∀ (H' : Hp) (p : Addr) (acts' : List Act) (r : V), Same H H' → H p = none → acts'.Perm acts → Asc acts' → StAt T.C_Store H' S p n acts' r → Rv K S H' r rd → Q (.ref p) H'
    | some f => ∀ (H' : Hp) (p : Addr) (v : V), Same H H' → H p = none → H' p = some (.lst [v]) → Dv S H' v f → Q (.ref p) H'
def sp_lof (T : Txt K mg) : Sp := fun vs H Q _ => ∃ (S : List Addr) (sv av r : V) (sd ad rd : PyData), vs = [sv, av, r] ∧ Dv S H sv sd ∧ Zv.okv sd = true ∧ Dv S H av ad ∧ Zv.okv ad = true ∧ (rows ad).length ≤ 20 ∧ Dv S H r rd ∧ Zv.okv rd = true ∧ TellQ T S H Q sd ad rd
theorem ok_of (T : Txt K mg) : FnOk P w K mg base CX0 10 T.a_of T.d_of P_of (sp_lof T) := by
  refine T.F_of.ok sc_of (fun vs H Q E h => by obtain ⟨S, sv, av, r, sd, ad, rd, rfl, _⟩ := h; rfl) (fun cdv A outer s H vs Q E hr h => ?_)
  refine ⟨_, (pss_cons (ps_set (i := 3) sc_of.nd rfl (Or.inl rfl) pe_non)
    (pss_cons (Xt.ps_try_mix rfl rfl sc_of.nd Xt.takes0 (fun W pn xe tk pp => (pss_one (ps_set (i := 3) sc_of.nd rfl (Or.inl rfl) (Xc.pe_cmethS (pe_glob (v := .ref T.C_Store) rfl T.g_Store rfl) T.rd_Store T.me_Store_of (ok_Store_of T) T.b_Store_of (hr.mono (by decide)) (fun σ => L2N.passAt tk σ) (pa_cons (pv 0) (pa_cons (pv 1) (pa_cons (pv 2) pa_nil)))))))
    (Xt.HdsX.named (i := 4) ⟨rfl, by decide, (.inl T.g_BadStore)⟩ rfl rfl (fun a oe cls d pn hz hf => (pss_one (ps_set (i := 3) sc_of.nd rfl (Or.inl rfl) (pe_lst (pa_cons (pe_xf T.E_BadStore.xf (T.E_BadStore.no "part" List.mem_cons_self) ⟨hz.1, hz.2.1⟩ hf (pv 4)) pa_nil)))))
    (Xt.HdsX.bare ⟨rfl, by decide, (.inl T.g_FlowError)⟩ (fun a oe cls d pn hz hf => (pss_one (ps_set (i := 3) sc_of.nd rfl (Or.inl rfl) pe_str)))
    Xt.HdsX.nil)))
    (pss_one (ps_ret (pv 3))))), ?_⟩
  obtain ⟨S, sv, av, r, sd, ad, rd, rfl, hsv, osv, hav, oav, h20, hrd, ord, q⟩ := h
  refine ⟨rfl, _, rfl, _, rfl, _, rfl, S, sv, av, r, sd, ad, rd, rfl, hsv, osv, hav, oav, h20, hrd, ord, ?_⟩
  unfold TellQ at q
  cases hf : flt sd ad rd with
  | none =>
    rw [hf] at q
    intro n acts e1 e2 AA H' p acts' k hp perm asc st
    exact ⟨_, rfl, q n acts e1 e2 AA H' p acts' r k hp perm asc st (.inl (hrd.kp (Kp.of k)))⟩
  | some f =>
    rw [hf] at q
    intro d H' v k hd hv
    have ne : T.C_BadStore ≠ T.C_FlowError := fun e => by
      have h := T.nd
      rw [e] at h
      exact (List.nodup_cons.mp h).1 List.mem_cons_self
    refine ⟨_, T.E_BadStore.exm T.E_BadStore ne, fun _ a ha => ?_, fun z => ?_⟩
    · refine ⟨_, rfl, rfl, rfl, d, _, v, rfl, hd, rfl, by show 1 ≤ sizeLine; decide, fun p hp => ?_⟩
      exact ⟨_, rfl, q _ p v (k.trans (same_new hp)) (k.free hp) upd_same (hv.kp (Kp.new hp))⟩
    · rw [decide_eq_true rfl] at z
      cases z
theorem flt_chk {sd rd : PyData} {ds : List PyData} : flt sd (.tuple ds) rd = chk sd ds rd := by
  unfold flt
  cases hz : isSz sd with
  | true => rw [if_pos rfl]
  | false =>
    rw [if_neg Bool.false_ne_true]
    cases sd with
    | int n =>
      rw [chk_int, if_neg (by rw [hz]; exact Bool.false_ne_true)]
    | _ => rfl
def sp_lbc (T : Txt K mg) : Sp := fun vs H Q _ => ∃ (S : List Addr) (sv r : V) (sd rd : PyData) (a : Addr) (xs : List V) (ds : List PyData), vs = [sv, .ref a, r] ∧ Dv S H sv sd ∧ Zv.okv sd = true ∧ H a = some (.tup xs) ∧ DvAll S H xs ds ∧ okvAll ds = true ∧ ds.length ≤ 6 ∧ Dv S H r rd ∧ Zv.okv rd = true ∧ TellQ T S H Q sd (.tuple ds) rd
theorem ok_by_class (T : Txt K mg) : FnOk P w K mg base CX0 10 T.a_by_class T.d_by_class P_by_class (sp_lbc T) := by
  refine T.F_by_class.ok sc_by_class (fun vs H Q E h => by obtain ⟨S, sv, r, sd, rd, a, xs, ds, rfl, _⟩ := h; rfl) (fun cdv A outer s H vs Q E hr h => ?_)
  refine ⟨_, (pss_cons (ps_set (i := 3) sc_by_class.nd rfl (Or.inl rfl) pe_non)
    (pss_cons (Xt.ps_try_mix rfl rfl sc_by_class.nd Xt.takes0 (fun W pn xe tk pp => (pss_one (ps_set (i := 3) sc_by_class.nd rfl (Or.inl rfl) (pe_callS (ok_made T) (hr.mono (by omega)) (by rfl) T.g_made T.F_made.kp T.b_made (fun σ => L2N.passAt tk σ) (pa_cons (pv 0) (pa_cons (pv 1) (pa_cons (pv 2) pa_nil)))))))
    (Xt.HdsX.named (i := 4) ⟨rfl, by decide, (.inl T.g_BadStore)⟩ rfl rfl (fun a oe cls d pn hz hf => (pss_one (ps_set (i := 3) sc_by_class.nd rfl (Or.inl rfl) (pe_lst (pa_cons (pe_xf T.E_BadStore.xf (T.E_BadStore.no "part" List.mem_cons_self) ⟨hz.1, hz.2.1⟩ hf (pv 4)) pa_nil)))))
    (Xt.HdsX.bare ⟨rfl, by decide, (.inl T.g_FlowError)⟩ (fun a oe cls d pn hz hf => (pss_one (ps_set (i := 3) sc_by_class.nd rfl (Or.inl rfl) pe_str)))
    Xt.HdsX.nil)))
    (pss_one (ps_ret (pv 3))))), ?_⟩
  obtain ⟨S, sv, r, sd, rd, a, xs, ds, rfl, hsv, osv, ha, hx, od, h6, hrd, ord, q⟩ := h
  refine ⟨_, rfl, _, rfl, _, rfl, S, sv, r, sd, rd, a, xs, ds, rfl, hsv, osv, ha, hx, od, h6, hrd, ord, ?_⟩
  unfold TellQ at q
  rw [flt_chk] at q
  unfold MadeQ
  cases hf : chk sd ds rd with
  | none =>
    rw [hf] at q
    intro n acts e1 e2 AA H' p acts' r' k hp perm asc st hr'
    exact ⟨_, rfl, q n acts e1 (by rw [e2]) AA H' p acts' r' k hp perm asc st hr'⟩
  | some f =>
    rw [hf] at q
    intro d H' v k hd hv
    have ne : T.C_BadStore ≠ T.C_FlowError := fun e => by
      have h := T.nd
      rw [e] at h
      exact (List.nodup_cons.mp h).1 List.mem_cons_self
    refine ⟨_, T.E_BadStore.exm T.E_BadStore ne, fun _ a ha => ?_, fun z => ?_⟩
    · refine ⟨_, rfl, rfl, rfl, d, _, v, rfl, hd, rfl, by show 1 ≤ sizeLine; decide, fun p hp => ?_⟩
      exact ⟨_, rfl, q _ p v (k.trans (same_new hp)) (k.free hp) upd_same (hv.kp (Kp.new hp))⟩
    · rw [decide_eq_true rfl] at z
      cases z
end
end K02
set_option Elab.async false
set_option linter.all false
set_option maxHeartbeats 4000000
set_option maxRecDepth 100000
/-! k02: whether a store is the one that is due. -/
namespace K02
open PySem PySem.Spec PyProof.Rows L2 Zg Zr Zd Zv
/-! ### what repr tells of a store -/
theorem bulk_all : ∀ (ds : List PyData) (B : Nat), (∀ d ∈ ds, d.bulk ≤ B) → PyData.bulkAll ds ≤ (B + 1) * ds.length
  | [], _, _ => Nat.zero_le _
  | d :: ds, B, h => by
    have h1 := h d List.mem_cons_self
    have h2 := bulk_all ds B fun x hx => h x (List.mem_cons_of_mem _ hx)
    show d.bulk + 1 + PyData.bulkAll ds ≤ (B + 1) * (ds.length + 1)
    rw [Nat.mul_succ]
    omega
theorem act_bulk {n : Nat} {acts : List Act} (A : Acts n acts) {a : Act} (ha : a ∈ acts) : (actD a).bulk ≤ 20 := by
  have h1 := (isName_ok (A.nm a ha)).2.2
  have h2 := bulk_all (a.2.map mvD) 0 fun d hd => by
    obtain ⟨m, _, rfl⟩ := List.mem_map.mp hd
    cases m <;> exact Nat.le_refl 0
  rw [List.length_map, A.ln a ha] at h2
  have h3 := A.sz
  show a.1.cps.size + 1 + (PyData.bulkAll (a.2.map mvD) + 1 + 0) ≤ 20
  have h4 : a.1.cps.size ≤ 8 := h1
  omega
theorem acts_bulk {n : Nat} {acts : List Act} (A : Acts n acts) : PyData.bulkAll (acts.map actD) ≤ 420 := by
  have h := bulk_all (acts.map actD) 20 fun d hd => by
    obtain ⟨a, ha, rfl⟩ := List.mem_map.mp hd
    exact act_bulk A ha
  rw [List.length_map] at h
  have := A.few
  omega
theorem states_bulk {n : Int} {d : PyData} (h : areStates n d = true) (o : Zv.okv d = true) : d.bulk ≤ 1000 := by
  unfold areStates at h
  split at h
  · rename_i ds
    rw [Bool.and_eq_true, List.all_eq_true] at h
    have h1 := bulk_all ds 0 fun x hx => by
      have := h.1 x hx
      cases x with
      | int i => exact Nat.le_refl 0
      | _ => cases this
    have h2 := (okv_tup o).1
    show PyData.bulkAll ds ≤ 1000
    omega
  · cases h
theorem acts_okv {n : Nat} {acts : List Act} (A : Acts n acts) : okv (.tuple (acts.map actD)) = true := by
  show (decide ((acts.map actD).length ≤ 1000) && okvAll (acts.map actD)) = true
  rw [List.length_map, decide_eq_true (by have := A.few; omega), Bool.true_and, okvAll_iff]
  intro d hd
  obtain ⟨a, ha, rfl⟩ := List.mem_map.mp hd
  exact A.okv a ha
theorem stD_okv {n : Nat} {acts : List Act} {rd : PyData} (A : Acts n acts) (o : Zv.okv rd = true) : okv (stD n acts rd) = true := by
  show (true && (okv (.int (n : Nat)) && (okv (.tuple (acts.map actD)) && (okv rd && true)))) = true
  rw [acts_okv A, o, show okv (.int (n : Nat)) = true from decide_eq_true (by
    have := A.sz
    rw [Int.natAbs_natCast]
    exact Nat.lt_of_lt_of_le (by omega : n < 10) (by decide))]
  rfl
theorem stD_depth {n : Nat} {acts : List Act} {rd : PyData} (h : areStates n rd = true) : (stD n acts rd).depth ≤ 10 := by
  have h2 : PyData.depthAll (acts.map actD) ≤ 2 := depth_all fun d hd => by
    obtain ⟨a, _, rfl⟩ := List.mem_map.mp hd
    exact depth_act a
  have h3 := (states_pln h).2
  show max 0 (max (PyData.depthAll (acts.map actD) + 1) (max rd.depth 0)) + 1 ≤ 10
  omega
theorem stD_bulk {n : Nat} {acts : List Act} {rd : PyData} (A : Acts n acts) (h : areStates n rd = true) (o : Zv.okv rd = true) : (stD n acts rd).bulk ≤ 2000 := by
  have h1 := acts_bulk A
  have h2 := states_bulk h o
  show 0 + 1 + (PyData.bulkAll (acts.map actD) + 1 + (rd.bulk + 1 + 0)) ≤ 2000
  omega
theorem stD_show {n : Nat} {acts : List Act} {rd : PyData} (A : Acts n acts) (h : areStates n rd = true) (o : Zv.okv rd = true) : (stD n acts rd).showable = true ∧ (stD n acts rd).hasDict = false ∧ (stD n acts rd).depth ≤ 60 ∧ (stD n acts rd).shown.length ≤ sizeLine :=
  ⟨(okv_short _ (stD_okv A o)).2, PyData.hasDict_of_canLay _ (pln_lay _ (stD_pln h) (stD_okv A o)), Nat.le_trans (stD_depth h) (by decide), okv_fits (stD_okv A o) (Nat.le_trans (stD_bulk A h o) (by decide))⟩
theorem same_name {acts : List Act} (nd : (acts.map (·.1)).Nodup) {a b : Act} (ha : a ∈ acts) (hb : b ∈ acts) (e : a.1 = b.1) : a = b := by
  induction acts with
  | nil => cases ha
  | cons c l ih =>
    rw [List.map_cons, List.nodup_cons] at nd
    rcases List.mem_cons.mp ha with ea | ha'
    · rcases List.mem_cons.mp hb with eb | hb'
      · rw [ea, eb]
      · rw [ea] at e
        exact absurd (List.mem_map.mpr ⟨b, hb', e.symm⟩) nd.1
    · rcases List.mem_cons.mp hb with eb | hb'
      · rw [eb] at e
        exact absurd (List.mem_map.mpr ⟨a, ha', e⟩) nd.1
      · exact ih nd.2 ha' hb'
section
variable {P : Program} {w : World} {K : PySem.W.Frag} {mg : PySem.Str → Option Value} {base : Heap}
def sp_so (T : Txt K mg) : Sp := fun vs H Q _ => ∃ (S : List Addr) (p a : Addr) (n : Nat) (acts acts' : List Act) (xs : List V) (r : V) (rd : PyData), vs = [.ref p, .int (n : Nat), .ref a, r] ∧ Sto T H p n acts' rd ∧ acts'.Perm acts ∧ Asc acts' ∧
  H a = some (.tup xs) ∧ DvAll S H xs (acts.map actD) ∧ Acts n acts ∧ Dv S H r rd ∧ ∀ H', Same H H' → Q (.bl true) H'
theorem ok_is_so (T : Txt K mg) : FnG P w K mg base 1 T.a_is_so T.d_is_so P_is_so (sp_so T) := by
  refine okG T.F_is_so sc_is_so (fun vs H Q E h => by obtain ⟨S, p, a, n, acts, acts', xs, r, rd, rfl, _⟩ := h; rfl) (fun cdv A outer s H vs Q hgd hr h => ?_)
  refine ⟨_, (pss_cons (ps_if (pt_not (pt_val (pe_callB call_isi (by rfl) T.n_isinstance (by decide +kernel) (pa_cons (pv 0) (pa_cons (pe_glob (v := .ref T.C_Store) rfl T.g_Store rfl) pa_nil))))) (pss_one (ps_ret pe_bl)) pss_nil)
    (pss_cons (ps_set (i := 4) sc_is_so.nd rfl (Or.inl rfl) (pe_callB cr_sortedS (by rfl) T.n_sorted (by decide +kernel) (pa_cons (pe_lc (own := [("row", 5)]) rfl sc_is_so.nd (pi_tup (pv 2)) (blkOk_by (own := [("row", 5)]) (N := N_is_so) (sc := defScope s_is_so) (by decide +kernel)) (fun _ _ _ _ _ => (pg_name (i := 5) sc_is_so.nd rfl (Or.inl rfl))) (fun _ _ _ _ _ => pts_nil) (fun _ _ _ _ _ => (pe_ix (show IxR _ (rIxT K) from ix_tup) (pv 5) pe_int (fun _ _ => rfl)))) pa_nil)))
    (pss_cons (ps_setLc (i := 6) (own := [("name", 7)]) rfl sc_is_so.nd rfl rfl (sw_true rfl rfl rfl (by decide +kernel)) (pi_list (pv 4)) (blkOk_by (own := [("name", 7)]) (N := N_is_so) (sc := defScope s_is_so) (by decide +kernel)) (fun _ _ _ _ _ => (pg_name (i := 7) sc_is_so.nd rfl (Or.inr rfl))) (fun _ _ _ _ _ => pts_nil) (fun _ _ _ _ _ => (pe_tup (pa_cons (pv 7) (pa_cons (pe_ix (show IxR _ (rIxL K) from ix_list) (pe_lc (own := [("row", 5)]) rfl sc_is_so.nd (show PI _ _ _ (iTup K (tVar 2)) from pi_tup (pv 2)) (blkOk_by (own := [("row", 5)]) (N := N_is_so) (sc := ({ kind := ScopeKind.function, names := [(".0", NameKind.local), ("name", NameKind.cell), ("rows", NameKind.cell)], isGenerator := false, isCoroutine := false } : Scope)) (by decide +kernel)) (fun _ _ _ _ _ => (pg_name (i := 5) sc_is_so.nd rfl (Or.inl rfl))) (fun _ _ _ _ _ => (pts_one (pt_cmpR op_eq (pe_ix (show IxR _ (rIxT K) from ix_tup) (pv 5) pe_int (fun _ _ => rfl)) (pv 7) (nomark _)))) (fun _ _ _ _ _ => (pe_ix (show IxR _ (rIxT K) from ix_tup) (pv 5) pe_int (fun _ _ => rfl)))) pe_int (fun _ _ => rfl)) pa_nil)))))
    (pss_one (ps_ret (pe_cmpR op_eq (pe_callB (cr_repr hgd hr) (by rfl) T.n_repr (by decide +kernel) (pa_cons (pe_tup (pa_cons (pe_fld (pv 0) rfl) (pa_cons (pe_fld (pv 0) rfl) (pa_cons (pe_fld (pv 0) rfl) pa_nil)))) pa_nil)) (pe_callB (cr_repr hgd hr) (by rfl) T.n_repr (by decide +kernel) (pa_cons (pe_tup (pa_cons (pv 1) (pa_cons (pe_callTy call_tuple_of (by rfl) T.n_tuple (by decide +kernel) (pa_cons (pv 6) pa_nil)) (pa_cons (pv 3) pa_nil)))) pa_nil)) (nomark _))))))), ?_⟩
  obtain ⟨S, p, a, n, acts, acts', xs, r, rd, rfl, hs, perm, hasc, ha, hx, AA, hrd, q⟩ := h
  have hxl : xs.length = acts.length := by rw [hx.length, List.length_map]
  have h20 := AA.few
  refine ⟨_, rfl, .ref p, .ref T.C_Store, _, _, true, rfl, .own _, hs.ty, Xo.kit_me K T.C_Store, _, rfl, iteF ?_⟩
  -- the names, sorted
  refine ⟨_, rfl, a, rfl, ⟨_, SqT.of ha⟩, fun D hD => ?_⟩
  refine lc_tup (K := K) (a := a) (xs := xs) (fun i H' => Same H H' ∧ H' D = some (.lst ((((acts.take i).map (·.1))).map V.str))) ⟨same_new hD, upd_same⟩ (fun i H' _ p => SqT.of (p.1 _ _ ha)) ?_ ?_
  · rintro i x H1 hi ⟨k, hDl⟩
    obtain ⟨hi1, _⟩ := List.getElem?_eq_some_iff.mp hi
    have hi' : i < acts.length := by omega
    obtain ⟨d, hdi, hdx⟩ := hx.get hi
    have ed : d = actD acts[i] := by
      rw [List.getElem?_map, List.getElem?_eq_getElem hi'] at hdi
      exact (Option.some.inj hdi).symm
    subst ed
    obtain ⟨pp, mm, rfl, hpp, _, _⟩ := act_at hdx
    refine ⟨rfl, _, rfl, pp, _, 0, .str acts[i].1, rfl, rfl, SqT.of (k _ _ hpp), rfl, _, hDl, ?_, ?_, ?_⟩
    · rw [List.length_map, List.length_map, List.length_take, sizeLine_eq]
      omega
    · exact fun b o eb => by
        rw [upd_ne (ne_of_none eb hD)]
        exact k _ _ eb
    · rw [upd_same, List.take_succ, List.getElem?_eq_getElem hi', List.map_append, List.map_append]
      rfl
  · rintro H1 ⟨k, hDl⟩
    rw [hxl, List.take_length] at hDl
    refine ⟨D, _, rfl, SqL.of hDl, by rw [List.length_map]; omega, fun ys pN hperm hsort hpN => ?_⟩
    have hys : ys = acts'.map (·.1) := List.Perm.eq_of_pairwise (le := fun a b : PySem.Str => ¬ b.cps.toList < a.cps.toList) (fun a b _ _ h1 h2 => Zt.str_ext (List.le_antisymm (List.not_lt.mp h1) (List.not_lt.mp h2))) (Zt.sorted_pw _ hsort) (List.pairwise_map.mpr hasc) (hperm.trans (perm.map _).symm)
    subst hys
    have hpN1 := hpN
    have kN : Same H (upd H1 pN (.lst ((acts'.map (·.1)).map V.str))) := k.trans (same_new hpN)
    have hNl : (upd H1 pN (.lst ((acts'.map (·.1)).map V.str))) pN = some (.lst ((acts'.map (·.1)).map V.str)) := upd_same
    generalize upd H1 pN (.lst ((acts'.map (·.1)).map V.str)) = HN at kN hNl ⊢
    have hxN : DvAll S HN xs (acts.map actD) := hx.kp (Kp.of kN)
    refine ⟨_, rfl, pN, rfl, ⟨_, SqL.of hNl⟩, fun D2 hD2 => ?_⟩
    have hx2 : DvAll (D2 :: S) HN xs (acts.map actD) := hxN.fresh hD2
    have k02 : Same HN (upd HN D2 (.lst [])) := same_new hD2
    refine lc_list (K := K) (a := pN) (xs := (acts'.map (·.1)).map V.str) (fun i H' => Same HN H' ∧ ∃ ps : List Addr, ps.length = i ∧ H' D2 = some (.lst (ps.map V.ref)) ∧ DvAll [D2] H' (ps.map V.ref) ((acts'.take i).map actD)) ⟨k02, [], rfl, upd_same, .nil⟩ (fun i H' _ p => SqL.of (p.1 _ _ hNl)) ?_ ?_
    · rintro i x H2 hi ⟨k2, ps, hl, hDl, hv⟩
      rw [List.map_map, List.getElem?_map] at hi
      obtain ⟨ac, hac, rfl⟩ : ∃ ac, acts'[i]? = some ac ∧ x = .str ac.1 := by
        cases e : acts'[i]? with
        | none => rw [e] at hi; cases hi
        | some ac => rw [e] at hi; exact ⟨ac, rfl, (Option.some.inj hi).symm⟩
      have hmem' : ac ∈ acts' := List.mem_of_getElem? hac
      have hmem : ac ∈ acts := perm.mem_iff.mp hmem'
      obtain ⟨j0, hj0⟩ := List.getElem?_of_mem hmem
      refine ⟨rfl, _, rfl, _, rfl, a, rfl, ⟨_, SqT.of (k2 _ _ (kN _ _ ha))⟩, fun D3 hD3 => ?_⟩
      have hx3 : DvAll (D2 :: S) H2 xs (acts.map actD) := hx2.kp (Kp.of k2)
      refine lc_tup (K := K) (a := a) (xs := xs) (fun j H' => Same H2 H' ∧ ∃ ws : List V, H' D3 = some (.lst ws) ∧ ws.length ≤ j ∧ (∀ w ∈ ws, Dv (D2 :: S) H2 w (.tuple (ac.2.map mvD))) ∧ (j0 < j → ws ≠ [])) ⟨same_new hD3, [], upd_same, Nat.zero_le _, (fun _ m => nomatch m), fun z => absurd z (Nat.not_lt_zero _)⟩ (fun i H' _ p => SqT.of (p.1 _ _ (k2 _ _ (kN _ _ ha)))) ?_ ?_
      · rintro j x H3 hj ⟨k3, ws, hD3l, hwl, hw, hne⟩
        obtain ⟨hj1, _⟩ := List.getElem?_eq_some_iff.mp hj
        obtain ⟨d, hdi, hdx⟩ := hx3.get hj
        rw [List.getElem?_map] at hdi
        obtain ⟨b, hb, rfl⟩ : ∃ b, acts[j]? = some b ∧ d = actD b := by
          cases e : acts[j]? with
          | none => rw [e] at hdi; cases hdi
          | some b => rw [e] at hdi; exact ⟨b, rfl, (Option.some.inj hdi).symm⟩
        obtain ⟨pp, mm, rfl, hpp, _, hmm⟩ := act_at hdx
        refine ⟨rfl, _, rfl, pp, _, 0, .str b.1, rfl, rfl, SqT.of (k3 _ _ hpp), rfl, _, rfl, ?_⟩
        refine ⟨rfl, _, rfl, ?_⟩
        have hwk : ∀ (v : V), Same H2 (upd H3 D3 (.lst (ws ++ [v]))) := fun v b o eb => by
          rw [upd_ne (ne_of_none eb hD3)]
          exact k3 _ _ eb
        have hmm2 := hmm
        by_cases e : b.1 = ac.1
        · have eb : b = ac := same_name AA.nd (List.mem_of_getElem? hb) hmem e
          rw [decide_eq_true (congrArg V.str e)]
          refine (show ∀ {a b : Prop}, a → (if true = true then a else b) from fun h => by rw [if_pos rfl]; exact h) ?_
          refine ⟨_, rfl, pp, _, 1, .ref mm, rfl, rfl, SqT.of (k3 _ _ hpp), rfl, ws, hD3l, ?_, hwk _, ws ++ [.ref mm], upd_same, ?_, fun v hv => ?_, fun _ => by simp⟩
          · rw [sizeLine_eq]
            omega
          · rw [List.length_append]
            exact Nat.succ_le_succ hwl
          · rcases List.mem_append.mp hv with hv | hv
            · exact hw v hv
            · cases List.mem_singleton.mp hv
              rw [eb] at hmm2
              exact hmm2
        · rw [decide_eq_false (fun z => e (V.str.inj z))]
          refine (show ∀ {a b : Prop}, b → (if false = true then a else b) from fun h => by rw [if_neg Bool.false_ne_true]; exact h) ?_
          refine ⟨k3, ws, hD3l, Nat.le_succ_of_le hwl, hw, fun h => ?_⟩
          by_cases hj2 : j0 < j
          · exact hne hj2
          · have : j = j0 := by omega
            subst this
            rw [hb] at hj0
            cases hj0
            exact absurd rfl e
      · rintro H3 ⟨k3, ws, hD3l, hwl, hw, hne⟩
        obtain ⟨j1, _⟩ := List.getElem?_eq_some_iff.mp hj0
        have hne := hne (by omega)
        obtain ⟨w0, ws', rfl⟩ : ∃ w0 ws', ws = w0 :: ws' := by
          cases ws with
          | nil => exact absurd rfl hne
          | cons w0 ws' => exact ⟨w0, ws', rfl⟩
        refine ⟨D3, _, 0, w0, rfl, rfl, SqL.of hD3l, atI_nat (j := 0) rfl, by show 2 ≤ sizeLine; decide, fun pt hpt => ?_⟩
        have d3 : Same H2 (upd H3 pt (.tup [.str ac.1, w0])) := k3.trans (same_new hpt)
        have nD : pt ≠ D2 := fun z => by
          rw [z, k3 _ _ hDl] at hpt
          cases hpt
        have kk : Kp [D2] H2 (upd (upd H3 pt (.tup [.str ac.1, w0])) D2 (.lst (ps.map V.ref ++ [.ref pt]))) := (Kp.of d3).wr (.inl List.mem_cons_self)
        refine ⟨ps.map V.ref, d3 _ _ hDl, ?_, fun b o eb => ?_, ps ++ [pt], ?_, ?_, ?_⟩
        · rw [List.length_map, hl, sizeLine_eq]
          obtain ⟨hi1, _⟩ := List.getElem?_eq_some_iff.mp hac
          have := perm.length_eq
          omega
        · rw [upd_ne (ne_of_none eb hD2)]
          exact d3 _ _ (k2 _ _ eb)
        · rw [List.length_append, hl]
          rfl
        · rw [upd_same, List.map_append]
          rfl
        · rw [List.take_succ, hac, List.map_append, List.map_append]
          refine (hv.kp kk).append (.cons (.tup ((upd_ne nD).trans upd_same) (fun m => nD (List.mem_singleton.mp m)) (.cons (.str _) (.cons ?_ .nil))) .nil)
          exact ((hw w0 List.mem_cons_self).sub (S' := [D2]) fun a m => by
            cases List.mem_singleton.mp m
            exact List.mem_cons_self).kp kk
    · rintro H2 ⟨k2, ps, hl, hDl, hv⟩
      rw [List.length_map, List.length_map, List.take_length] at hv
      have kk : Same H H2 := kN.trans k2
      have hrd2 : Dv S H2 r rd := hrd.kp (Kp.of kk)
      obtain ⟨S', r', st', hrd'⟩ := (hs.same kk).ex
      obtain ⟨dx, aA, o, qs, dM, lW, kvs, ds, h1, h2, h3, _⟩ := st'.ex
      have sh := stD_show hs.A hs.st hs.ok
      refine ⟨_, rfl, p, T.C_Store, dx, _, _, rfl, h1, T.cl_Store, T.no_Store_size, flds_size, ?_⟩
      refine ⟨_, rfl, p, T.C_Store, dx, _, _, rfl, h1, T.cl_Store, T.no_Store_actions, flds_actions, ?_⟩
      refine ⟨_, rfl, p, T.C_Store, dx, _, _, rfl, h1, T.cl_Store, T.no_Store_resting, flds_resting, by show 3 ≤ sizeLine; decide, fun t1 n1 => ?_⟩
      have k1 : Same H2 (upd H2 t1 (.tup [.int (n : Nat), .ref aA, r'])) := same_new n1
      have ht1 : (upd H2 t1 (.tup [.int (n : Nat), .ref aA, r'])) t1 = some (.tup [.int (n : Nat), .ref aA, r']) := upd_same
      generalize upd H2 t1 (.tup [.int (n : Nat), .ref aA, r']) = H3 at k1 ht1 ⊢
      refine ⟨t1, stD n acts' rd, rfl, .tup (SqT.of ht1) (.cons (.int _) (.cons (.tup (.inl (.inr ⟨o, k1 _ _ h2⟩)) (dpAll_dv (h3.kp (Kp.of k1)) (acts_pln acts'))) (.cons ((hrd'.kp (Kp.of k1)).dp (states_pln hs.st).1) .nil))), sh.1, sh.2.1, sh.2.2.1, sh.2.2.2, ?_⟩
      refine ⟨_, rfl, _, rfl, D2, _, rfl, .inl ⟨SqL.of (k1 _ _ hDl), fun t2 n2 => ?_⟩⟩
      have k4 : Same H3 (upd H3 t2 (.tup (ps.map V.ref))) := same_new n2
      have ht2 : (upd H3 t2 (.tup (ps.map V.ref))) t2 = some (.tup (ps.map V.ref)) := upd_same
      generalize upd H3 t2 (.tup (ps.map V.ref)) = H4 at k4 ht2 ⊢
      refine ⟨_, rfl, by show 3 ≤ sizeLine; decide, fun t3 n3 => ?_⟩
      have k5 : Same H4 (upd H4 t3 (.tup [.int (n : Nat), .ref t2, r])) := same_new n3
      have ht3 : (upd H4 t3 (.tup [.int (n : Nat), .ref t2, r])) t3 = some (.tup [.int (n : Nat), .ref t2, r]) := upd_same
      generalize upd H4 t3 (.tup [.int (n : Nat), .ref t2, r]) = H5 at k5 ht3 ⊢
      have k25 : Same H2 H5 := k1.trans (k4.trans k5)
      refine ⟨t3, stD n acts' rd, rfl, .tup (SqT.of ht3) (.cons (.int _) (.cons (.tup (SqT.of (k5 _ _ ht2)) (dpAll_dv (hv.kp (Kp.of k25)) (acts_pln acts'))) (.cons (dp_dv (hrd2.kp (Kp.of k25)) (states_pln hs.st).1) .nil))), sh.1, sh.2.1, sh.2.2.1, sh.2.2.2, ?_⟩
      refine ⟨rfl, ?_⟩
      rw [decide_eq_true rfl]
      exact q _ (kk.trans k25)
end
end K02
set_option Elab.async false
set_option linter.all false
set_option maxHeartbeats 4000000
set_option maxRecDepth 100000
/-! k02: whether values are taken as they should be. -/
namespace K02
open PySem PySem.Spec PyProof.Rows L2 Zg Zr Zd Zv
section
variable {P : Program} {w : World} {K : PySem.W.Frag} {mg : PySem.Str → Option Value} {base : Heap}
theorem lst3_show {S : List Addr} {H : Hp} {sv av r : V} {sd ad rd : PyData} (g1 : Gv S H sv sd 1000 50) (g2 : Gv S H av ad 1000 50) (g3 : Gv S H r rd 1000 50) :
    (PyData.list [sd, ad, rd]).showable = true ∧ (PyData.list [sd, ad, rd]).depth ≤ 60 ∧ (PyData.list [sd, ad, rd]).shown.length ≤ sizeLine := by
  have ok : okv (.list [sd, ad, rd]) = true := by
    show (true && (okv sd && (okv ad && (okv rd && true)))) = true
    rw [g1.2.1, g2.2.1, g3.2.1]
    rfl
  refine ⟨(okv_short _ ok).2, ?_, okv_fits ok ?_⟩
  · have h1 := g1.2.2.2
    have h2 := g2.2.2.2
    have h3 := g3.2.2.2
    show max sd.depth (max ad.depth (max rd.depth 0)) + 1 ≤ 60
    omega
  · have h1 := g1.2.2.1
    have h2 := g2.2.2.1
    have h3 := g3.2.2.1
    show sd.bulk + 1 + (ad.bulk + 1 + (rd.bulk + 1 + 0)) ≤ 300000
    omega
/-- what is told: a store, or a list of the part -/
def OneAt (T : Txt K mg) (S : List Addr) (H : Hp) (p : Addr) (sd ad rd : PyData) : Prop := match flt sd ad rd with
  | none => ∃ (n : Nat) (acts acts' : List Act) (r : V), sd = .int (n : Nat) ∧ ad = .tuple (acts.map actD) ∧ Acts n acts ∧ acts'.Perm acts ∧ Asc acts' ∧ StAt T.C_Store H S p n acts' r ∧ Rv K S H r rd
  | some f => ∃ v, H p = some (.lst [v]) ∧ Dv S H v f
theorem OneAt.same {T : Txt K mg} {S : List Addr} {H H' : Hp} {p : Addr} {sd ad rd : PyData} (h : OneAt T S H p sd ad rd) (k : Same H H') : OneAt T S H' p sd ad rd := by
  unfold OneAt at h ⊢
  cases hf : flt sd ad rd with
  | none =>
    rw [hf] at h
    obtain ⟨n, acts, acts', r, e1, e2, AA, perm, asc, st, hr⟩ := h
    exact ⟨n, acts, acts', r, e1, e2, AA, perm, asc, st.same k, hr.kp (Kp.of k)⟩
  | some f =>
    rw [hf] at h
    obtain ⟨v, h1, h2⟩ := h
    exact ⟨v, k _ _ h1, h2.kp (Kp.of k)⟩
theorem tell_of {T : Txt K mg} {S : List Addr} {H : Hp} {Q : VK} {sd ad rd : PyData} (q : ∀ (H' : Hp) (p : Addr), Same H H' → H p = none → OneAt T S H' p sd ad rd → Q (.ref p) H') : TellQ T S H Q sd ad rd := by
  unfold TellQ
  unfold OneAt at q
  cases hf : flt sd ad rd with
  | none =>
    rw [hf] at q
    exact fun n acts e1 e2 AA H' p acts' r k hp perm asc st hr => q H' p k hp ⟨n, acts, acts', r, e1, e2, AA, perm, asc, st, hr⟩
  | some f =>
    rw [hf] at q
    exact fun H' p v k hp h1 h2 => q H' p k hp ⟨v, h1, h2⟩
theorem StAt.fresh {C : Addr} {H : Hp} {S : List Addr} {p x : Addr} {n : Nat} {acts : List Act} {r : V} (h : StAt C H S p n acts r) (e : H x = none) : StAt C H (x :: S) p n acts r := by
  obtain ⟨dx, aA, o, ps, dM, lW, kvs, ds, h1, h2, h3, h4⟩ := h.ex
  exact ⟨dx, aA, o, ps, dM, lW, kvs, ds, h1, h2, h3.fresh e, h4⟩
theorem OneAt.fresh {T : Txt K mg} {S : List Addr} {H : Hp} {p x : Addr} {sd ad rd : PyData} (h : OneAt T S H p sd ad rd) (e : H x = none) : OneAt T (x :: S) H p sd ad rd := by
  unfold OneAt at h ⊢
  cases hf : flt sd ad rd with
  | none =>
    rw [hf] at h
    obtain ⟨n, acts, acts', r, e1, e2, AA, perm, asc, st, hr⟩ := h
    exact ⟨n, acts, acts', r, e1, e2, AA, perm, asc, st.fresh e, hr.fresh e⟩
  | some f =>
    rw [hf] at h
    obtain ⟨v, h1, h2⟩ := h
    exact ⟨v, h1, h2.fresh e⟩
theorem StAt.put {C : Addr} {H : Hp} {S : List Addr} {p : Addr} {n : Nat} {acts : List Act} {r : V} (h : StAt C H S p n acts r) {x o1 : Addr} {u : HO} (hS : x ∈ S) (hx : H x = some (.lst [.ref o1])) {C' dx' : Addr} {fs : List (PySem.Str × V)} (ho : H o1 = some (.ins C' dx' fs)) : StAt C (upd H x u) S p n acts r := by
  obtain ⟨dx, aA, o, ps, dM, lW, kvs, ds, h1, h2, h3, h4, h5, h6, h7, h8⟩ := h.ex
  have ne : ∀ {y : Addr} {z : HO}, H y = some z → (∀ l, z ≠ .lst l) → (upd H x u) y = some z := fun {y z} e n => by
    rw [upd_ne (fun q => by
      subst q
      rw [hx] at e
      exact n _ (Option.some.inj e).symm)]
    exact e
  refine ⟨dx, aA, o, ps, dM, lW, kvs, ds, ne h1 nofun, ne h2 nofun, h3.kp ((Kp.refl S H).wr (.inl hS)), ⟨ne h4.1 nofun, h4.2⟩, fun a ha => ?_, ?_, h7, fun one d hd => ?_⟩
  · obtain ⟨m, e1, e2⟩ := h5 a ha
    exact ⟨m, e1, ne e2 nofun⟩
  · rw [upd_ne (fun q => ?_)]
    · exact h6
    · subst q
      rw [hx] at h6
      injection h6 with h6
      injection h6 with h6
      cases ds with
      | nil => cases h6
      | cons d ds =>
        rw [List.map_cons] at h6
        injection h6 with h6 _
        injection h6 with h6
        obtain ⟨E, e1, _⟩ := h8 0 d rfl
        rw [← h6, ho] at e1
        cases e1
  · obtain ⟨E, e1, e2, e3⟩ := h8 one d hd
    exact ⟨E, ne e1 nofun, fun e he => ne (e2 e he) nofun, e3⟩
theorem OneAt.put {T : Txt K mg} {S : List Addr} {H : Hp} {p x o1 : Addr} {sd ad rd : PyData} {u : HO} (h : OneAt T S H p sd ad rd) (h' : OneAt T S H o1 sd ad rd) (hS : x ∈ S) (hx : H x = some (.lst [.ref o1])) (np : p ≠ x) : OneAt T S (upd H x u) p sd ad rd := by
  unfold OneAt at h h' ⊢
  cases hf : flt sd ad rd with
  | none =>
    rw [hf] at h h'
    obtain ⟨n, acts, acts', r, e1, e2, AA, perm, asc, st, hr⟩ := h
    obtain ⟨n1, acts1, acts1', r1, _, _, _, _, _, st1, _⟩ := h'
    obtain ⟨dx, aA, o, ps, dM, lW, kvs, ds, h1, _⟩ := st1.ex
    exact ⟨n, acts, acts', r, e1, e2, AA, perm, asc, st.put hS hx h1, hr.kp ((Kp.refl S H).wr (.inl hS))⟩
  | some f =>
    rw [hf] at h
    obtain ⟨v, h1, h2⟩ := h
    exact ⟨v, (upd_ne np).trans h1, h2.kp ((Kp.refl S H).wr (.inl hS))⟩
theorem badRow_mem {n : Int} : ∀ {ds : List PyData} {ns : List PySem.Str} {f : PyData}, badRow n ns ds = some f → f ∈ ds
  | [], _, _, h => by cases h
  | d :: ds, ns, f, h => by
    rw [badRow_cons] at h
    split at h
    · exact List.mem_cons_of_mem _ (badRow_mem h)
    · cases h
      exact List.mem_cons_self
theorem bulk_mem {d : PyData} : ∀ {ds : List PyData}, d ∈ ds → d.bulk ≤ PyData.bulkAll ds ∧ d.depth ≤ PyData.depthAll ds
  | [], h => by cases h
  | x :: ds, h => by
    show d.bulk ≤ x.bulk + 1 + PyData.bulkAll ds ∧ d.depth ≤ max x.depth (PyData.depthAll ds)
    rcases List.mem_cons.mp h with rfl | h
    · omega
    · have := bulk_mem h
      omega
theorem flt_ok {sd ad rd f : PyData} (h : flt sd ad rd = some f) (ok : okv ad = true) (hb : ad.bulk ≤ 1000) (hd : ad.depth ≤ 50) : okv f = true ∧ f.bulk ≤ 1000 ∧ f.depth ≤ 50 := by
  have s1 : ∀ {x : PySem.Str}, some (PyData.str x) = some f → okv (.str x) = true → x.length ≤ 1000 → okv f = true ∧ f.bulk ≤ 1000 ∧ f.depth ≤ 50 := fun {x} e o l => by
    cases e
    exact ⟨o, l, Nat.zero_le _⟩
  unfold flt at h
  cases hz : isSz sd with
  | false =>
    rw [if_neg (by rw [hz]; exact Bool.false_ne_true)] at h
    exact s1 h (by decide +kernel) (by decide +kernel)
  | true =>
    rw [if_pos hz] at h
    split at h
    · rename_i ds
      cases sd with
      | int n =>
        rw [chk_int, if_pos hz] at h
        cases hb : badRow n [] ds with
        | some d =>
          rw [hb] at h
          cases h
          have hm := badRow_mem hb
          have hbd := bulk_mem hm
          have hb' : PyData.bulkAll ds ≤ 1000 := ‹_›
          have hd' : PyData.depthAll ds + 1 ≤ 50 := hd
          exact ⟨(okv_tup ok).2 _ hm, by omega, by omega⟩
        | none =>
          rw [hb] at h
          have h' : (if areStates n rd = true then none else some (.str "resting")) = some f := h
          by_cases ha : areStates n rd = true
          · rw [if_pos ha] at h'
            cases h'
          · rw [if_neg ha] at h'
            exact s1 h' (by decide +kernel) (by decide +kernel)
      | _ => exact s1 h (by decide +kernel) (by decide +kernel)
    · exact s1 h (by decide +kernel) (by decide +kernel)
theorem lst1_show {f : PyData} (h : okv f = true ∧ f.bulk ≤ 1000 ∧ f.depth ≤ 50) : (PyData.list [f]).showable = true ∧ (PyData.list [f]).depth ≤ 60 ∧ (PyData.list [f]).shown.length ≤ sizeLine := by
  have ok : okv (.list [f]) = true := by
    show (true && (okv f && true)) = true
    rw [h.1]
    rfl
  refine ⟨(okv_short _ ok).2, ?_, okv_fits ok ?_⟩
  · have := h.2.2
    show max f.depth 0 + 1 ≤ 60
    omega
  · have := h.2.1
    show f.bulk + 1 + 0 ≤ 300000
    omega
theorem flt_none {sd ad rd : PyData} (h : flt sd ad rd = none) {n : Nat} {acts : List Act} (e1 : sd = .int (n : Nat)) (e2 : ad = .tuple (acts.map actD)) (A : Acts n acts) : 1 ≤ n ∧ areStates n rd = true := by
  subst e1 e2
  rw [flt_chk] at h
  obtain ⟨n', acts', e, h1, _, _, h2⟩ := chk_none (by rw [List.length_map]; exact A.few) h
  injection e with e
  have : n = n' := by omega
  subst this
  exact ⟨h1, h2⟩
def sp_vr : Sp := fun vs H Q _ => ∃ (S : List Addr) (sv av r : V) (sd ad rd : PyData), vs = [sv, av, r] ∧ Gv S H sv sd 1000 50 ∧ Gv S H av ad 1000 50 ∧ Gv S H r rd 1000 50 ∧ (rows ad).length ≤ 20 ∧ ∀ H', Same H H' → Q (.bl true) H'
theorem ok_values_right (T : Txt K mg) : FnG P w K mg base 11 T.a_values_right T.d_values_right P_values_right sp_vr := by
  refine okG T.F_values_right sc_values_right (fun vs H Q E h => by obtain ⟨S, sv, av, r, sd, ad, rd, rfl, _⟩ := h; rfl) (fun cdv A outer s H vs Q hgd hr h => ?_)
  refine ⟨_, (pss_cons (ps_par (i := 3) (j := 4) (by rfl) sc_values_right.nd rfl rfl (by decide) rfl rfl (pa_cons (pe_callB (cr_reprV (S := []) hgd hr) (by rfl) T.n_repr (by decide +kernel) (pa_cons (pe_lst (pa_cons (pv 0) (pa_cons (pv 1) (pa_cons (pv 2) pa_nil)))) pa_nil)) (pa_cons (pe_call (ok_fault T) (hr.mono (by decide)) (by rfl) T.g_fault T.F_fault.kp T.b_fault .nil pass0 (pa_cons (pv 0) (pa_cons (pv 1) (pa_cons (pv 2) pa_nil)))) pa_nil)) (by rfl))
    (pss_cons (ps_set (i := 5) sc_values_right.nd rfl (Or.inl rfl) (pe_lst (pa_cons (pe_call (ok_of T) (hr.mono (by decide)) (by rfl) T.g_of T.F_of.kp T.b_of .nil pass0 (pa_cons (pv 0) (pa_cons (pv 1) (pa_cons (pv 2) pa_nil)))) pa_nil)))
    (pss_cons (ps_if (PW.pt (pw_and (pt_val (pe_callB call_isi (by rfl) T.n_isinstance (by decide +kernel) (pa_cons (pv 1) (pa_cons (pe_bltn (v := .ty "tuple") (u := .type "tuple") (by rfl) T.n_tuple (by decide +kernel) rfl) pa_nil)))) (pw_and1 (pt_cmpR op_lt (pe_callB call_len_seq (by rfl) T.n_len (by decide +kernel) (pa_cons (pv 1) pa_nil)) pe_int (nomark _))))) (pss_one (ps_expr (pe_bm PySem.F.plainAttrs_list PySem.F.slot_list_append PySem.F.type_list_append mt_append (pv 5) (pa_cons (pe_call (ok_by_class T) (hr.mono (by decide)) (by rfl) T.g_by_class T.F_by_class.kp T.b_by_class .nil pass0 (pa_cons (pv 0) (pa_cons (pv 1) (pa_cons (pv 2) pa_nil)))) pa_nil)))) pss_nil)
    (pss_cons (ps_for PassesOwn.never rfl (pi_list (pv 5)) (pg_name (i := 6) sc_values_right.nd rfl (Or.inl rfl)) (pss_cons (ps_if (PW.pt (pw_and (pt_cmpR (op_neE (Nat.lt_of_le_of_lt (Nat.le_add_right _ 64) hr.units)) (pv 4) (pe_lst pa_nil) (nomark _)) (pw_and1 (PW.pt (pw_or (pt_val (pe_callB call_isi (by rfl) T.n_isinstance (by decide +kernel) (pa_cons (pv 6) (pa_cons (pe_glob (v := .ref T.C_Store) rfl T.g_Store rfl) pa_nil)))) (pw_or1 (pt_cmpR op_ne (pe_callB (cr_reprV (S := []) hgd hr) (by rfl) T.n_repr (by decide +kernel) (pa_cons (pv 6) pa_nil)) (pe_callB (cr_reprV (S := []) hgd hr) (by rfl) T.n_repr (by decide +kernel) (pa_cons (pv 4) pa_nil)) (nomark _)))))))) (pss_one (ps_ret pe_bl)) pss_nil)
    (pss_one (ps_if (PW.pt (pw_and (pt_cmpR (op_eqE (Nat.lt_of_le_of_lt (Nat.le_add_right _ 64) hr.units)) (pv 4) (pe_lst pa_nil) (nomark _)) (pw_and1 (pt_not (pt_val (pe_callG (ok_is_so T) hgd (hr.mono (by decide)) (by rfl) T.g_is_so T.F_is_so.kp T.b_is_so .nil (pa_cons (pv 6) (pa_cons (pv 0) (pa_cons (pv 1) (pa_cons (pv 2) pa_nil)))))))))) (pss_one (ps_ret pe_bl)) pss_nil))))
    (pss_one (ps_ret (pe_cmpR op_eq (pe_callB (cr_reprV (S := []) hgd hr) (by rfl) T.n_repr (by decide +kernel) (pa_cons (pe_lst (pa_cons (pv 0) (pa_cons (pv 1) (pa_cons (pv 2) pa_nil)))) pa_nil)) (pv 3) (nomark _)))))))), ?_⟩
  obtain ⟨S, sv, av, r, sd, ad, rd, rfl, g1, g2, g3, h20, q⟩ := h
  obtain ⟨s1, s2, s3⟩ := lst3_show g1 g2 g3
  have nS : ∀ a ∈ ([] : List Addr), a ∈ S := fun _ m => nomatch m
  have nL : ∀ x : Addr, ∀ a ∈ ([] : List Addr), a ∈ x :: S := fun _ _ m => nomatch m
  refine ⟨_, rfl, _, rfl, _, rfl, by show 3 ≤ sizeLine; decide, fun p0 hp0 => ?_⟩
  have k0 : Same H (upd H p0 (.lst [sv, av, r])) := same_new hp0
  have hp0l : (upd H p0 (.lst [sv, av, r])) p0 = some (.lst [sv, av, r]) := upd_same
  generalize upd H p0 (.lst [sv, av, r]) = H0 at k0 hp0l ⊢
  have dv1 := g1.1.kp (Kp.of k0)
  have dv2 := g2.1.kp (Kp.of k0)
  have dv3 := g3.1.kp (Kp.of k0)
  refine ⟨.ref p0, .list [sd, ad, rd], rfl, .lst hp0l (fun m => nomatch m) (.cons (dv1.sub nS) (.cons (dv2.sub nS) (.cons (dv3.sub nS) .nil))), s1, s2, s3, ?_⟩
  refine ⟨_, rfl, _, rfl, _, rfl, S, sv, av, r, sd, ad, rd, rfl, dv1, g1.2.1, dv2, g2.2.1, h20, dv3, g3.2.1, fun H1 pf ws k1 hpf hpfl hws => ?_⟩
  have k01 : Same H H1 := k0.trans k1
  have d1 := g1.1.kp (Kp.of k01)
  have d2 := g2.1.kp (Kp.of k01)
  have d3 := g3.1.kp (Kp.of k01)
  refine ⟨_, _, rfl, ?_⟩
  refine ⟨_, rfl, _, rfl, _, rfl, S, sv, av, r, sd, ad, rd, rfl, d1, g1.2.1, d2, g2.2.1, h20, d3, g3.2.1, tell_of fun H2 o1 k2 ho1 one1 => ?_⟩
  refine ⟨by show 1 ≤ sizeLine; decide, fun lt hlt => ?_⟩
  have k3 : Same H2 (upd H2 lt (.lst [.ref o1])) := same_new hlt
  have hl3 : (upd H2 lt (.lst [.ref o1])) lt = some (.lst [.ref o1]) := upd_same
  generalize hH3 : upd H2 lt (.lst [.ref o1]) = H3 at k3 hl3 ⊢
  try dsimp only [tNext]
  show tSeq (tIfS _ _ _) _ _ _ _
  refine if_viaH (fun H' => Same H2 H' ∧ ∃ os : List Addr, H' lt = some (.lst (os.map V.ref)) ∧ ∀ o ∈ os, OneAt T (lt :: S) H' o sd ad rd) ?_ ?_
  · rintro H4 ⟨k4, os, hos, hone⟩
    have k14 : Same H1 H4 := k2.trans k4
    refine ⟨_, rfl, lt, rfl, ⟨_, SqL.of hos⟩, for_list (K := K) (a := lt) (xs := os.map V.ref) (fun i σ H' => ∃ y6, σ = [some sv, some av, some r, some (.str (PyData.list [sd, ad, rd]).shown), some (.ref pf), some (.ref lt), y6] ∧ Same H4 H') ⟨_, rfl, Same.refl _⟩ (fun i σ H' _ ⟨_, _, k⟩ => SqL.of (k _ _ hos)) ?_ ?_⟩
    · rintro i x σ H5 hi ⟨y6, rfl, k5⟩
      rw [List.getElem?_map] at hi
      obtain ⟨o, ho, rfl⟩ : ∃ o, os[i]? = some o ∧ x = .ref o := by
        cases e : os[i]? with
        | none => rw [e] at hi; cases hi
        | some o => rw [e] at hi; exact ⟨o, rfl, (Option.some.inj hi).symm⟩
      have oneO := (hone o (List.mem_of_getElem? ho)).same k5
      have k15 : Same H1 H5 := k14.trans k5
      refine ⟨_, rfl, by show 0 ≤ sizeLine; decide, fun D hD => ⟨pf, D, ws, rfl, rfl, .inl ⟨SqL.of (same_new hD _ _ (k15 _ _ hpfl)), SqL.of upd_same⟩, _, rfl, ?_⟩⟩
      have k56 : Same H5 (upd H5 D (.lst [])) := same_new hD
      generalize upd H5 D (.lst []) = H6 at k56 ⊢
      have k16 := k15.trans k56
      have oneO := oneO.same k56
      cases hf : flt sd ad rd with
      | none =>
        rw [hf] at hws
        cases hws
        refine iteF ?_
        refine ⟨_, rfl, by show 0 ≤ sizeLine; decide, fun D2 hD2 => ⟨pf, D2, [], rfl, rfl, .inl ⟨SqL.of (same_new hD2 _ _ (k16 _ _ hpfl)), SqL.of upd_same⟩, _, rfl, ?_⟩⟩
        have k67 : Same H6 (upd H6 D2 (.lst [])) := same_new hD2
        generalize upd H6 D2 (.lst []) = H7 at k67 ⊢
        have oneO := oneO.same k67
        have k17 := k16.trans k67
        unfold OneAt at oneO
        rw [hf] at oneO
        obtain ⟨n, acts, acts', r', e1, e2, AA, perm, asc, st, hr'⟩ := oneO
        obtain ⟨fn1, fn2⟩ := flt_none hf e1 e2 AA
        subst e1 e2
        cases d1
        obtain ⟨a, xs, ds, rfl, e2, ha, nS2, hx⟩ := d2.tuple rfl
        injection e2 with e2
        subst e2
        refine iteT ?_
        refine ⟨_, rfl, _, rfl, _, rfl, _, rfl, S, o, a, n, acts, acts', xs, r, rd, rfl, ⟨⟨_, r', st, hr'⟩, AA.perm perm, fn1, fn2, g3.2.1⟩, perm, asc, k17 _ _ ha, hx.kp (Kp.of k17), AA, d3.kp (Kp.of k17), fun H8 k8 => ?_⟩
        exact ⟨_, rfl, iteF ⟨_, rfl, k5.trans (k56.trans (k67.trans k8))⟩⟩
      | some f =>
        rw [hf] at hws
        unfold OneAt at oneO
        rw [hf] at oneO
        obtain ⟨v, hv, dvv⟩ := oneO
        obtain ⟨v', rfl, dvf⟩ : ∃ v', ws = [v'] ∧ Dv S H1 v' f := by
          cases hws with
          | cons h t => cases t; exact ⟨_, rfl, h⟩
        have fok := flt_ok hf g2.2.1 (by have := g2.2.2.1; omega) g2.2.2.2
        obtain ⟨f1, f2, f3⟩ := lst1_show fok
        have hd : Dv [] H6 (.ref o) (.list [f]) := .lst hv (fun m => nomatch m) (.cons (dvv.sub (nL lt)) .nil)
        have hdf : Dv [] H6 (.ref pf) (.list [f]) := .lst (k16 _ _ hpfl) (fun m => nomatch m) (.cons ((dvf.kp (Kp.of k16)).sub nS) .nil)
        refine iteT ?_
        refine ⟨_, rfl, .ref o, .ref T.C_Store, _, _, false, rfl, .own _, hd.ty, Xo.kit_no T.ins_Store _ (tyD_mem (.list [f])), _, rfl, iteF ?_⟩
        refine ⟨_, rfl, .ref o, .list [f], rfl, hd, f1, f2, f3, _, rfl, .ref pf, .list [f], rfl, hdf, f1, f2, f3, rfl, _, rfl, iteNS rfl ?_⟩
        refine ⟨_, rfl, by show 0 ≤ sizeLine; decide, fun D2 hD2 => ⟨pf, D2, [v'], rfl, rfl, .inl ⟨SqL.of (same_new hD2 _ _ (k16 _ _ hpfl)), SqL.of upd_same⟩, _, rfl, ?_⟩⟩
        exact iteF ⟨_, rfl, k5.trans (k56.trans (same_new hD2))⟩
    · rintro σ H5 ⟨y6, rfl, k5⟩
      refine ⟨_, rfl, _, rfl, _, rfl, by show 3 ≤ sizeLine; decide, fun p1 hp1 => ?_⟩
      have kk : Same H (upd H5 p1 (.lst [sv, av, r])) := k01.trans (k14.trans (k5.trans (same_new hp1)))
      refine ⟨.ref p1, .list [sd, ad, rd], rfl, .lst upd_same (fun m => nomatch m) (.cons ((g1.1.kp (Kp.of kk)).sub nS) (.cons ((g2.1.kp (Kp.of kk)).sub nS) (.cons ((g3.1.kp (Kp.of kk)).sub nS) .nil))), s1, s2, s3, _, rfl, rfl, ?_⟩
      rw [decide_eq_true rfl]
      exact q _ kk
  · intro nx hnx
    have one3 : OneAt T (lt :: S) H3 o1 sd ad rd := (one1.fresh hlt).same k3
    have fin1 : nx [some sv, some av, some r, some (.str (PyData.list [sd, ad, rd]).shown), some (.ref pf), some (.ref lt), none] H3 → True := fun _ => trivial
    refine ⟨_, rfl, av, .ty "tuple", _, _, _, rfl, .ty _, (d2.kp (Kp.of (k2.trans k3))).ty, kit_all K _ (by decide) _ (tyD_mem ad), _, rfl, ?_⟩
    by_cases ht : isA "tuple" ad = true
    · obtain ⟨a, xs, ds, rfl, rfl, ha, nSa, hx⟩ := d2.tuple ht
      rw [show isB "tuple" (tyD (.tuple ds)) = true from rfl]
      refine iteT ?_
      have k13 : Same H1 H3 := k2.trans k3
      refine ⟨_, rfl, a, xs, rfl, .inr (SqT.of (k13 _ _ ha)), _, _, rfl, rfl, _, rfl, ite2 (fun hc => ?_) fun hc => ?_⟩
      · have hc' : (xs.length : Int) < 7 := of_decide_eq_true hc
        have hxl := hx.length
        have lf : ∀ {v : V} {d : PyData}, Dv S H1 v d → Dv (lt :: S) H3 v d := fun h => ((h.kp (Kp.of k2)).fresh hlt).kp (Kp.of k3)
        refine ⟨_, rfl, .inl ⟨rfl, _, SqL.of hl3⟩, _, rfl, _, rfl, _, rfl, lt :: S, sv, r, sd, rd, a, xs, ds, rfl, lf d1, g1.2.1, k13 _ _ ha, ((hx.kp (Kp.of k2)).fresh hlt).kp (Kp.of k3), okvAll_iff.mpr (okv_tup g2.2.1).2, by omega, lf d3, g3.2.1, tell_of fun H4 o2 k4 ho2 one2 => ?_⟩
        refine ⟨lt, [.ref o1], .ref o2, rfl, rfl, k4 _ _ hl3, by show 1 < sizeLine; decide, ?_⟩
        have n1 : o1 ≠ lt := fun z => by
          unfold OneAt at one1
          cases hf : flt sd (.tuple ds) rd with
          | none =>
            rw [hf] at one1
            obtain ⟨n1, acts1, acts1', r1, _, _, _, _, _, st1, _⟩ := one1
            obtain ⟨dx, aA, o, ps, dM, lW, kvs, ds, h1, _⟩ := st1.ex
            rw [z, hlt] at h1
            cases h1
          | some f =>
            rw [hf] at one1
            obtain ⟨v, h1, _⟩ := one1
            rw [z, hlt] at h1
            cases h1
        have n2 : o2 ≠ lt := fun z => by
          rw [z, hl3] at ho2
          cases ho2
        refine hnx _ ⟨fun b o e => ?_, [o1, o2], upd_same, fun o m => ?_⟩
        · rw [upd_ne (ne_of_none e hlt)]
          exact k4 _ _ (k3 _ _ e)
        · have o1' := one3.same k4
          rcases List.mem_cons.mp m with rfl | m
          · exact o1'.put o1' List.mem_cons_self (k4 _ _ hl3) n1
          · cases List.mem_singleton.mp m
            exact one2.put o1' List.mem_cons_self (k4 _ _ hl3) n2
      · exact hnx _ ⟨k3, [o1], hl3, fun o m => by
          cases List.mem_singleton.mp m
          exact one3⟩
    · have ht2 : isB "tuple" (tyD ad) = false := by
        have : isA "tuple" ad = false := by simpa using ht
        exact this
      rw [ht2]
      refine iteF ?_
      exact hnx _ ⟨k3, [o1], hl3, fun o m => by
        cases List.mem_singleton.mp m
        exact one3⟩
end
end K02
set_option Elab.async false
set_option linter.all false
set_option maxHeartbeats 4000000
set_option maxRecDepth 100000
/-! k02: what is due of two stores (plain); a store outlives draws. -/
namespace K02
open PySem PySem.Spec PyProof.Rows L2 Zg Zr Zd Zv
theorem badRow_ok {n : Int} : ∀ {acts : List Act} {ns : List PySem.Str}, (∀ a ∈ acts, isAct n (actD a) = true) → (acts.map (·.1)).Nodup → (∀ a ∈ acts, a.1 ∉ ns) → badRow n ns (acts.map actD) = none
  | [], _, _, _, _ => rfl
  | a :: acts, ns, h1, h2, h3 => by
    rw [List.map_cons, List.nodup_cons] at h2
    have en : nmOf (actD a) = a.1 := rfl
    rw [List.map_cons, badRow_cons, if_pos ⟨h1 a List.mem_cons_self, by rw [en]; exact h3 a List.mem_cons_self⟩]
    refine badRow_ok (fun b hb => h1 b (List.mem_cons_of_mem _ hb)) h2.2 fun b hb m => ?_
    rcases List.mem_append.mp m with m | m
    · exact h3 b (List.mem_cons_of_mem _ hb) m
    · rw [en] at m
      exact h2.1 (List.mem_map.mpr ⟨b, hb, List.mem_singleton.mp m⟩)
theorem flt_acts {n : Nat} {acts : List Act} {rd : PyData} (A : Acts n acts) (h1 : 1 ≤ n) (hs : areStates n rd = true) : flt (.int (n : Nat)) (.tuple (acts.map actD)) rd = none := by
  have hz : isSz (.int (n : Nat)) = true := by
    have := A.sz
    show (decide ((1 : Int) ≤ (n : Int)) && decide ((n : Int) ≤ 3)) = true
    rw [decide_eq_true (by omega), decide_eq_true (by omega)]
    rfl
  rw [flt_rest hz (badRow_ok A.isAct A.nd fun _ _ m => nomatch m), if_pos hs]
theorem asc_uniq {n : Nat} {a b : List Act} (A : Acts n a) (ha : Asc a) (hb : Asc b) (h : a.Perm b) : a = b :=
  List.Perm.eq_of_pairwise (le := fun x y : Act => ¬ y.1.cps.toList < x.1.cps.toList) (fun x y hx hy h1 h2 => same_name A.nd hx (h.mem_iff.mpr hy) (Zt.str_ext (List.le_antisymm (List.not_lt.mp h1) (List.not_lt.mp h2)))) ha hb h
/-! ### nice data -/
theorem abc_low : ∀ c ∈ ABC, Zy.low c = true := by decide +kernel
theorem nice_name {x : PySem.Str} (h : isName (.str x) = true) : Zy.nice (.str x) = true := by
  have h' : (decide (1 ≤ x.length) && decide (x.length ≤ 8) && x.cps.toList.all fun c => decide (c ∈ ABC)) = true := h
  rw [Bool.and_eq_true, List.all_eq_true] at h'
  show x.cps.toList.all Zy.low = true
  rw [List.all_eq_true]
  exact fun c hc => abc_low c (of_decide_eq_true (h'.2 c hc))
theorem nice_act {n : Nat} {acts : List Act} (A : Acts n acts) {a : Act} (ha : a ∈ acts) : Zy.nice (actD a) = true := by
  show (Zy.nice (.str a.1) && (Zy.niceAll (a.2.map mvD) && true)) = true
  rw [nice_name (A.nm a ha), Zy.niceAll_iff.mpr fun d hd => ?_]
  · rfl
  · obtain ⟨m, hm, rfl⟩ := List.mem_map.mp hd
    cases m with
    | none => rfl
    | some k =>
      have h1 := A.mv a ha (some k) hm k rfl
      have h2 := A.sz
      show decide (0 ≤ ((k : Nat) : Int) ∧ ((k : Nat) : Int) < 10) = true
      exact decide_eq_true (by omega)
theorem nice_states {n : Nat} {d : PyData} (hn : n ≤ 3) (h : areStates n d = true) : Zy.nice d = true := by
  unfold areStates at h
  split at h
  · rename_i ds
    rw [Bool.and_eq_true, List.all_eq_true] at h
    refine Zy.niceAll_iff.mpr fun x hx => ?_
    have := h.1 x hx
    cases x with
    | int i =>
      have h' : (decide ((0 : Int) ≤ i) && decide (i < (n : Int))) = true := this
      rw [Bool.and_eq_true, decide_eq_true_iff, decide_eq_true_iff] at h'
      exact decide_eq_true (by omega)
    | _ => cases this
  · cases h
/-- what the law shows of a store -/
def dueD (n : Nat) (acts : List Act) (rd : PyData) : PyData := .list [.int (n : Nat), .list (Xs.byStr (acts.map actD)), rd]
theorem due_mem {acts : List Act} {d : PyData} (h : d ∈ Xs.byStr (acts.map actD)) : ∃ a ∈ acts, actD a = d := List.mem_map.mp ((Xs.byStr_perm _).mem_iff.mp h)
theorem nice_due {n : Nat} {acts : List Act} {rd : PyData} (A : Acts n acts) (hs : areStates n rd = true) : Zy.nice (dueD n acts rd) = true := by
  show (Zy.nice (.int (n : Nat)) && (Zy.niceAll (Xs.byStr (acts.map actD)) && (Zy.nice rd && true))) = true
  rw [nice_states A.sz hs, Zy.niceAll_iff.mpr fun d hd => ?_, show Zy.nice (.int (n : Nat)) = true from decide_eq_true (by have := A.sz; omega)]
  · rfl
  · obtain ⟨a, ha, rfl⟩ := due_mem hd
    exact nice_act A ha
theorem acts_inj : ∀ {l k : List Act}, l.map actD = k.map actD → l = k
  | [], [], _ => rfl
  | [], _ :: _, h => by cases h
  | _ :: _, [], h => by cases h
  | x :: l, y :: k, h => by
    rw [List.map_cons, List.map_cons] at h
    injection h with h1 h2
    rw [actD_inj h1, acts_inj h2]
theorem perm_inj {l k : List Act} (h : (l.map actD).Perm (k.map actD)) : l.Perm k := by
  obtain ⟨m, h1, h2⟩ : ∃ m : List Act, k.Perm m ∧ m.map actD = l.map actD := by
    have := h.symm
    generalize hl : l.map actD = L at this
    clear h hl
    have key : ∀ {K L : List PyData}, K.Perm L → ∀ k : List Act, k.map actD = K → ∃ m : List Act, k.Perm m ∧ m.map actD = L := fun {K L} p => by
      induction p with
      | nil => exact fun k e => ⟨k, .refl _, e⟩
      | cons x p ih =>
        intro k e
        cases k with
        | nil => cases e
        | cons a k =>
          injection e with e1 e2
          obtain ⟨m, m1, m2⟩ := ih k e2
          exact ⟨a :: m, m1.cons a, by rw [List.map_cons, e1, m2]⟩
      | swap x y L =>
        intro k e
        match k, e with
        | a :: b :: k, e =>
          injection e with e1 e2
          injection e2 with e2 e3
          exact ⟨b :: a :: k, .swap b a k, by rw [List.map_cons, List.map_cons, e1, e2, e3]⟩
      | trans p1 p2 ih1 ih2 =>
        intro k e
        obtain ⟨m, m1, m2⟩ := ih1 k e
        obtain ⟨m', m3, m4⟩ := ih2 m m2
        exact ⟨m', m1.trans m3, m4⟩
    exact key this k rfl
  rw [← acts_inj h2]
  exact h1.symm
theorem due_iff {n n' : Nat} {acts acts' : List Act} {rd rd' : PyData} (A : Acts n acts) (A' : Acts n' acts') (hs : areStates n rd = true) (hs' : areStates n' rd' = true) :
    (dueD n acts rd).shown = (dueD n' acts' rd').shown ↔ n = n' ∧ acts.Perm acts' ∧ rd = rd' := by
  constructor
  · intro h
    have e := Zy.shown_inj (nice_due A hs) (nice_due A' hs') h
    injection e with e
    injection e with e1 e
    injection e with e2 e
    injection e with e3 _
    injection e1 with e1
    injection e2 with e2
    refine ⟨by omega, perm_inj ?_, e3⟩
    exact (Xs.byStr_perm _).symm.trans ((List.Perm.of_eq e2).trans (Xs.byStr_perm _))
  · rintro ⟨rfl, h, rfl⟩
    unfold dueD
    rw [Xs.byStr_eq (fun d hd e he q => ?_) (h.map actD)]
    obtain ⟨a, ha, rfl⟩ := List.mem_map.mp hd
    obtain ⟨b, hb, rfl⟩ := List.mem_map.mp he
    exact Zy.shown_inj (nice_act A ha) (nice_act A hb) q
theorem due_show {n : Nat} {acts : List Act} {rd : PyData} (A : Acts n acts) (hs : areStates n rd = true) (o : okv rd = true) : (dueD n acts rd).showable = true ∧ (dueD n acts rd).hasDict = false ∧ (dueD n acts rd).depth ≤ 60 ∧ (dueD n acts rd).shown.length ≤ sizeLine := by
  have hl : (Xs.byStr (acts.map actD)).length = acts.length := by rw [(Xs.byStr_perm _).length_eq, List.length_map]
  have h20 := A.few
  have ok : okv (dueD n acts rd) = true := by
    show (true && (okv (.int (n : Nat)) && ((decide ((Xs.byStr (acts.map actD)).length ≤ 1000) && okvAll (Xs.byStr (acts.map actD))) && (okv rd && true)))) = true
    rw [o, hl, decide_eq_true (by omega), okvAll_iff.mpr fun d hd => ?_, show okv (.int (n : Nat)) = true from decide_eq_true (by
      have := A.sz
      rw [Int.natAbs_natCast]
      exact Nat.lt_of_lt_of_le (by omega : n < 10) (by decide))]
    · rfl
    · obtain ⟨a, ha, rfl⟩ := due_mem hd
      exact A.okv a ha
  have pl : pln (dueD n acts rd) = true := by
    show (true && (plnAll (Xs.byStr (acts.map actD)) && (pln rd && true))) = true
    rw [(states_pln hs).1, plnAll_iff.mpr fun d hd => ?_]
    · rfl
    · obtain ⟨a, ha, rfl⟩ := due_mem hd
      exact actD_pln a
  refine ⟨(okv_short _ ok).2, PyData.hasDict_of_canLay _ (pln_lay _ pl ok), ?_, okv_fits ok ?_⟩
  · have h2 : PyData.depthAll (Xs.byStr (acts.map actD)) ≤ 2 := depth_all fun d hd => by
      obtain ⟨a, _, rfl⟩ := due_mem hd
      exact depth_act a
    have h3 := (states_pln hs).2
    show max 0 (max (PyData.depthAll (Xs.byStr (acts.map actD)) + 1) (max rd.depth 0)) + 1 ≤ 60
    omega
  · have h1 := bulk_all (Xs.byStr (acts.map actD)) 20 fun d hd => by
      obtain ⟨a, ha, rfl⟩ := due_mem hd
      exact act_bulk A ha
    rw [hl] at h1
    have h2 := states_bulk hs o
    show 0 + 1 + (PyData.bulkAll (Xs.byStr (acts.map actD)) + 1 + (rd.bulk + 1 + 0)) ≤ 300000
    omega
theorem row_show {n : Nat} {acts : List Act} (A : Acts n acts) : ∀ d ∈ acts.map actD, d.showable = true ∧ d.hasDict = false ∧ d.depth ≤ 58 ∧ d.shown.length ≤ sizeLine := fun d hd => by
  obtain ⟨a, ha, rfl⟩ := List.mem_map.mp hd
  have ok := A.okv a ha
  exact ⟨(okv_short _ ok).2, PyData.hasDict_of_canLay _ (pln_lay _ (actD_pln a) ok), Nat.le_trans (depth_act a) (by decide), okv_fits ok (Nat.le_trans (act_bulk A ha) (by decide))⟩
/-! ### a store outlives draws -/
theorem StAt.well {C : Addr} {H H' : Hp} {S : List Addr} {p w l : Addr} {n c : Nat} {acts : List Act} {r : V} (h : StAt C H S p n acts r) (h1 : 1 ≤ n) (hW : Wl H w l c S) (k : Kp [w, l] H H') : StAt C H' S p n acts r := by
  obtain ⟨_, b, c', ns, hw, hl, _⟩ := hW.well
  obtain ⟨dx, aA, o, ps, dM, lW, kvs, ds, h1', h2, h3, h4, h5, h6, h7, h8⟩ := h.ex
  have kk : ∀ {y : Addr} {z : HO}, H y = some z → z ≠ .dK (WK l b c') → z ≠ .lst (ns.map V.int) → H' y = some z := fun {y z} e n1 n2 => k y z (fun m => by
    simp only [List.mem_cons, List.not_mem_nil, or_false] at m
    rcases m with rfl | rfl
    · rw [hw] at e
      exact n1 (Option.some.inj e).symm
    · rw [hl] at e
      exact n2 (Option.some.inj e).symm) e
  refine ⟨dx, aA, o, ps, dM, lW, kvs, ds, kk h1' nofun nofun, kk h2 nofun nofun, h3.kp (k.sub hW.sub), ⟨kk h4.1 (fun z => ?_) nofun, h4.2⟩, fun a ha => ?_, kk h6 nofun (fun z => ?_), h7, fun one d hd => ?_⟩
  · injection z with z
    subst z
    cases acts with
    | nil => cases h4.2
    | cons a acts =>
      have e := h4.2
      rw [List.map_cons] at e
      injection e with e _
      obtain ⟨m, e1, e2⟩ := h5 a List.mem_cons_self
      rw [← e] at e1
      have e3 : valV (WK l b c') (.inr "told") = some (.ref m) := e1
      rw [wk_told] at e3
      injection e3 with e3
      injection e3 with e3
      rw [← e3, hl] at e2
      cases e2
  · obtain ⟨m, e1, e2⟩ := h5 a ha
    exact ⟨m, e1, kk e2 nofun nofun⟩
  · injection z with z
    cases ds with
    | nil =>
      have : n = 0 := h7.symm
      omega
    | cons d ds =>
      cases ns with
      | nil => cases z
      | cons i ns => cases z
  · obtain ⟨E, e1, e2, e3⟩ := h8 one d hd
    refine ⟨E, kk e1 (fun z => ?_) nofun, fun e he => kk (e2 e he) nofun nofun, e3⟩
    injection z with z
    cases E with
    | nil => cases z
    | cons e E =>
      injection z with z _
      injection z with z _
      cases z
end K02
set_option Elab.async false
set_option linter.all false
set_option maxHeartbeats 4000000
set_option maxRecDepth 100000
set_option pp.maxSteps 2500
/-! k02: whether stores are equal, and hold names, as they should. -/
namespace K02
open PySem PySem.Spec PyProof.Rows L2 Zg Zr Zd Zv
section
variable {P : Program} {w : World} {K : PySem.W.Frag} {mg : PySem.Str → Option Value} {base : Heap}
theorem kbc (T : Txt K mg) : KBn K T.d_Store_of P_Store_of 1 ["resting", "actions", "size"] (fun us ws => us ++ ws.reverse) (fun vs zs => vs ++ zs.reverse) :=
  Sk.kb1 T.F_Store_of (fun _ _ _ _ _ _ us ws h1 h2 => match us, h1, ws, h2 with
    | [_], _, [_, _, _], _ => rfl) fun r rz => r.append rz.reverse
theorem of_same {n n' : Nat} {acts acts' : List Act} (e1 : PyData.int (n : Nat) = .int (n' : Nat)) (e2 : PyData.tuple (acts.map actD) = .tuple (acts'.map actD)) : n = n' ∧ acts = acts' := by
  injection e1 with e1
  injection e2 with e2
  exact ⟨by omega, acts_inj e2⟩
theorem rows_few {n : Nat} {acts : List Act} (A : Acts n acts) : (rows (.tuple (acts.map actD))).length ≤ 20 := by
  show (acts.map actD).length ≤ 20
  rw [List.length_map]
  exact A.few
theorem int_okv {n : Nat} (h : n ≤ 3) : okv (.int (n : Nat)) = true := by
  refine decide_eq_true ?_
  rw [Int.natAbs_natCast]
  exact Nat.lt_of_lt_of_le (by omega : n < 10) (by decide)
theorem bl2_show (b : Bool) : (PyData.list [.bool b, .bool b]).showable = true ∧ (PyData.list [.bool b, .bool b]).depth ≤ 60 ∧ (PyData.list [.bool b, .bool b]).shown.length ≤ sizeLine := by
  have ok : okv (.list [.bool b, .bool b]) = true := rfl
  exact ⟨(okv_short _ ok).2, by show 1 ≤ 60; decide, okv_fits ok (by show 0 + 1 + (0 + 1 + 0) ≤ 300000; decide)⟩
theorem isNm_perm {acts acts' : List Act} (h : acts'.Perm acts) (x : PySem.Str) : isNm acts' (.str x) = decide (x ∈ acts.map (·.1)) := by
  show decide (x ∈ acts'.map (·.1)) = _
  rw [Bool.eq_iff_iff, decide_eq_true_iff, decide_eq_true_iff]
  exact (h.map (·.1)).mem_iff
def sp_er : Sp := fun vs H Q _ => ∃ (w l : Addr) (C : Nat) (S : List Addr) (n : Nat) (a : Addr) (xs : List V) (r : V) (acts : List Act) (rd : PyData), vs = [.ref w, .int (n : Nat), .ref a, r] ∧ Wl H w l C S ∧ C + 200 < LIM ∧
  H a = some (.tup xs) ∧ a ∉ S ∧ DvAll S H xs (acts.map actD) ∧ Dv S H r rd ∧ Acts n acts ∧ acts.length ≤ 6 ∧ 1 ≤ n ∧ areStates n rd = true ∧ Zv.okv rd = true ∧ ∀ H', Kp [w, l] H H' → Wl H' w l (C + 200) S → Q (.bl true) H'
theorem ok_equals_right (T : Txt K mg) : FnG P w K mg base 12 T.a_equals_right T.d_equals_right P_equals_right sp_er := by
  refine okG T.F_equals_right sc_equals_right (fun vs H Q E h => by obtain ⟨w, l, C, S, n, a, xs, r, acts, rd, rfl, _⟩ := h; rfl) (fun cdv A outer s H vs Q hgd hr h => ?_)
  refine ⟨_, (pss_cons (ps_set (i := 4) sc_equals_right.nd rfl (Or.inl rfl) (ClX.pe_cmeth (pe_glob (v := .ref T.C_Store) rfl T.g_Store rfl) T.rd_Store T.me_Store_of ((Xk.calm (ok_Store_of T)).raw T.b_Store_of .nil) (hr.mono (by decide)) pass0 (pa_cons (pv 1) (pa_cons (pv 2) (pa_cons (pv 3) pa_nil)))))
    (pss_cons (ps_if (PW.pt (pw_or (pt_not (pt_cmpR (Xo.op_eqO (ok_Store_eq T) (hr.mono (by decide)) T.b_Store_eq T.eq_Store T.eqf_Store) (pv 4) (ClX.pe_cmeth (pe_glob (v := .ref T.C_Store) rfl T.g_Store rfl) T.rd_Store T.me_Store_of ((Xk.calm (ok_Store_of T)).raw T.b_Store_of .nil) (hr.mono (by decide)) pass0 (pa_cons (pv 1) (pa_cons (Zw.pe_revT (pv 2)) (pa_cons (pv 3) pa_nil)))) (nomark _))) (pw_or (pt_cmpR (Xo.op_eqO (ok_Store_eq T) (hr.mono (by decide)) T.b_Store_eq T.eq_Store T.eqf_Store) (pv 4) (pe_lst (pa_cons (pv 1) (pa_cons (pv 2) (pa_cons (pv 3) pa_nil)))) (nomark _)) (pw_or1 (pt_cmpR (Xo.op_eqO (ok_Store_eq T) (hr.mono (by decide)) T.b_Store_eq T.eq_Store T.eqf_Store) (pv 4) (pv 2) (nomark _)))))) (pss_one (ps_ret pe_bl)) pss_nil)
    (pss_cons (ps_set (i := 5) sc_equals_right.nd rfl (Or.inl rfl) (pe_call (ok_store T) (hr.mono (by omega)) (by rfl) T.g_store T.F_store.kp T.b_store .nil pass0 (pa_cons (pv 0) pa_nil)))
    (pss_cons (ps_set (i := 6) sc_equals_right.nd rfl (Or.inl rfl) (pe_cmpR op_eq (pe_callB (cr_repr hgd hr) (by rfl) T.n_repr (by decide +kernel) (pa_cons (pe_lst (pa_cons (pv 1) (pa_cons (pe_callBK (Xs.cr_sortStr hgd hr) (by rfl) T.n_sorted (by decide +kernel) (pa_cons (pv 2) pa_nil) (pk_cons (pe_bltn (v := .ty "str") (u := .type "str") (by rfl) T.n_str (by decide +kernel) rfl) pk_nil)) (pa_cons (pv 3) pa_nil)))) pa_nil)) (pe_callB (cr_repr hgd hr) (by rfl) T.n_repr (by decide +kernel) (pa_cons (pe_lst (pa_cons (pe_ix ix_list (pv 5) pe_int (fun _ _ => rfl)) (pa_cons (pe_callBK (Xs.cr_sortStr hgd hr) (by rfl) T.n_sorted (by decide +kernel) (pa_cons (pe_ix ix_list (pv 5) pe_int (fun _ _ => rfl)) pa_nil) (pk_cons (pe_bltn (v := .ty "str") (u := .type "str") (by rfl) T.n_str (by decide +kernel) rfl) pk_nil)) (pa_cons (pe_ix ix_list (pv 5) pe_int (fun _ _ => rfl)) pa_nil)))) pa_nil)) (nomark _)))
    (pss_cons (ps_if (pt_cmpR op_ne (pe_cmpR (Xo.op_eqO (ok_Store_eq T) (hr.mono (by decide)) T.b_Store_eq T.eq_Store T.eqf_Store) (pv 4) (Xk.pe_cmethKw (pe_glob (v := .ref T.C_Store) rfl T.g_Store rfl) T.rd_Store T.me_Store_of (Xk.calm (ok_Store_of T)) (hr.mono (by decide)) (kbc T) pass0 (pk_cons (pe_ix ix_list (pv 5) pe_int (fun _ _ => rfl)) (pk_cons (pe_ix ix_list (pv 5) pe_int (fun _ _ => rfl)) (pk_cons (pe_ix ix_list (pv 5) pe_int (fun _ _ => rfl)) pk_nil)))) (nomark _)) (pv 6) (nomark _)) (pss_one (ps_ret pe_bl)) pss_nil)
    (pss_cons (ps_set (i := 7) sc_equals_right.nd rfl (Or.inl rfl) (pe_op op_cat (pe_op op_cat (pe_lc (own := [("row", 8)]) rfl sc_equals_right.nd (pi_tup (pv 2)) (blkOk_by (own := [("row", 8)]) (N := N_equals_right) (sc := defScope s_equals_right) (by decide +kernel)) (fun _ _ _ _ _ => (pg_name (i := 8) sc_equals_right.nd rfl (Or.inl rfl))) (fun _ _ _ _ _ => pts_nil) (fun _ _ _ _ _ => (pe_ix (show IxR _ (rIxT K) from ix_tup) (pv 8) pe_int (fun _ _ => rfl)))) (pe_callTy call_list_of (by rfl) T.n_list (by decide +kernel) (pa_cons (pv 2) pa_nil))) (pe_lst (pa_cons (pe_call (ok_name T) (hr.mono (by omega)) (by rfl) T.g_name T.F_name.kp T.b_name .nil pass0 (pa_cons (pv 0) pa_nil)) (pa_cons (pe_call (ok_odd T) (hr.mono (by omega)) (by rfl) T.g_odd T.F_odd.kp T.b_odd .nil pass0 (pa_cons (pv 0) pa_nil)) (pa_cons (pe_call (ok_odd T) (hr.mono (by omega)) (by rfl) T.g_odd T.F_odd.kp T.b_odd .nil pass0 (pa_cons (pv 0) pa_nil)) (pa_cons pe_str pa_nil)))))))
    (pss_cons (ps_for PassesOwn.never rfl (pi_list (pv 7)) (pg_name (i := 9) sc_equals_right.nd rfl (Or.inl rfl)) (pss_cons (ps_if (pt_cmpR op_ne (pe_cmpR (Xo.op_inO (ok_Store_contains T) (hr.mono (by decide)) T.b_Store_contains T.in_Store T.inf_Store) (pv 9) (pv 4) (by rfl)) (pe_and (pe_callB call_isi (by rfl) T.n_isinstance (by decide +kernel) (pa_cons (pv 9) (pa_cons (pe_bltn (v := .ty "str") (u := .type "str") (by rfl) T.n_str (by decide +kernel) rfl) pa_nil))) (pe_one (pe_cmpR op_in_seq (pv 9) (pe_lc (own := [("row", 8)]) rfl sc_equals_right.nd (pi_tup (pv 2)) (blkOk_by (own := [("row", 8)]) (N := N_equals_right) (sc := defScope s_equals_right) (by decide +kernel)) (fun _ _ _ _ _ => (pg_name (i := 8) sc_equals_right.nd rfl (Or.inl rfl))) (fun _ _ _ _ _ => pts_nil) (fun _ _ _ _ _ => (pe_ix (show IxR _ (rIxT K) from ix_tup) (pv 8) pe_int (fun _ _ => rfl)))) (by rfl)))) (nomark _)) (pss_one (ps_ret pe_bl)) pss_nil)
    (pss_one (ps_if (pt_cmpR op_ne (pe_callB (cr_reprV (S := []) hgd hr) (by rfl) T.n_repr (by decide +kernel) (pa_cons (pe_lst (pa_cons (pe_call (ok_is_name T) (hr.mono (by omega)) (by rfl) T.g_is_name T.F_is_name.kp T.b_is_name .nil pass0 (pa_cons (pv 9) pa_nil)) (pa_cons (pe_callK0 (ok_is_name T) (hr.mono (by omega)) (by rfl) T.g_is_name T.F_is_name.kp T.kb_is_name_thing pass0 (pk_cons (pv 9) pk_nil)) pa_nil))) pa_nil)) (pe_callB (cr_reprV (S := []) hgd hr) (by rfl) T.n_repr (by decide +kernel) (pa_cons (pe_op op_rep (pe_lst (pa_cons (pe_call (ok_w_is_name T) (hr.mono (by omega)) (by rfl) T.g_w_is_name T.F_w_is_name.kp T.b_w_is_name .nil pass0 (pa_cons (pv 9) pa_nil)) pa_nil)) pe_int) pa_nil)) (nomark _)) (pss_one (ps_ret pe_bl)) pss_nil))))
    (pss_one (ps_ret pe_bl))))))))), ?_⟩
  obtain ⟨w, l, C, S, n, a, xs, r, acts, rd, rfl, hW, hC, ha, hna, hx, hrd, AA, h6, h1n, hst, ord, q⟩ := h
  refine ⟨rfl, _, rfl, _, rfl, _, rfl, S, .int (n : Nat), .ref a, r, .int (n : Nat), .tuple (acts.map actD), rd, rfl, .int _, int_okv AA.sz, .tup ha hna hx, acts_okv AA, rows_few AA, hrd, ord, ?_⟩
  rw [flt_acts AA h1n hst]
  intro n' acts0 e1 e2 _ H1 p acts1 k1 hp perm1 asc1 st1
  obtain ⟨rfl, rfl⟩ := of_same e1 e2
  clear e1 e2
  have sto1 : Sto T H1 p n acts1 rd := ⟨⟨S, r, st1, .inl (hrd.kp (Kp.of k1))⟩, AA.perm perm1, h1n, hst, ord⟩
  have hW1 := hW.same k1
  have hx1 := hx.kp (Kp.of k1)
  have hrd1 := hrd.kp (Kp.of k1)
  have ha1 := k1 _ _ ha
  -- the same of the actions turned about
  refine ⟨_, rfl, rfl, _, rfl, _, rfl, a, xs, rfl, SqT.of ha1, fun pr hpr => ⟨_, rfl, ?_⟩⟩
  have k12 : Same H1 (upd H1 pr (.tup xs.reverse)) := same_new hpr
  have hpr2 : (upd H1 pr (.tup xs.reverse)) pr = some (.tup xs.reverse) := upd_same
  generalize upd H1 pr (.tup xs.reverse) = H2 at k12 hpr2 ⊢
  have AAr : Acts n acts.reverse := AA.perm (List.reverse_perm _)
  refine ⟨S, .int (n : Nat), .ref pr, r, .int (n : Nat), .tuple (acts.reverse.map actD), rd, rfl, .int _, int_okv AA.sz, .tup hpr2 (hW1.out hpr) (by rw [List.map_reverse]; exact DvAll.reverse (hx1.kp (Kp.of k12))), acts_okv AAr, rows_few AAr, hrd1.kp (Kp.of k12), ord, ?_⟩
  rw [flt_acts AAr h1n hst]
  intro n' acts0 e1 e2 _ H3 p2 acts2 k23 hp2 perm2 asc2 st2
  obtain ⟨rfl, e2⟩ := of_same e1 e2
  subst e2
  clear e1
  have k13 := k12.trans k23
  have sto2 : Sto T H3 p2 n acts2 rd := ⟨⟨S, r, st2, .inl (hrd1.kp (Kp.of k13))⟩, AA.perm (perm2.trans (List.reverse_perm _)), h1n, hst, ord⟩
  have sto13 := sto1.same k13
  obtain ⟨S0, r0, st0, hr0⟩ := sto13.ex
  obtain ⟨dx, aA, o, ps, dM, lW, kvs, ds, hp3, _⟩ := st0.ex
  refine ⟨p, dx, _, .ref T.C_Store, rfl, hp3, sto2.ty, Xo.not_first_me K T.C_Store, p, .ref p2, n, acts1, rd, rfl, sto13, .inr ⟨p2, n, acts2, rd, rfl, sto2, fun H4 b k34 hb => ?_⟩⟩
  obtain rfl : b = true := hb.mpr ⟨rfl, asc_uniq (AA.perm perm1) asc1 asc2 (perm1.trans (perm2.trans (List.reverse_perm _)).symm), rfl⟩
  refine ⟨_, rfl, _, rfl, iteF ?_⟩
  clear hb hp3 hr0 st0 sto13 sto2 st2
  have k14 : Same H1 H4 := k13.trans k34
  have sto14 := sto1.same k14
  have hx4 := hx1.kp (Kp.of k14)
  have hrd4 := hrd1.kp (Kp.of k14)
  have ha4 := k14 _ _ ha1
  have hW4 := hW1.same k14
  obtain ⟨S0, r0, st0, hr0⟩ := sto14.ex
  obtain ⟨dx, aA, o, ps, dM, lW, kvs, ds, hp4, _⟩ := st0.ex
  refine ⟨_, rfl, _, rfl, _, rfl, _, rfl, by show 3 ≤ sizeLine; decide, fun pl hpl => ?_⟩
  have k45 : Same H4 (upd H4 pl (.lst [.int (n : Nat), .ref a, r])) := same_new hpl
  have hpl5 : (upd H4 pl (.lst [.int (n : Nat), .ref a, r])) pl = some (.lst [.int (n : Nat), .ref a, r]) := upd_same
  generalize upd H4 pl (.lst [.int (n : Nat), .ref a, r]) = H5 at k45 hpl5 ⊢
  have dvl : Dv S H5 (.ref pl) (.list [.int (n : Nat), .tuple (acts.map actD), rd]) := .lst hpl5 (hW4.out hpl) (.cons (.int _) (.cons ((Dv.tup ha4 hna hx4).kp (Kp.of k45)) (.cons (hrd4.kp (Kp.of k45)) .nil)))
  refine ⟨p, dx, _, _, rfl, k45 _ _ hp4, dvl.ty, Xo.not_first K T.C_Store _ (tyD_mem _), p, .ref pl, n, acts1, rd, rfl, sto14.same k45, .inl ⟨S, _, dvl, fun H6 k56 => ?_⟩⟩
  refine ⟨_, rfl, _, rfl, iteF ?_⟩
  have k46 := k45.trans k56
  have dvr : Dv S H6 (.ref a) (.tuple (acts.map actD)) := (Dv.tup ha4 hna hx4).kp (Kp.of k46)
  refine ⟨_, rfl, _, rfl, p, dx, _, _, rfl, k46 _ _ hp4, dvr.ty, Xo.not_first K T.C_Store _ (tyD_mem _), p, .ref a, n, acts1, rd, rfl, sto14.same k46, .inl ⟨S, _, dvr, fun H7 k67 => ?_⟩⟩
  refine ⟨_, rfl, _, rfl, iteF ?_⟩
  -- another store is drawn
  have k17 : Same H1 H7 := k14.trans (k46.trans k67)
  have hW7 := hW1.same k17
  refine ⟨_, rfl, w, l, C, S, rfl, hW7, by omega, fun H8 p8 a8 b8 n8 acts8 rd8 k78 hW8 np8 hp8 da8 db8 A8 l8 h18 hs8 ok8 => ?_⟩
  have k18 : Kp S H1 H8 := (Kp.of k17).trans (k78.sub hW7.sub)
  have st8 : StAt T.C_Store H8 S p n acts1 r := (st1.same k17).well h1n hW7 k78
  have ha8 : H8 a = some (.tup xs) := k18 _ _ hna ha1
  have hx8 := hx1.kp k18
  have hrd8 := hrd1.kp k18
  have sto8 : Sto T H8 p n acts1 rd := ⟨⟨S, r, st8, .inl hrd8⟩, AA.perm perm1, h1n, hst, ord⟩
  obtain ⟨qs, exs, _, _⟩ := refs_of hx8
  have hdp8 : DpAll K H8 (qs.map V.ref) (acts.map actD) := by
    rw [← exs]
    exact dpAll_dv hx8 (acts_pln acts)
  refine ⟨_, rfl, _, rfl, a, qs, acts.map actD, rfl, rfl, SqT.of (by rw [← exs]; exact ha8), hdp8, row_show AA, fun ys ps8 hyl hps8 hdy => ?_⟩
  have k89 : Same H8 (upd H8 ps8 (.lst (ys.map V.ref))) := same_new hps8
  have hps9 : (upd H8 ps8 (.lst (ys.map V.ref))) ps8 = some (.lst (ys.map V.ref)) := upd_same
  generalize upd H8 ps8 (.lst (ys.map V.ref)) = H9 at k89 hps9 ⊢
  refine ⟨_, rfl, by show 3 ≤ sizeLine; decide, fun pd hpd => ?_⟩
  have k9A : Same H9 (upd H9 pd (.lst [.int (n : Nat), .ref ps8, r])) := same_new hpd
  have hpdA : (upd H9 pd (.lst [.int (n : Nat), .ref ps8, r])) pd = some (.lst [.int (n : Nat), .ref ps8, r]) := upd_same
  generalize upd H9 pd (.lst [.int (n : Nat), .ref ps8, r]) = HA at k9A hpdA ⊢
  have k8A := k89.trans k9A
  have sh1 := due_show AA hst ord
  refine ⟨pd, dueD n acts rd, rfl, .lst (SqL.of hpdA) (.cons (.int _) (.cons (.lst (SqL.of (k9A _ _ hps9)) (dpAll_mono k8A _ _ hdy)) (.cons (dp_dv (hrd8.kp (Kp.of k8A)) (states_pln hst).1) .nil))), sh1.1, sh1.2.1, sh1.2.2.1, sh1.2.2.2, ?_⟩
  obtain ⟨a8', xs8, ds8, e8, eds, ha8', nS8, hx8'⟩ := da8.tuple rfl
  injection e8 with e8
  subst e8
  injection eds with eds
  subst eds
  obtain ⟨qs8, exs8, _, _⟩ := refs_of hx8'
  have hdp8' : DpAll K HA (qs8.map V.ref) (acts8.map actD) := by
    rw [← exs8]
    exact dpAll_dv (hx8'.kp (Kp.of k8A)) (acts_pln acts8)
  refine ⟨_, rfl, p8, _, 0, .int (n8 : Nat), rfl, rfl, SqL.of (k8A _ _ hp8), rfl, _, rfl, p8, _, 1, .ref a8, rfl, rfl, SqL.of (k8A _ _ hp8), rfl, a8, qs8, acts8.map actD, rfl, rfl, SqT.of (by rw [← exs8]; exact k8A _ _ ha8'), hdp8', row_show A8, fun ys8 psB hyl8 hpsB hdyB => ?_⟩
  have kAB : Same HA (upd HA psB (.lst (ys8.map V.ref))) := same_new hpsB
  have hpsB' : (upd HA psB (.lst (ys8.map V.ref))) psB = some (.lst (ys8.map V.ref)) := upd_same
  generalize upd HA psB (.lst (ys8.map V.ref)) = HB at kAB hpsB' ⊢
  have k8B := k8A.trans kAB
  refine ⟨_, rfl, p8, _, 2, .ref b8, rfl, rfl, SqL.of (k8B _ _ hp8), rfl, by show 3 ≤ sizeLine; decide, fun pe hpe => ?_⟩
  have kBC : Same HB (upd HB pe (.lst [.int (n8 : Nat), .ref psB, .ref b8])) := same_new hpe
  have hpeC : (upd HB pe (.lst [.int (n8 : Nat), .ref psB, .ref b8])) pe = some (.lst [.int (n8 : Nat), .ref psB, .ref b8]) := upd_same
  generalize upd HB pe (.lst [.int (n8 : Nat), .ref psB, .ref b8]) = HC at kBC hpeC ⊢
  have kAC := kAB.trans kBC
  have k8C := k8A.trans kAC
  have sh2 := due_show A8 hs8 ok8
  refine ⟨pe, dueD n8 acts8 rd8, rfl, .lst (SqL.of hpeC) (.cons (.int _) (.cons (.lst (SqL.of (kBC _ _ hpsB')) (dpAll_mono kAC _ _ hdyB)) (.cons (dp_dv (db8.kp (Kp.of k8C)) (states_pln hs8).1) .nil))), sh2.1, sh2.2.1, sh2.2.2.1, sh2.2.2.2, ?_⟩
  refine ⟨rfl, ?_⟩
  -- the other one, by keywords
  refine ⟨_, rfl, rfl, _, rfl, p8, _, 2, .ref b8, rfl, rfl, SqL.of (k8C _ _ hp8), rfl, _, rfl, p8, _, 1, .ref a8, rfl, rfl, SqL.of (k8C _ _ hp8), rfl, _, rfl, p8, _, 0, .int (n8 : Nat), rfl, rfl, SqL.of (k8C _ _ hp8), rfl, rfl, ?_⟩
  refine ⟨S, .int (n8 : Nat), .ref a8, .ref b8, .int (n8 : Nat), .tuple (acts8.map actD), rd8, rfl, .int _, int_okv A8.sz, .tup (k8C _ _ ha8') nS8 (hx8'.kp (Kp.of k8C)), acts_okv A8, rows_few A8, db8.kp (Kp.of k8C), ok8, ?_⟩
  rw [flt_acts A8 h18 hs8]
  intro n' acts0 e1 e2 _ HD pD actsD kCD hpD permD ascD stD'
  obtain ⟨rfl, e2⟩ := of_same e1 e2
  subst e2
  clear e1
  have k8D := k8C.trans kCD
  have stoD : Sto T HD pD n8 actsD rd8 := ⟨⟨S, .ref b8, stD', .inl (db8.kp (Kp.of k8D))⟩, A8.perm permD, h18, hs8, ok8⟩
  have sto8D := sto8.same k8D
  obtain ⟨S1, r1, st1', hr1⟩ := sto8D.ex
  obtain ⟨dx1, aA1, o1, ps1, dM1, lW1, kvs1, ds1, hpD1, _⟩ := st1'.ex
  refine ⟨p, dx1, _, .ref T.C_Store, rfl, hpD1, stoD.ty, Xo.not_first_me K T.C_Store, p, .ref pD, n, acts1, rd, rfl, sto8D, .inr ⟨pD, n8, actsD, rd8, rfl, stoD, fun HE b kDE hb => ?_⟩⟩
  have eb : b = decide (V.str (dueD n acts rd).shown = V.str (dueD n8 acts8 rd8).shown) := by
    rw [Bool.eq_iff_iff, hb, decide_eq_true_iff]
    constructor
    · rintro ⟨h1, h2, h3⟩
      refine congrArg V.str ((due_iff AA A8 hst hs8).mpr ⟨h1, ?_, h3⟩)
      rw [h2] at perm1
      exact perm1.symm.trans permD
    · intro h
      injection h with h
      obtain ⟨h1, h2, h3⟩ := (due_iff AA A8 hst hs8).mp h
      exact ⟨h1, asc_uniq (AA.perm perm1) asc1 ascD (perm1.trans (h2.trans permD.symm)), h3⟩
  refine ⟨_, rfl, _, rfl, rfl, _, rfl, ?_⟩
  rw [← eb]
  refine iteNS rfl ?_
  -- things to be looked for
  have k8E : Same H8 HE := k8D.trans kDE
  have kE : Kp S H1 HE := k18.trans (Kp.of k8E)
  have haE : HE a = some (.tup xs) := k8E _ _ ha8
  have hxE := hx8.kp (Kp.of k8E)
  have hWE := hW8.same k8E
  have stE := st8.same k8E
  have kE0 : Kp [w, l] H HE := (Kp.of (k1.trans k17)).trans (k78.trans (Kp.of k8E))
  have hrdE := hrd8.kp (Kp.of k8E)
  clear hb eb hpD1 hr1 st1' sto8D stoD stD' hdyB hdp8' hdy hdp8 dvr dvl hr0 hp4 st0
  have hxl : xs.length = acts.length := by rw [hxE.length, List.length_map]
  refine ⟨_, rfl, a, rfl, ⟨_, SqT.of haE⟩, fun D hD => ?_⟩
  refine lc_tup (K := K) (a := a) (xs := xs) (fun i H' => Same HE H' ∧ H' D = some (.lst ((((acts.take i).map (·.1))).map V.str))) ⟨same_new hD, upd_same⟩ (fun i H' _ p => SqT.of (p.1 _ _ haE)) ?_ ?_
  · rintro i x HF hi ⟨k, hDl⟩
    obtain ⟨hi1, _⟩ := List.getElem?_eq_some_iff.mp hi
    have hi' : i < acts.length := by omega
    obtain ⟨d, hdi, hdx⟩ := hxE.get hi
    have ed : d = actD acts[i] := by
      rw [List.getElem?_map, List.getElem?_eq_getElem hi'] at hdi
      exact (Option.some.inj hdi).symm
    subst ed
    obtain ⟨pp, mm, rfl, hpp, _, _⟩ := act_at hdx
    refine ⟨rfl, _, rfl, pp, _, 0, .str acts[i].1, rfl, rfl, SqT.of (k _ _ hpp), rfl, _, hDl, ?_, ?_, ?_⟩
    · rw [List.length_map, List.length_map, List.length_take, sizeLine_eq]
      omega
    · exact fun b o eb => by
        rw [upd_ne (ne_of_none eb hD)]
        exact k _ _ eb
    · rw [upd_same, List.take_succ, List.getElem?_eq_getElem hi', List.map_append, List.map_append]
      rfl
  · rintro HF ⟨kEF, hDl⟩
    rw [hxl, List.take_length] at hDl
    refine ⟨_, rfl, a, xs, rfl, .inr (SqT.of (kEF _ _ haE)), fun l2 hl2 => ?_⟩
    have kFG : Same HF (upd HF l2 (.lst xs)) := same_new hl2
    have hl2G : (upd HF l2 (.lst xs)) l2 = some (.lst xs) := upd_same
    generalize upd HF l2 (.lst xs) = HG at kFG hl2G ⊢
    refine ⟨D, l2, _, xs, rfl, rfl, kFG _ _ hDl, hl2G, by rw [List.length_map, List.length_map, sizeLine_eq]; omega, fun l3 hl3 => ?_⟩
    have kGH : Same HG (upd HG l3 (.lst ((acts.map (·.1)).map V.str ++ xs))) := same_new hl3
    have hl3H : (upd HG l3 (.lst ((acts.map (·.1)).map V.str ++ xs))) l3 = some (.lst ((acts.map (·.1)).map V.str ++ xs)) := upd_same
    generalize upd HG l3 (.lst ((acts.map (·.1)).map V.str ++ xs)) = HH at kGH hl3H ⊢
    have kEH : Same HE HH := kEF.trans (kFG.trans kGH)
    have hWH := hWE.same kEH
    refine ⟨_, rfl, w, l, C + 120, rfl, hWH.well, by omega, fun HI z kHI wI hz => ?_⟩
    have hWI := hWH.draw kHI wI
    refine ⟨_, rfl, w, l, C + 120 + 10, S, rfl, hWI, by omega, fun HJ v1 d1 kIJ hWJ g1 r1 => ?_⟩
    refine ⟨_, rfl, w, l, C + 120 + 10 + 1, S, rfl, hWJ, by omega, fun HK v2 d2 kJK hWK g2 r2 => ?_⟩
    refine ⟨by show 4 ≤ sizeLine; decide, fun l4 hl4 => ?_⟩
    have kHK : Kp [w, l] HH HK := kHI.trans (kIJ.trans kJK)
    have kKL : Same HK (upd HK l4 (.lst [.str z, v1, v2, .str "size"])) := same_new hl4
    have hl4L : (upd HK l4 (.lst [.str z, v1, v2, .str "size"])) l4 = some (.lst [.str z, v1, v2, .str "size"]) := upd_same
    have nl3 : l3 ∉ [w, l] := hWE.nin (fun m => (hWE.trk l3 m) (by
      cases e : HE l3 with
      | none => rfl
      | some o =>
        rw [kFG _ _ (kEF _ _ e)] at hl3
        cases hl3))
    generalize upd HK l4 (.lst [.str z, v1, v2, .str "size"]) = HL at kKL hl4L ⊢
    refine ⟨l3, l4, _, _, rfl, rfl, kKL _ _ (kHK _ _ nl3 hl3H), hl4L, by rw [List.length_append, List.length_map, List.length_map, sizeLine_eq]; show acts.length + xs.length + 4 ≤ _; omega, fun lt hlt => ?_⟩
    have kLM : Same HL (upd HL lt (.lst ((acts.map (·.1)).map V.str ++ xs ++ [.str z, v1, v2, .str "size"]))) := same_new hlt
    have hltM : (upd HL lt (.lst ((acts.map (·.1)).map V.str ++ xs ++ [.str z, v1, v2, .str "size"]))) lt = some (.lst ((acts.map (·.1)).map V.str ++ xs ++ [.str z, v1, v2, .str "size"])) := upd_same
    generalize upd HL lt (.lst ((acts.map (·.1)).map V.str ++ xs ++ [.str z, v1, v2, .str "size"])) = HM at kLM hltM ⊢
    have kKM : Same HK HM := kKL.trans kLM
    have kEM : Kp S HE HM := (Kp.of kEH).trans ((kHK.sub hWH.sub).trans (Kp.of kKM))
    have kwM : Kp [w, l] HE HM := (Kp.of kEH).trans (kHK.trans (Kp.of kKM))
    have hWM : Wl HM w l (C + 200) S := (hWK.same kKM).mono (by omega)
    have stM : StAt T.C_Store HM S p n acts1 r := ((stE.same kEH).well h1n hWH kHK).same kKM
    have stoM : Sto T HM p n acts1 rd := ⟨⟨S, r, stM, .inl (hrdE.kp kEM)⟩, AA.perm perm1, h1n, hst, ord⟩
    have haM : HM a = some (.tup xs) := kEM _ _ hna haE
    have hxM := hxE.kp kEM
    have dvs : ∀ ns : List PySem.Str, DvAll S HM (ns.map V.str) (ns.map PyData.str) := fun ns => by
      induction ns with
      | nil => exact .nil
      | cons x ns ih => exact .cons (.str x) ih
    have hall : DvAll S HM ((acts.map (·.1)).map V.str ++ xs ++ [.str z, v1, v2, .str "size"]) ((acts.map (·.1)).map PyData.str ++ acts.map actD ++ [.str z, d1, d2, .str "size"]) :=
      ((dvs _).append hxM).append (.cons (.str _) (.cons (g1.1.kp ((kJK.sub hWJ.sub).trans (Kp.of kKM))) (.cons (g2.1.kp (Kp.of kKM)) (.cons (.str _) .nil))))
    have hok : ∀ d ∈ ((acts.map (·.1)).map PyData.str ++ acts.map actD ++ [.str z, d1, d2, .str "size"]), okv d = true := fun d hd => by
      rcases List.mem_append.mp hd with hd | hd
      · rcases List.mem_append.mp hd with hd | hd
        · obtain ⟨x, hx, rfl⟩ := List.mem_map.mp hd
          obtain ⟨ac, hac, rfl⟩ := List.mem_map.mp hx
          exact (isName_ok (AA.nm ac hac)).1
        · obtain ⟨ac, hac, rfl⟩ := List.mem_map.mp hd
          exact AA.okv ac hac
      · simp only [List.mem_cons, List.not_mem_nil, or_false] at hd
        rcases hd with rfl | rfl | rfl | rfl
        · exact (isName_ok hz).1
        · exact g1.2.1
        · exact g2.2.1
        · decide +kernel
    generalize (acts.map (·.1)).map V.str ++ xs ++ [.str z, v1, v2, .str "size"] = vals at hltM hall ⊢
    generalize (acts.map (·.1)).map PyData.str ++ acts.map actD ++ [.str z, d1, d2, .str "size"] = dats at hall hok
    refine ⟨_, rfl, lt, rfl, ⟨_, SqL.of hltM⟩, for_list (K := K) (a := lt) (xs := vals) (fun i σ H' => ∃ y8 y9, σ = [some (.ref w), some (.int (n : Nat)), some (.ref a), some r, some (.ref p), some (.ref p8), some (.bl b), some (.ref lt), y8, y9] ∧ Same HM H') ⟨_, _, rfl, Same.refl _⟩ (fun i σ H' _ ⟨_, _, _, k⟩ => SqL.of (k _ _ hltM)) ?_ ?_⟩
    · rintro i v σ H' hi ⟨y8, y9, rfl, k⟩
      obtain ⟨d, hdi, hdv⟩ := hall.get hi
      have dok := hok d (List.mem_of_getElem? hdi)
      try dsimp only [tNext]
      refine if_viaH (fun H'' => Same HM H'') ?_ ?_
      · intro Ha ka
        refine ⟨_, rfl, S, v, d, rfl, hdv.kp (Kp.of ka), dok, fun Hb kb => ?_⟩
        refine ⟨_, rfl, rfl, S, v, d, rfl, hdv.kp (Kp.of (ka.trans kb)), dok, fun Hc kc => ?_⟩
        refine ⟨by show 2 ≤ sizeLine; decide, fun q1 hq1 => ?_⟩
        generalize hbb : isName d = bb
        obtain ⟨b1, b2, b3⟩ := bl2_show bb
        have kd : Same Hc (upd Hc q1 (.lst [.bl bb, .bl bb])) := same_new hq1
        have hq1d : (upd Hc q1 (.lst [.bl bb, .bl bb])) q1 = some (.lst [.bl bb, .bl bb]) := upd_same
        generalize upd Hc q1 (.lst [.bl bb, .bl bb]) = Hd at kd hq1d ⊢
        have kD := ka.trans (kb.trans (kc.trans kd))
        refine ⟨.ref q1, .list [.bool bb, .bool bb], rfl, .lst hq1d (fun m => nomatch m) (.cons (.bl _) (.cons (.bl _) .nil)), b1, b2, b3, ?_⟩
        refine ⟨_, rfl, S, v, d, rfl, hdv.kp (Kp.of kD), dok, fun He ke => ?_⟩
        rw [hbb]
        refine ⟨by show 1 ≤ sizeLine; decide, fun q2 hq2 => ?_⟩
        have kf : Same He (upd He q2 (.lst [.bl bb])) := same_new hq2
        refine ⟨q2, 2, _, rfl, rfl, upd_same, by decide, by decide, (by show 1 * 2 ≤ sizeLine; decide), fun q3 hq3 => ?_⟩
        have kg : Same He (upd (upd He q2 (.lst [.bl bb])) q3 (.lst (List.replicate (2 : Int).toNat [V.bl bb]).flatten)) := kf.trans (same_new hq3)
        have hq3g : (upd (upd He q2 (.lst [.bl bb])) q3 (.lst (List.replicate (2 : Int).toNat [V.bl bb]).flatten)) q3 = some (.lst [.bl bb, .bl bb]) := upd_same
        generalize upd (upd He q2 (.lst [.bl bb])) q3 (.lst (List.replicate (2 : Int).toNat [V.bl bb]).flatten) = Hg at kg hq3g ⊢
        refine ⟨.ref q3, .list [.bool bb, .bool bb], rfl, .lst hq3g (fun m => nomatch m) (.cons (.bl _) (.cons (.bl _) .nil)), b1, b2, b3, ?_⟩
        exact ⟨rfl, _, rfl, iteNS rfl ⟨_, _, rfl, kD.trans (ke.trans kg)⟩⟩
      · intro nx hnx
        have sto' := stoM.same k
        obtain ⟨S0, r0, st0, hr0⟩ := sto'.ex
        obtain ⟨dx, aA, o, ps, dM, lW, kvs, ds, hp4, _⟩ := st0.ex
        refine ⟨_, rfl, _, rfl, p, dx, _, rfl, hp4, p, v, S, d, n, acts1, rd, rfl, sto', hdv.kp (Kp.of k), fun Hb kb => ⟨_, rfl, ?_⟩⟩
        have kB := k.trans kb
        refine ⟨_, rfl, v, .ty "str", _, _, _, rfl, .ty _, (hdv.kp (Kp.of kB)).ty, kit_all K _ (by decide) _ (tyD_mem d), _, rfl, ?_⟩
        by_cases ht : isA "str" d = true
        · obtain ⟨x, rfl, rfl⟩ := hdv.text ht
          refine iteT ?_
          have haB := kB _ _ haM
          have hxB := hxM.kp (Kp.of kB)
          refine ⟨_, rfl, _, rfl, a, rfl, ⟨_, SqT.of haB⟩, fun D2 hD2 => ?_⟩
          refine lc_tup (K := K) (a := a) (xs := xs) (fun i H' => Same Hb H' ∧ H' D2 = some (.lst ((((acts.take i).map (·.1))).map V.str))) ⟨same_new hD2, upd_same⟩ (fun i H' _ p => SqT.of (p.1 _ _ haB)) ?_ ?_
          · rintro j x2 HF hj ⟨k2, hDl2⟩
            obtain ⟨hi1, _⟩ := List.getElem?_eq_some_iff.mp hj
            have hi' : j < acts.length := by omega
            obtain ⟨d', hdi', hdx⟩ := hxB.get hj
            have ed : d' = actD acts[j] := by
              rw [List.getElem?_map, List.getElem?_eq_getElem hi'] at hdi'
              exact (Option.some.inj hdi').symm
            subst ed
            obtain ⟨pp, mm, rfl, hpp, _, _⟩ := act_at hdx
            refine ⟨rfl, _, rfl, pp, _, 0, .str acts[j].1, rfl, rfl, SqT.of (k2 _ _ hpp), rfl, _, hDl2, ?_, ?_, ?_⟩
            · rw [List.length_map, List.length_map, List.length_take, sizeLine_eq]
              omega
            · exact fun b o eb => by
                rw [upd_ne (ne_of_none eb hD2)]
                exact k2 _ _ eb
            · rw [upd_same, List.take_succ, List.getElem?_eq_getElem hi', List.map_append, List.map_append]
              rfl
          · rintro HF ⟨k2, hDl2⟩
            rw [hxl, List.take_length] at hDl2
            refine ⟨D2, _, rfl, .inl (SqL.of hDl2), rfl, by rw [List.all_eq_true]; rintro u hu; obtain ⟨y, _, rfl⟩ := List.mem_map.mp hu; rfl, ?_⟩
            refine ⟨rfl, _, rfl, iteNS (congrArg V.bl ?_) ?_⟩
            · show isNm acts1 (.str x) = inV (.str x) ((acts.map (·.1)).map V.str)
              rw [in_names, isNm_perm perm1]
            · exact hnx _ (kB.trans k2)
        · have e : isNm acts1 d = false := by
            cases d with
            | str x => exact absurd rfl ht
            | _ => rfl
          have ht2 : isB "str" (tyD d) = false := by
            have : isA "str" d = false := by simpa using ht
            exact this
          rw [ht2]
          refine iteF ⟨rfl, _, rfl, iteNS (congrArg V.bl e) ?_⟩
          exact hnx _ kB
    · rintro σ H' ⟨y8, y9, rfl, k⟩
      exact q H' (kE0.trans (kwM.trans (Kp.of k))) (hWM.same k)
end
end K02
set_option Elab.async false
set_option linter.all false
set_option maxHeartbeats 4000000
set_option maxRecDepth 100000
set_option pp.maxSteps 2500
/-! k02: the law. -/
namespace K02
open PySem PySem.Spec PyProof.Rows L2 Zg Zr Zd Zv
theorem asc_len : ∀ (l : List Int) (lo n : Int), asc l = true → (∀ x ∈ l, lo ≤ x ∧ x < n) → (l.length : Int) ≤ max 0 (n - lo)
  | [], lo, n, _, _ => by
    show ((0 : Nat) : Int) ≤ _
    omega
  | [a], lo, n, _, h => by
    have := h a List.mem_cons_self
    show ((1 : Nat) : Int) ≤ _
    omega
  | a :: b :: r, lo, n, hs, h => by
    have h1 := h a List.mem_cons_self
    have hs' : (decide (a < b) && asc (b :: r)) = true := hs
    rw [Bool.and_eq_true, decide_eq_true_iff] at hs'
    have hb := h b (List.mem_cons_of_mem _ List.mem_cons_self)
    have key : ∀ (l : List Int) (x : Int), asc (x :: l) = true → ∀ y ∈ l, x < y := fun l => by
      induction l with
      | nil => exact fun _ _ _ m => nomatch m
      | cons z l ih =>
        intro x hx y hy
        have hx' : (decide (x < z) && asc (z :: l)) = true := hx
        rw [Bool.and_eq_true, decide_eq_true_iff] at hx'
        rcases List.mem_cons.mp hy with rfl | hy
        · exact hx'.1
        · exact Int.lt_trans hx'.1 (ih z hx'.2 y hy)
    have ih := asc_len (b :: r) (a + 1) n hs'.2 fun x hx => ⟨by
      have := key (b :: r) a hs x hx
      omega, (h x (List.mem_cons_of_mem _ hx)).2⟩
    rw [List.length_cons]
    rw [List.length_cons] at ih ⊢
    push_cast at ih ⊢
    omega
theorem states_small {n : Nat} {d : PyData} (hn : n ≤ 3) (h : areStates n d = true) : d.bulk ≤ 3 := by
  unfold areStates at h
  split at h
  · rename_i ds
    rw [Bool.and_eq_true, List.all_eq_true] at h
    have h1 := bulk_all ds 0 fun x hx => by
      have := h.1 x hx
      cases x with
      | int i => exact Nat.le_refl 0
      | _ => cases this
    have h2 := asc_len (ds.map intOf) 0 n h.2 fun x hx => by
      obtain ⟨e, he, rfl⟩ := List.mem_map.mp hx
      have := h.1 e he
      cases e with
      | int i =>
        have h' : (decide ((0 : Int) ≤ i) && decide (i < (n : Int))) = true := this
        rw [Bool.and_eq_true, decide_eq_true_iff, decide_eq_true_iff] at h'
        exact h'
      | _ => cases this
    rw [List.length_map] at h2
    show PyData.bulkAll ds ≤ 3
    omega
  · cases h
theorem Acts.take {n : Nat} {acts : List Act} (A : Acts n acts) (k : Nat) : Acts n (acts.take k) :=
  ⟨fun a h => A.nm a (List.mem_of_mem_take h), fun a h => A.ln a (List.mem_of_mem_take h), fun a h => A.mv a (List.mem_of_mem_take h), by
    rw [List.map_take]
    exact A.nd.sublist (List.take_sublist _ _), Nat.le_trans (by rw [List.length_take]; exact Nat.min_le_right _ _) A.few, A.sz⟩
/-- an action with its moves turned about -/
def twin (a : Act) : Act := (a.1, a.2.reverse)
theorem Acts.twins {n : Nat} {acts : List Act} (A : Acts n acts) : Acts n (acts.map twin) := by
  refine ⟨fun a h => ?_, fun a h => ?_, fun a h m hm k e => ?_, ?_, by rw [List.length_map]; exact A.few, A.sz⟩
  · obtain ⟨b, hb, rfl⟩ := List.mem_map.mp h
    exact A.nm b hb
  · obtain ⟨b, hb, rfl⟩ := List.mem_map.mp h
    exact (List.length_reverse).trans (A.ln b hb)
  · obtain ⟨b, hb, rfl⟩ := List.mem_map.mp h
    exact A.mv b hb m (List.mem_reverse.mp hm) k e
  · rw [List.map_map]
    exact A.nd
section
variable {S : List Addr} {H : Hp} {k dp : Nat}
theorem gv_int {n : Nat} (hn : n ≤ 3) (hk : 1 ≤ k) : Gv S H (.int (n : Nat)) (.int (n : Nat)) k dp := ⟨.int _, int_okv hn, hk, Nat.zero_le _⟩
theorem gv_states {n : Nat} {v : V} {d : PyData} (hn : n ≤ 3) (h : areStates n d = true) (ok : okv d = true) (hd : Dv S H v d) (hk : 4 ≤ k) (hdp : 1 ≤ dp) : Gv S H v d k dp :=
  ⟨hd, ok, by have := states_small hn h; omega, Nat.le_trans (states_pln h).2 hdp⟩
theorem gv_acts {n : Nat} {as bs : List Act} {v : V} (A : Acts n as) (B : Acts n bs) (hl : as.length + bs.length ≤ 6) (hd : Dv S H v (.tuple ((as ++ bs).map actD))) (hk : 130 ≤ k) (hdp : 3 ≤ dp) : Gv S H v (.tuple ((as ++ bs).map actD)) k dp := by
  have mem : ∀ d ∈ (as ++ bs).map actD, okv d = true ∧ d.bulk ≤ 20 ∧ d.depth ≤ 2 := fun d hd => by
    obtain ⟨a, ha, rfl⟩ := List.mem_map.mp hd
    rcases List.mem_append.mp ha with ha | ha
    · exact ⟨A.okv a ha, act_bulk A ha, depth_act a⟩
    · exact ⟨B.okv a ha, act_bulk B ha, depth_act a⟩
  have hb := bulk_all _ 20 fun d hd => (mem d hd).2.1
  rw [List.length_map, List.length_append] at hb
  refine ⟨hd, ?_, ?_, ?_⟩
  · show (decide (((as ++ bs).map actD).length ≤ 1000) && okvAll ((as ++ bs).map actD)) = true
    rw [List.length_map, List.length_append, decide_eq_true (by omega), Bool.true_and, okvAll_iff]
    exact fun d hd => (mem d hd).1
  · show PyData.bulkAll ((as ++ bs).map actD) + 1 ≤ k
    omega
  · have := depth_all fun d hd => (mem d hd).2.2
    show PyData.depthAll ((as ++ bs).map actD) + 1 ≤ dp
    omega
end
theorem gv_acts1 {S : List Addr} {H : Hp} {k dp : Nat} {n : Nat} {as : List Act} {v : V} (A : Acts n as) (hl : as.length ≤ 6) (hd : Dv S H v (.tuple (as.map actD))) (hk : 130 ≤ k) (hdp : 3 ≤ dp) : Gv S H v (.tuple (as.map actD)) k dp := by
  have h := gv_acts (bs := []) (v := v) (S := S) (H := H) (k := k) (dp := dp) A (A.take 0) (by simpa using hl) (by rw [List.append_nil]; exact hd) hk hdp
  rw [List.append_nil] at h
  exact h
theorem if_viaS {S1 B : TS} {D : Ends} {σ : L2.St} {H : Hp} (Pc : L2.St → Hp → Prop) (h1 : ∀ σ' H', Pc σ' H' → B D σ' H') (h2 : ∀ nx : L2.St → Hp → Prop, (∀ σ' H', Pc σ' H' → nx σ' H') → S1 { D with nx := nx } σ H) : tSeq S1 B D σ H := h2 _ h1
theorem Pt.mono {S : List Addr} {H : Hp} {p : Addr} {sd ad rd : PyData} {k dp r k' dp' r' : Nat} (h : Pt S H p sd ad rd k dp r) (a : k ≤ k') (b : dp ≤ dp') (c : r ≤ r') : Pt S H p sd ad rd k' dp' r' := by
  obtain ⟨⟨sv, av, rv, h1, h2, h3, h4⟩, n, r⟩ := h
  exact ⟨⟨sv, av, rv, h1, h2.mono a b, h3.mono a b, h4.mono a b⟩, n, Nat.le_trans r c⟩
section
variable {P : Program} {w : World} {K : PySem.W.Frag} {mg : PySem.Str → Option Value} {base : Heap}
theorem ok_law (T : Txt K mg) : FnG P w K mg base 20 T.a_law T.d_law P_law (sp_law K) := by
  refine okG T.F_law sc_law (fun vs H Q E h => by obtain ⟨a, ns, rfl, _⟩ := h; rfl) (fun cdv A outer s H vs Q hgd hr h => ?_)
  refine ⟨_, (pss_cons (ps_set (i := 1) sc_law.nd rfl (Or.inl rfl) (pe_call (ok_well T) (hr.mono (by omega)) (by rfl) T.g_well T.F_well.kp T.b_well .nil pass0 (pa_cons (pv 0) pa_nil)))
    (pss_cons (ps_for PassesOwn.never rfl (pi_range1 (by rfl) T.n_range (pa_cons pe_int pa_nil)) (pg_name (i := 2) sc_law.nd rfl (Or.inl rfl)) (pss_cons (ps_set (i := 3) sc_law.nd rfl (Or.inl rfl) (pe_call (ok_store T) (hr.mono (by omega)) (by rfl) T.g_store T.F_store.kp T.b_store .nil pass0 (pa_cons (pv 1) pa_nil)))
    (pss_cons (ps_if (pt_not (pt_val (pe_callG (ok_values_right T) hgd (hr.mono (by omega)) (by rfl) T.g_values_right T.F_values_right.kp T.b_values_right .nil (pa_cons (pe_ix ix_list (pv 3) pe_int (fun _ _ => rfl)) (pa_cons (pe_ix ix_list (pv 3) pe_int (fun _ _ => rfl)) (pa_cons (pe_ix ix_list (pv 3) pe_int (fun _ _ => rfl)) pa_nil)))))) (pss_one (ps_ret pe_bl)) pss_nil)
    (pss_cons (ps_if (pt_not (pt_val (pe_callG (ok_equals_right T) hgd (hr.mono (by omega)) (by rfl) T.g_equals_right T.F_equals_right.kp T.b_equals_right .nil (pa_cons (pv 1) (pa_cons (pe_ix ix_list (pv 3) pe_int (fun _ _ => rfl)) (pa_cons (pe_ix ix_list (pv 3) pe_int (fun _ _ => rfl)) (pa_cons (pe_ix ix_list (pv 3) pe_int (fun _ _ => rfl)) pa_nil))))))) (pss_one (ps_ret pe_bl)) pss_nil)
    (pss_cons (ps_set (i := 3) sc_law.nd rfl (Or.inl rfl) (pe_lst (pa_cons (pe_ix ix_list (pv 3) pe_int (fun _ _ => rfl)) (pa_cons (pe_slice sl_tupA (pe_ix ix_list (pv 3) pe_int (fun _ _ => rfl)) po_none (po_some pe_int)) (pa_cons (pe_ix ix_list (pv 3) pe_int (fun _ _ => rfl)) pa_nil)))))
    (pss_cons (ps_set (i := 4) sc_law.nd rfl (Or.inl rfl) (pe_op op_catA (pe_ix ix_list (pv 3) pe_int (fun _ _ => rfl)) (pe_callTy call_tuple_of (by rfl) T.n_tuple (by decide +kernel) (pa_cons (pe_lc (own := [("row", 5)]) rfl sc_law.nd (pi_tup (pe_slice sl_tupA (pe_ix ix_list (pv 3) pe_int (fun _ _ => rfl)) po_none (po_some pe_int))) (blkOk_by (own := [("row", 5)]) (N := N_law) (sc := defScope s_law) (by decide +kernel)) (fun _ _ _ _ _ => (pg_name (i := 5) sc_law.nd rfl (Or.inl rfl))) (fun _ _ _ _ _ => pts_nil) (fun _ _ _ _ _ => (pe_tup (pa_cons (pe_ix (show IxR _ (rIxT K) from ix_tup) (pv 5) pe_int (fun _ _ => rfl)) (pa_cons (show PE _ _ (Zw.tRevT K (tOp (rIxT K) (tVar 5) (tC (.int 1)))) from Zw.pe_revT (pe_ix (show IxR _ (rIxT K) from (show IxR _ (rIxT K) from ix_tup)) (pv 5) pe_int (fun _ _ => rfl))) pa_nil))))) pa_nil))))
    (pss_cons (ps_if (pt_not (pt_val (pe_callG (ok_values_right T) hgd (hr.mono (by omega)) (by rfl) T.g_values_right T.F_values_right.kp T.b_values_right .nil (pa_cons (pe_ix ix_list (pv 3) pe_int (fun _ _ => rfl)) (pa_cons (pv 4) (pa_cons (pe_ix ix_list (pv 3) pe_int (fun _ _ => rfl)) pa_nil)))))) (pss_one (ps_ret pe_bl)) pss_nil)
    (pss_one (ps_for PassesOwn.never rfl (pi_range1 (by rfl) T.n_range (pa_cons pe_int pa_nil)) (pg_name (i := 6) sc_law.nd rfl (Or.inl rfl)) (pss_cons (ps_set (i := 7) sc_law.nd rfl (Or.inl rfl) (pe_call (ok_bent T) (hr.mono (by omega)) (by rfl) T.g_bent T.F_bent.kp T.b_bent .nil pass0 (pa_cons (pv 1) (pa_cons (pv 3) pa_nil))))
    (pss_cons (ps_if (pt_cmpR op_eq (pe_call (ok_drawn T) (hr.mono (by omega)) (by rfl) T.g_drawn T.F_drawn.kp T.b_drawn .nil pass0 (pa_cons (pv 1) (pa_cons pe_int pa_nil))) pe_int (nomark _)) (pss_one (ps_set (i := 7) sc_law.nd rfl (Or.inl rfl) (pe_call (ok_bent T) (hr.mono (by omega)) (by rfl) T.g_bent T.F_bent.kp T.b_bent .nil pass0 (pa_cons (pv 1) (pa_cons (pv 7) pa_nil))))) pss_nil)
    (pss_one (ps_if (pt_not (pt_val (pe_callG (ok_values_right T) hgd (hr.mono (by omega)) (by rfl) T.g_values_right T.F_values_right.kp T.b_values_right .nil (pa_cons (pe_ix ix_list (pv 7) pe_int (fun _ _ => rfl)) (pa_cons (pe_ix ix_list (pv 7) pe_int (fun _ _ => rfl)) (pa_cons (pe_ix ix_list (pv 7) pe_int (fun _ _ => rfl)) pa_nil)))))) (pss_one (ps_ret pe_bl)) pss_nil)))))))))))))
    (pss_one (ps_ret pe_bl)))), ?_⟩
  obtain ⟨a, ns, rfl, hS, hl, q⟩ := h
  refine ⟨_, rfl, a, ns, rfl, hS, hl, fun H1 w l s1 hw0 hl0 hW => ?_⟩
  have hWl : Wl H1 w l 0 [w, l] := ⟨hW, fun b m => by
    obtain ⟨_, b', c', ns', e1, e2, _⟩ := hW
    simp only [List.mem_cons, List.not_mem_nil, or_false] at m
    rcases m with rfl | rfl
    · rw [e1]; exact nofun
    · rw [e2]; exact nofun, List.mem_cons_self, List.mem_cons_of_mem _ List.mem_cons_self⟩
  refine ⟨5, rfl, by decide, by decide, for_range (lo := 0) (n := 5) (fun i σ H' => ∃ (y2 y3 y4 y5 y6 y7 : Option V), σ = [some (.ref a), some (.ref w), y2, y3, y4, y5, y6, y7] ∧ Wl H' w l (3000 * i) [w, l]) ⟨_, _, _, _, _, _, rfl, hWl⟩ ?_ ?_⟩
  · rintro i σ H1 hi ⟨y2, y3, y4, y5, y6, y7, rfl, hW⟩
    refine ⟨_, rfl, w, l, 3000 * i, [w, l], rfl, hW, (by show _ < 1000000000; omega), fun H2 p xa b n acts rd k12 hW2 np hp dxa db AA l6 h1n hst ord => ?_⟩
    obtain ⟨xa', xs, ds', ex, eds, hxa, nxa, hx⟩ := dxa.tuple rfl
    injection ex with ex
    subst ex
    injection eds with eds
    subst eds
    have n3 := AA.sz
    refine ⟨_, rfl, p, _, 0, .int (n : Nat), rfl, rfl, SqL.of hp, rfl, _, rfl, p, _, 1, .ref xa, rfl, rfl, SqL.of hp, rfl, _, rfl, p, _, 2, .ref b, rfl, rfl, SqL.of hp, rfl, [w, l], .int (n : Nat), .ref xa, .ref b, .int (n : Nat), .tuple (acts.map actD), rd, rfl, gv_int n3 (by decide), gv_acts1 AA l6 dxa (by decide) (by decide), gv_states n3 hst ord db (by decide) (by decide), rows_few AA, fun H3 k23 => ⟨_, rfl, iteF ?_⟩⟩
    have hW3 := hW2.same k23
    have hp3 := k23 _ _ hp
    refine ⟨_, rfl, _, rfl, p, _, 0, .int (n : Nat), rfl, rfl, SqL.of hp3, rfl, _, rfl, p, _, 1, .ref xa, rfl, rfl, SqL.of hp3, rfl, _, rfl, p, _, 2, .ref b, rfl, rfl, SqL.of hp3, rfl, w, l, 3000 * i + 120, [w, l], n, xa, xs, .ref b, acts, rd, rfl, hW3, (by show _ < 1000000000; omega), k23 _ _ hxa, nxa, hx.kp (Kp.of k23), db.kp (Kp.of k23), AA, l6, h1n, hst, ord, fun H4 k34 hW4 => ⟨_, rfl, iteF ?_⟩⟩
    have k24 : Kp [w, l] H2 H4 := (Kp.of k23).trans k34
    have hp4 := k24 _ _ np hp
    have hx4 := hx.kp k24
    have db4 := db.kp k24
    have hxa4 := k24 _ _ nxa hxa
    refine ⟨_, rfl, p, _, 0, .int (n : Nat), rfl, rfl, SqL.of hp4, rfl, _, rfl, p, _, 1, .ref xa, rfl, rfl, SqL.of hp4, rfl, ?_⟩
    dsimp only [tNoPart]
    refine ⟨5, rfl, ?_⟩
    refine sl_to (S := [w, l]) (K := K) (k := 5) hW4.trk nxa hxa4 rfl fun H5 x5 k45 hx5 nx5 => ?_
    have A5 := AA.take 5
    have hx5d : DvAll [w, l] H5 (xs.take 5) ((acts.take 5).map actD) := by
      rw [List.map_take]
      exact (hx4.kp (Kp.of k45)).take 5
    have l5 : (acts.take 5).length ≤ 5 := by
      rw [List.length_take]
      exact Nat.min_le_left _ _
    generalize xs.take 5 = xs5 at hx5 hx5d
    generalize acts.take 5 = acts5 at A5 hx5d l5
    have hp5 := k45 _ _ hp4
    refine ⟨_, rfl, p, _, 2, .ref b, rfl, rfl, SqL.of hp5, rfl, by show 3 ≤ sizeLine; decide, fun p6 hp6 => ?_⟩
    have k56 : Same H5 (upd H5 p6 (.lst [.int (n : Nat), .ref x5, .ref b])) := same_new hp6
    have hp6' : (upd H5 p6 (.lst [.int (n : Nat), .ref x5, .ref b])) p6 = some (.lst [.int (n : Nat), .ref x5, .ref b]) := upd_same
    generalize upd H5 p6 (.lst [.int (n : Nat), .ref x5, .ref b]) = H6 at k56 hp6' ⊢
    have k46 := k45.trans k56
    have hW6 := hW4.same k46
    have np6 : p6 ∉ [w, l] := (hW4.same k45).out hp6
    have hx6 := k56 _ _ hx5
    have hx6d := hx5d.kp (Kp.of k56)
    have db6 := db4.kp (Kp.of k46)
    -- the twins
    refine ⟨_, rfl, p6, _, 1, .ref x5, rfl, rfl, SqL.of hp6', rfl, _, rfl, p6, _, 1, .ref x5, rfl, rfl, SqL.of hp6', rfl, ?_⟩
    dsimp only [tNoPart]
    refine ⟨1, rfl, ?_⟩
    refine sl_to (S := [w, l]) (K := K) (k := 1) hW6.trk nx5 hx6 rfl fun H7 x7 k67 hx7 nx7 => ?_
    have hW7 := hW6.same k67
    have hx7d := hx6d.kp (Kp.of k67)
    refine ⟨x7, rfl, ⟨_, SqT.of hx7⟩, fun D hD => ?_⟩
    have nD : D ∉ [w, l] := hW7.out hD
    refine lc_tup (K := K) (a := x7) (xs := xs5.take 1) (fun j H' => Same H7 H' ∧ ∃ ps : List Addr, H' D = some (.lst (ps.map V.ref)) ∧ ps.length = j ∧ DvAll (D :: [w, l]) H' (ps.map V.ref) (((acts5.take j).map twin).map actD)) ⟨same_new hD, [], upd_same, rfl, .nil⟩ (fun j H' _ p => SqT.of (p.1 _ _ hx7)) ?_ ?_
    · rintro j x H8 hj ⟨k78, ps, hDl, hpl, hps⟩
      obtain ⟨hj1, _⟩ := List.getElem?_eq_some_iff.mp hj
      rw [List.length_take] at hj1
      have hj' : xs5[j]? = some x := by
        rw [List.getElem?_take] at hj
        split at hj
        · exact hj
        · cases hj
      obtain ⟨d, hdi, hdx⟩ := hx7d.get hj'
      rw [List.getElem?_map] at hdi
      obtain ⟨ac, hac, rfl⟩ : ∃ ac, acts5[j]? = some ac ∧ d = actD ac := by
        cases e : acts5[j]? with
        | none => rw [e] at hdi; cases hdi
        | some ac => rw [e] at hdi; exact ⟨ac, rfl, (Option.some.inj hdi).symm⟩
      obtain ⟨pp, mm, rfl, hpp, _, hmm⟩ := act_at hdx
      obtain ⟨mm', ms, mds, em, emd, hms, _, hmx⟩ := hmm.tuple rfl
      injection em with em
      subst em
      injection emd with emd
      subst emd
      have nDw : ∀ {b : Addr}, H8 b = none → b ∉ D :: [w, l] := fun {b} e m => by
        rcases List.mem_cons.mp m with rfl | m
        · rw [hDl] at e
          cases e
        · exact (hW7.same k78).trk b m e
      refine ⟨rfl, _, rfl, pp, _, 0, .str ac.1, rfl, rfl, SqT.of (k78 _ _ hpp), rfl, _, rfl, pp, _, 1, .ref mm, rfl, rfl, SqT.of (k78 _ _ hpp), rfl, mm, ms, rfl, SqT.of (k78 _ _ hms), fun pr hpr => ⟨by show 2 ≤ sizeLine; decide, fun pt hpt => ?_⟩⟩
      have k89 : Same H8 (upd H8 pr (.tup ms.reverse)) := same_new hpr
      have hpr9 : (upd H8 pr (.tup ms.reverse)) pr = some (.tup ms.reverse) := upd_same
      generalize upd H8 pr (.tup ms.reverse) = H9 at k89 hpr9 hpt ⊢
      have k9A : Same H9 (upd H9 pt (.tup [.str ac.1, .ref pr])) := same_new hpt
      have hptA : (upd H9 pt (.tup [.str ac.1, .ref pr])) pt = some (.tup [.str ac.1, .ref pr]) := upd_same
      have npt : pt ∉ D :: [w, l] := nDw (k89.free hpt)
      generalize upd H9 pt (.tup [.str ac.1, .ref pr]) = HA at k9A hptA ⊢
      have k8A := k89.trans k9A
      refine ⟨ps.map V.ref, k8A _ _ hDl, by rw [List.length_map, sizeLine_eq]; omega, ?_, ps ++ [pt], ?_, ?_, ?_⟩
      · exact fun b o eb => by
          rw [upd_ne (ne_of_none eb hD)]
          exact k8A _ _ (k78 _ _ eb)
      · rw [upd_same, List.map_append]
        rfl
      · rw [List.length_append, hpl]
        rfl
      · have kk : Kp (D :: [w, l]) H8 (upd HA D (.lst (ps.map V.ref ++ [.ref pt]))) := (Kp.of k8A).wr (.inl List.mem_cons_self)
        have kk7 : Kp (D :: [w, l]) H7 (upd HA D (.lst (ps.map V.ref ++ [.ref pt]))) := (Kp.of (k78.trans k8A)).wr (.inl List.mem_cons_self)
        have neD : ∀ {b : Addr}, b ∉ D :: [w, l] → b ≠ D := fun n z => n (z ▸ List.mem_cons_self)
        rw [List.take_succ, hac, List.map_append, List.map_append, List.map_append]
        refine (hps.kp kk).append (.cons (.tup ((upd_ne (neD npt)).trans hptA) npt (.cons (.str _) (.cons (.tup ((upd_ne (neD (nDw hpr))).trans (k9A _ _ hpr9)) (nDw hpr) ?_) .nil))) .nil)
        have hr1 := (hmx.fresh hD).kp kk7
        have hr2 := DvAll.reverse hr1
        rw [← List.map_reverse] at hr2
        exact hr2
    · rintro H8 ⟨k78, ps, hDl, hpl, hps⟩
      have AT := (A5.take (xs5.take 1).length).twins
      have lT : ((acts5.take (xs5.take 1).length).map twin).length ≤ 1 := by
        rw [List.length_map, List.length_take, List.length_take]
        omega
      generalize (acts5.take (xs5.take 1).length).map twin = tws at AT lT hps
      refine ⟨D, _, rfl, .inl ⟨SqL.of hDl, fun t ht => ?_⟩⟩
      have hW8 := hW7.same k78
      have k89 : Same H8 (upd H8 t (.tup (ps.map V.ref))) := same_new ht
      have ht9 : (upd H8 t (.tup (ps.map V.ref))) t = some (.tup (ps.map V.ref)) := upd_same
      generalize upd H8 t (.tup (ps.map V.ref)) = H9 at k89 ht9 ⊢
      have k69 := k67.trans (k78.trans k89)
      have hW9 := hW8.same k89
      have hps8 : DvAll [w, l] H8 (ps.map V.ref) (tws.map actD) := hps.sub fun b m => List.mem_cons_of_mem _ m
      have hpsl : (ps.map V.ref).length ≤ 1 := by
        rw [hps8.length, List.length_map]
        exact lT
      have hx5l : xs5.length ≤ 5 := by
        rw [hx5d.length, List.length_map]
        exact l5
      refine cat_any (S := [w, l]) hW9.trk (k69 _ _ hx6) nx5 ht9 (hW8.out ht) (by omega) fun HA tw k9A htw ntw => ?_
      have hWA := hW9.same k9A
      have k6A := k69.trans k9A
      have dtw : Dv [w, l] HA (.ref tw) (.tuple ((acts5 ++ tws).map actD)) := .tup htw ntw (by
        rw [List.map_append]
        exact (hx6d.kp (Kp.of k6A)).append (hps8.kp (Kp.of (k89.trans k9A))))
      have hpA := k6A _ _ hp6'
      have dbA := db6.kp (Kp.of k6A)
      have fewA : (rows (.tuple ((acts5 ++ tws).map actD))).length ≤ 20 := by
        show ((acts5 ++ tws).map actD).length ≤ 20
        rw [List.length_map, List.length_append]
        omega
      refine ⟨_, rfl, p6, _, 0, .int (n : Nat), rfl, rfl, SqL.of hpA, rfl, _, rfl, _, rfl, p6, _, 2, .ref b, rfl, rfl, SqL.of hpA, rfl, [w, l], .int (n : Nat), .ref tw, .ref b, .int (n : Nat), .tuple ((acts5 ++ tws).map actD), rd, rfl, gv_int n3 (by decide), gv_acts A5 AT (by omega) dtw (by decide) (by decide), gv_states n3 hst ord dbA (by decide) (by decide), fewA, fun HB kAB => ⟨_, rfl, iteF ?_⟩⟩
      have hWB := hWA.same kAB
      have k6B := k6A.trans kAB
      have dx6 : Dv [w, l] H6 (.ref x5) (.tuple (acts5.map actD)) := .tup hx6 nx5 hx6d
      have ptB : Pt [w, l] HB p6 (.int (n : Nat)) (.tuple (acts5.map actD)) rd 150 3 5 := ⟨⟨.int (n : Nat), .ref x5, .ref b, k6B _ _ hp6', gv_int n3 (by decide), gv_acts1 A5 (by omega) (dx6.kp (Kp.of k6B)) (by decide) (by decide), gv_states n3 hst ord (db6.kp (Kp.of k6B)) (by decide) (by decide)⟩, np6, by
        show (acts5.map actD).length ≤ 5
        rw [List.length_map]
        exact l5⟩
      refine ⟨10, rfl, by decide, by decide, for_range (lo := 0) (n := 10) (fun j σ H' => ∃ (y5 y6 y7 : Option V), σ = [some (.ref a), some (.ref w), some (.int (0 + (i : Int))), some (.ref p6), some (.ref tw), y5, y6, y7] ∧ Wl H' w l (3000 * i + 120 + 200 + 110 * j) [w, l] ∧ Pt [w, l] H' p6 (.int (n : Nat)) (.tuple (acts5.map actD)) rd 150 3 5) ⟨_, _, _, rfl, hWB, ptB⟩ ?_ ?_⟩
      · rintro j σ HC hj ⟨z5, z6, z7, rfl, hWC, ptC⟩
        refine ⟨_, rfl, _, rfl, w, l, 3000 * i + 120 + 200 + 110 * j, [w, l], p6, _, _, _, 150, 3, 5, rfl, hWC, (by show _ < 1000000000; omega), ptC, by decide, by decide, by decide, by decide, fun HD q1 sd1 ad1 rd1 kCD hWD pt1 => ?_⟩
        have ptD := ptC.kp kCD
        try dsimp only [tNext]
        refine if_viaS (fun σ' H' => ∃ (q : Addr) (sd ad rd' : PyData), σ' = [some (.ref a), some (.ref w), some (.int (0 + (i : Int))), some (.ref p6), some (.ref tw), z5, some (.int (0 + (j : Int))), some (.ref q)] ∧ Wl H' w l (3000 * i + 120 + 200 + 110 * (j + 1)) [w, l] ∧ Pt [w, l] H' p6 (.int (n : Nat)) (.tuple (acts5.map actD)) rd 150 3 5 ∧ Pt [w, l] H' q sd ad rd' 700 7 7) ?_ ?_
        · rintro σ' HE ⟨q, sd, ad, rd', rfl, hWE, ptE, ⟨⟨sv, av, rv, hq, gs, ga, gr⟩, nq, hr7⟩⟩
          refine ⟨_, rfl, q, _, 0, sv, rfl, rfl, SqL.of hq, rfl, _, rfl, q, _, 1, av, rfl, rfl, SqL.of hq, rfl, _, rfl, q, _, 2, rv, rfl, rfl, SqL.of hq, rfl, [w, l], sv, av, rv, sd, ad, rd', rfl, gs.mono (by decide) (by decide), ga.mono (by decide) (by decide), gr.mono (by decide) (by decide), by omega, fun HF kEF => ⟨_, rfl, iteF ?_⟩⟩
          exact ⟨_, _, _, rfl, hWE.same kEF, ptE.kp (Kp.of kEF)⟩
        · intro nx hnx
          refine ⟨_, rfl, w, l, 3, 3000 * i + 120 + 200 + 110 * j + 50, rfl, hWD.well, (by show _ < 1000000000; omega), by decide, by decide, fun HE r kDE wE r0 r1 => ⟨rfl, _, congrArg V.bl dec_int, ite2 (fun _ => ?_) fun _ => ?_⟩⟩
          · have hWE := hWD.draw kDE wE
            refine ⟨_, rfl, _, rfl, w, l, 3000 * i + 120 + 200 + 110 * j + 50 + 1, [w, l], q1, sd1, ad1, rd1, 320, 5, 6, rfl, hWE, (by show _ < 1000000000; omega), pt1.kp kDE, by decide, by decide, by decide, by decide, fun HF q2 sd2 ad2 rd2 kEF hWF pt2 => ?_⟩
            exact hnx _ _ ⟨q2, sd2, ad2, rd2, rfl, hWF.mono (by omega), (ptD.kp kDE).kp kEF, pt2.mono (by decide) (by decide) (by decide)⟩
          · have hWE := hWD.draw kDE wE
            exact hnx _ _ ⟨q1, sd1, ad1, rd1, rfl, hWE.mono (by omega), ptD.kp kDE, (pt1.kp kDE).mono (by decide) (by decide) (by decide)⟩
      · rintro σ HC ⟨z5, z6, z7, rfl, hWC, _⟩
        exact ⟨_, _, _, _, _, _, rfl, hWC.mono (by omega)⟩
  · rintro σ H' ⟨y2, y3, y4, y5, y6, y7, rfl, hW⟩
    exact q H'
end
end K02
set_option Elab.async false
set_option linter.all false
set_option maxRecDepth 100000
set_option maxHeartbeats 4000000
/-! k02: the end. -/
namespace K02
open PySem PySem.Spec PyProof.Rows L2 Zg Zr Zd Zv
theorem all_mk {l : PySem.W.OpenLaw} {w : World} {K : PySem.W.Frag} {h : Heap} {mg : PySem.Str → Option Value} {fa f0 f1 f2 f3 f4 f5 f6 f7 f8 f9 f10 f11 f12 f13 f14 f15 f16 f17 f18 f19 f20 f21 f22 f23 f24 f25 f26 f27 f28 f29 f30 f31 f32 f33 : Addr} (X : K.In h) (G : h.Ns mainGlobals mg) (hfa : mg "law" = some (.ref fa))
    {od0 an0 od1 an1 od2 an2 od3 an3 od4 an4 od5 an5 od6 an6 od7 an7 od8 an8 od9 an9 od10 an10 od11 an11 od12 an12 od13 an13 od14 an14 od15 an15 od16 an16 od17 an17 od18 an18 od19 an19 od20 an20 od21 an21 od22 an22 od23 an23 od24 an24 od25 an25 od26 an26 od27 an27 od28 an28 od29 an29 od30 an30 od31 an31 od32 an32 od33 an33 : Option Addr} {sl0 sl1 sl2 sl3 sl4 sl5 sl6 sl7 sl8 sl9 sl10 sl11 sl12 sl13 sl14 sl15 sl16 sl17 sl18 sl19 sl20 sl21 sl22 sl23 sl24 sl25 sl26 sl27 sl28 sl29 sl30 sl31 sl32 sl33 : Array (Option Value)} {oc0 dc0 pm0 cd0 ct0 kV0 oc1 dc1 pm1 cd1 ct1 kV1 oc2 dc2 pm2 cd2 ct2 kV2 oc3 dc3 pm3 cd3 ct3 kV3 oc4 dc4 pm4 cd4 ct4 kV4 oc5 dc5 pm5 cd5 ct5 kV5 oc6 dc6 pm6 cd6 ct6 kV6 oc7 dc7 pm7 cd7 ct7 kV7 oc8 dc8 pm8 cd8 ct8 kV8 oc9 dc9 pm9 cd9 ct9 kV9 oc10 dc10 pm10 cd10 ct10 oc11 dc11 pm11 cd11 ct11 kV11 oc12 dc12 pm12 cd12 ct12 kV12 oc13 dc13 pm13 cd13 ct13 kV13 oc14 dc14 pm14 cd14 ct14 kV14 oc15 dc15 pm15 cd15 ct15 kV15 oc16 dc16 pm16 cd16 ct16 kV16 oc17 dc17 pm17 cd17 ct17 kV17 oc18 dc18 pm18 cd18 ct18 kV18 oc19 dc19 pm19 cd19 ct19 kV19 oc20 dc20 pm20 cd20 ct20 kV20 oc21 dc21 pm21 cd21 ct21 kV21 oc22 dc22 pm22 cd22 ct22 kV22 oc23 dc23 pm23 cd23 ct23 kV23 oc24 dc24 pm24 cd24 ct24 kV24 oc25 dc25 pm25 cd25 ct25 kV25 oc26 dc26 pm26 cd26 ct26 kV26 oc27 dc27 pm27 cd27 ct27 kV27 oc28 dc28 pm28 cd28 ct28 kV28 oc29 dc29 pm29 cd29 ct29 kV29 oc30 dc30 pm30 cd30 ct30 kV30 oc31 dc31 pm31 cd31 ct31 kV31 oc32 dc32 pm32 cd32 ct32 kV32 oc33 dc33 pm33 cd33 ct33 kV33 : Value}
    {aCBadStore : Addr} (a0 : PySem.W.nsIn K mainGlobals "BadStore" = some (some (.ref aCBadStore))) (i0 : PySem.W.findIn K (.ref aCBadStore) "__init__" = some (some (.ref f0))) (t0 : PySem.W.typeIn K (.ref f0) = some (.type "function"))
    (l0 : K.lookup f0 = some ⟨oc0, od0, .func (PySem.W.fnOf "__init__" "BadStore.__init__" (defArgs s_BadStore_init) (defBody s_BadStore_init) (defScope s_BadStore_init) .none kV0 dc0 pm0 an0 cd0 ct0), sl0⟩) (c0 : PySem.W.codeIn K cd0 "BadStore.__init__" = true) (k0 : PySem.W.keepIn K (.ref f0) = true)
    (a1 : PySem.W.nsIn K mainGlobals "is_integer" = some (some (.ref f1))) (l1 : K.lookup f1 = some ⟨oc1, od1, .func (PySem.W.fnOf "is_integer" "is_integer" (defArgs s_is_integer) (defBody s_is_integer) (defScope s_is_integer) .none kV1 dc1 pm1 an1 cd1 ct1), sl1⟩) (c1 : PySem.W.codeIn K cd1 "is_integer" = true) (k1 : PySem.W.keepIn K (.ref f1) = true)
    (a2 : PySem.W.nsIn K mainGlobals "is_name" = some (some (.ref f2))) (l2 : K.lookup f2 = some ⟨oc2, od2, .func (PySem.W.fnOf "is_name" "is_name" (defArgs s_is_name) (defBody s_is_name) (defScope s_is_name) .none kV2 dc2 pm2 an2 cd2 ct2), sl2⟩) (c2 : PySem.W.codeIn K cd2 "is_name" = true) (k2 : PySem.W.keepIn K (.ref f2) = true)
    (a3 : PySem.W.nsIn K mainGlobals "are_ascending" = some (some (.ref f3))) (l3 : K.lookup f3 = some ⟨oc3, od3, .func (PySem.W.fnOf "are_ascending" "are_ascending" (defArgs s_are_ascending) (defBody s_are_ascending) (defScope s_are_ascending) .none kV3 dc3 pm3 an3 cd3 ct3), sl3⟩) (c3 : PySem.W.codeIn K cd3 "are_ascending" = true) (k3 : PySem.W.keepIn K (.ref f3) = true)
    (a4 : PySem.W.nsIn K mainGlobals "is_state" = some (some (.ref f4))) (l4 : K.lookup f4 = some ⟨oc4, od4, .func (PySem.W.fnOf "is_state" "is_state" (defArgs s_is_state) (defBody s_is_state) (defScope s_is_state) .none kV4 dc4 pm4 an4 cd4 ct4), sl4⟩) (c4 : PySem.W.codeIn K cd4 "is_state" = true) (k4 : PySem.W.keepIn K (.ref f4) = true)
    (a5 : PySem.W.nsIn K mainGlobals "are_states" = some (some (.ref f5))) (l5 : K.lookup f5 = some ⟨oc5, od5, .func (PySem.W.fnOf "are_states" "are_states" (defArgs s_are_states) (defBody s_are_states) (defScope s_are_states) .none kV5 dc5 pm5 an5 cd5 ct5), sl5⟩) (c5 : PySem.W.codeIn K cd5 "are_states" = true) (k5 : PySem.W.keepIn K (.ref f5) = true)
    (a6 : PySem.W.nsIn K mainGlobals "is_size" = some (some (.ref f6))) (l6 : K.lookup f6 = some ⟨oc6, od6, .func (PySem.W.fnOf "is_size" "is_size" (defArgs s_is_size) (defBody s_is_size) (defScope s_is_size) .none kV6 dc6 pm6 an6 cd6 ct6), sl6⟩) (c6 : PySem.W.codeIn K cd6 "is_size" = true) (k6 : PySem.W.keepIn K (.ref f6) = true)
    (a7 : PySem.W.nsIn K mainGlobals "is_action" = some (some (.ref f7))) (l7 : K.lookup f7 = some ⟨oc7, od7, .func (PySem.W.fnOf "is_action" "is_action" (defArgs s_is_action) (defBody s_is_action) (defScope s_is_action) .none kV7 dc7 pm7 an7 cd7 ct7), sl7⟩) (c7 : PySem.W.codeIn K cd7 "is_action" = true) (k7 : PySem.W.keepIn K (.ref f7) = true)
    (a8 : PySem.W.nsIn K mainGlobals "check_store" = some (some (.ref f8))) (l8 : K.lookup f8 = some ⟨oc8, od8, .func (PySem.W.fnOf "check_store" "check_store" (defArgs s_check_store) (defBody s_check_store) (defScope s_check_store) .none kV8 dc8 pm8 an8 cd8 ct8), sl8⟩) (c8 : PySem.W.codeIn K cd8 "check_store" = true) (k8 : PySem.W.keepIn K (.ref f8) = true)
    (a9 : PySem.W.nsIn K mainGlobals "ways_from" = some (some (.ref f9))) (l9 : K.lookup f9 = some ⟨oc9, od9, .func (PySem.W.fnOf "ways_from" "ways_from" (defArgs s_ways_from) (defBody s_ways_from) (defScope s_ways_from) .none kV9 dc9 pm9 an9 cd9 ct9), sl9⟩) (c9 : PySem.W.codeIn K cd9 "ways_from" = true) (k9 : PySem.W.keepIn K (.ref f9) = true)
    {aCStore : Addr} (xStore : PySem.W.nsIn K mainGlobals "Store" = some (some (.ref aCStore))) (yStore0 : PySem.W.plainGet K aCStore Str.empty = true) (yStore1 : PySem.W.hasDictIn K aCStore = true) (yStore2 : PySem.W.plainOver K aCStore = true) (yStore3 : PySem.W.findIn K (.ref aCStore) "__setattr__" = some (some (.builtin "object.__setattr__"))) (yStore4 : PySem.W.makesIn K aCStore = true) (yStore5 : PySem.W.keepIn K (.ref aCStore) = true)
    (vStoresize : PySem.W.findIn K (.ref aCStore) "size" = some none)
    (vStoreactions : PySem.W.findIn K (.ref aCStore) "actions" = some none)
    (vStoreresting : PySem.W.findIn K (.ref aCStore) "resting" = some none)
    (vStoremoves_by_name : PySem.W.findIn K (.ref aCStore) "moves_by_name" = some none)
    (vStoreways_by_state : PySem.W.findIn K (.ref aCStore) "ways_by_state" = some none)
    (rStore0 : PySem.W.readsIn K aCStore (.type "type") = true) (rStore1 : PySem.W.specialIn K (.ref aCStore) "__getattribute__" = some (some (.builtin "type.__getattribute__")))
    (a10 : PySem.W.findIn K (.ref aCStore) "__init__" = some (some (.ref f10))) (i10 : PySem.W.isFn K (.ref f10) = true)
    {dfD : Addr}
    (l10 : K.lookup f10 = some ⟨oc10, od10, .func (PySem.W.fnOf "__init__" "Store.__init__" (defArgs s_Store_init) (defBody s_Store_init) (defScope s_Store_init) .none (.ref dfD) dc10 pm10 an10 cd10 ct10), sl10⟩) (c10 : PySem.W.codeIn K cd10 "Store.__init__" = true) (k10 : PySem.W.keepIn K (.ref f10) = true)
    {p11 : Addr} {rest11 : List Value} (a11 : PySem.W.findCls K (.ref aCStore) (.type "type") "of" = some (.get (.builtin "classmethod.__get__") (.ref p11) .none (.ref aCStore))) (u11 : PySem.W.recIn K p11 "classmethod" = some (.ref f11 :: rest11)) (i11 : PySem.W.fnIn K f11 = true)
    (l11 : K.lookup f11 = some ⟨oc11, od11, .func (PySem.W.fnOf "of" "Store.of" (defArgs s_Store_of) (defBody s_Store_of) (defScope s_Store_of) .none kV11 dc11 pm11 an11 cd11 ct11), sl11⟩) (c11 : PySem.W.codeIn K cd11 "Store.of" = true) (k11 : PySem.W.keepIn K (.ref f11) = true)
    (a12 : PySem.W.findIn K (.ref aCStore) "__eq__" = some (some (.ref f12))) (i12 : PySem.W.isFn K (.ref f12) = true)
    (l12 : K.lookup f12 = some ⟨oc12, od12, .func (PySem.W.fnOf "__eq__" "Store.__eq__" (defArgs s_Store_eq) (defBody s_Store_eq) (defScope s_Store_eq) .none kV12 dc12 pm12 an12 cd12 ct12), sl12⟩) (c12 : PySem.W.codeIn K cd12 "Store.__eq__" = true) (k12 : PySem.W.keepIn K (.ref f12) = true)
    (a13 : PySem.W.findIn K (.ref aCStore) "__contains__" = some (some (.ref f13))) (i13 : PySem.W.isFn K (.ref f13) = true)
    (l13 : K.lookup f13 = some ⟨oc13, od13, .func (PySem.W.fnOf "__contains__" "Store.__contains__" (defArgs s_Store_contains) (defBody s_Store_contains) (defScope s_Store_contains) .none kV13 dc13 pm13 an13 cd13 ct13), sl13⟩) (c13 : PySem.W.codeIn K cd13 "Store.__contains__" = true) (k13 : PySem.W.keepIn K (.ref f13) = true)
    (a14 : PySem.W.nsIn K mainGlobals "_law_well" = some (some (.ref f14))) (l14 : K.lookup f14 = some ⟨oc14, od14, .func (PySem.W.fnOf "_law_well" "_law_well" (defArgs s_well) (defBody s_well) (defScope s_well) .none kV14 dc14 pm14 an14 cd14 ct14), sl14⟩) (c14 : PySem.W.codeIn K cd14 "_law_well" = true) (k14 : PySem.W.keepIn K (.ref f14) = true)
    (a15 : PySem.W.nsIn K mainGlobals "_law_drawn" = some (some (.ref f15))) (l15 : K.lookup f15 = some ⟨oc15, od15, .func (PySem.W.fnOf "_law_drawn" "_law_drawn" (defArgs s_drawn) (defBody s_drawn) (defScope s_drawn) .none kV15 dc15 pm15 an15 cd15 ct15), sl15⟩) (c15 : PySem.W.codeIn K cd15 "_law_drawn" = true) (k15 : PySem.W.keepIn K (.ref f15) = true)
    (a16 : PySem.W.nsIn K mainGlobals "_law_one_of" = some (some (.ref f16))) (l16 : K.lookup f16 = some ⟨oc16, od16, .func (PySem.W.fnOf "_law_one_of" "_law_one_of" (defArgs s_one_of) (defBody s_one_of) (defScope s_one_of) .none kV16 dc16 pm16 an16 cd16 ct16), sl16⟩) (c16 : PySem.W.codeIn K cd16 "_law_one_of" = true) (k16 : PySem.W.keepIn K (.ref f16) = true)
    (a17 : PySem.W.nsIn K mainGlobals "_law_name" = some (some (.ref f17))) (l17 : K.lookup f17 = some ⟨oc17, od17, .func (PySem.W.fnOf "_law_name" "_law_name" (defArgs s_name) (defBody s_name) (defScope s_name) .none kV17 dc17 pm17 an17 cd17 ct17), sl17⟩) (c17 : PySem.W.codeIn K cd17 "_law_name" = true) (k17 : PySem.W.keepIn K (.ref f17) = true)
    (a18 : PySem.W.nsIn K mainGlobals "_law_moves" = some (some (.ref f18))) (l18 : K.lookup f18 = some ⟨oc18, od18, .func (PySem.W.fnOf "_law_moves" "_law_moves" (defArgs s_moves) (defBody s_moves) (defScope s_moves) .none kV18 dc18 pm18 an18 cd18 ct18), sl18⟩) (c18 : PySem.W.codeIn K cd18 "_law_moves" = true) (k18 : PySem.W.keepIn K (.ref f18) = true)
    (a19 : PySem.W.nsIn K mainGlobals "_law_store" = some (some (.ref f19))) (l19 : K.lookup f19 = some ⟨oc19, od19, .func (PySem.W.fnOf "_law_store" "_law_store" (defArgs s_store) (defBody s_store) (defScope s_store) .none kV19 dc19 pm19 an19 cd19 ct19), sl19⟩) (c19 : PySem.W.codeIn K cd19 "_law_store" = true) (k19 : PySem.W.keepIn K (.ref f19) = true)
    (a20 : PySem.W.nsIn K mainGlobals "_law_odd" = some (some (.ref f20))) (l20 : K.lookup f20 = some ⟨oc20, od20, .func (PySem.W.fnOf "_law_odd" "_law_odd" (defArgs s_odd) (defBody s_odd) (defScope s_odd) .none kV20 dc20 pm20 an20 cd20 ct20), sl20⟩) (c20 : PySem.W.codeIn K cd20 "_law_odd" = true) (k20 : PySem.W.keepIn K (.ref f20) = true)
    (a21 : PySem.W.nsIn K mainGlobals "_law_tuple_bent" = some (some (.ref f21))) (l21 : K.lookup f21 = some ⟨oc21, od21, .func (PySem.W.fnOf "_law_tuple_bent" "_law_tuple_bent" (defArgs s_tuple_bent) (defBody s_tuple_bent) (defScope s_tuple_bent) .none kV21 dc21 pm21 an21 cd21 ct21), sl21⟩) (c21 : PySem.W.codeIn K cd21 "_law_tuple_bent" = true) (k21 : PySem.W.keepIn K (.ref f21) = true)
    (a22 : PySem.W.nsIn K mainGlobals "_law_bent" = some (some (.ref f22))) (l22 : K.lookup f22 = some ⟨oc22, od22, .func (PySem.W.fnOf "_law_bent" "_law_bent" (defArgs s_bent) (defBody s_bent) (defScope s_bent) .none kV22 dc22 pm22 an22 cd22 ct22), sl22⟩) (c22 : PySem.W.codeIn K cd22 "_law_bent" = true) (k22 : PySem.W.keepIn K (.ref f22) = true)
    (a23 : PySem.W.nsIn K mainGlobals "_law_is_whole" = some (some (.ref f23))) (l23 : K.lookup f23 = some ⟨oc23, od23, .func (PySem.W.fnOf "_law_is_whole" "_law_is_whole" (defArgs s_is_whole) (defBody s_is_whole) (defScope s_is_whole) .none kV23 dc23 pm23 an23 cd23 ct23), sl23⟩) (c23 : PySem.W.codeIn K cd23 "_law_is_whole" = true) (k23 : PySem.W.keepIn K (.ref f23) = true)
    (a24 : PySem.W.nsIn K mainGlobals "_law_is_name" = some (some (.ref f24))) (l24 : K.lookup f24 = some ⟨oc24, od24, .func (PySem.W.fnOf "_law_is_name" "_law_is_name" (defArgs s_w_is_name) (defBody s_w_is_name) (defScope s_w_is_name) .none kV24 dc24 pm24 an24 cd24 ct24), sl24⟩) (c24 : PySem.W.codeIn K cd24 "_law_is_name" = true) (k24 : PySem.W.keepIn K (.ref f24) = true)
    (a25 : PySem.W.nsIn K mainGlobals "_law_is_action" = some (some (.ref f25))) (l25 : K.lookup f25 = some ⟨oc25, od25, .func (PySem.W.fnOf "_law_is_action" "_law_is_action" (defArgs s_w_is_action) (defBody s_w_is_action) (defScope s_w_is_action) .none kV25 dc25 pm25 an25 cd25 ct25), sl25⟩) (c25 : PySem.W.codeIn K cd25 "_law_is_action" = true) (k25 : PySem.W.keepIn K (.ref f25) = true)
    (a26 : PySem.W.nsIn K mainGlobals "_law_fault" = some (some (.ref f26))) (l26 : K.lookup f26 = some ⟨oc26, od26, .func (PySem.W.fnOf "_law_fault" "_law_fault" (defArgs s_fault) (defBody s_fault) (defScope s_fault) .none kV26 dc26 pm26 an26 cd26 ct26), sl26⟩) (c26 : PySem.W.codeIn K cd26 "_law_fault" = true) (k26 : PySem.W.keepIn K (.ref f26) = true)
    (a27 : PySem.W.nsIn K mainGlobals "_law_of" = some (some (.ref f27))) (l27 : K.lookup f27 = some ⟨oc27, od27, .func (PySem.W.fnOf "_law_of" "_law_of" (defArgs s_of) (defBody s_of) (defScope s_of) .none kV27 dc27 pm27 an27 cd27 ct27), sl27⟩) (c27 : PySem.W.codeIn K cd27 "_law_of" = true) (k27 : PySem.W.keepIn K (.ref f27) = true)
    (a28 : PySem.W.nsIn K mainGlobals "_law_made" = some (some (.ref f28))) (l28 : K.lookup f28 = some ⟨oc28, od28, .func (PySem.W.fnOf "_law_made" "_law_made" (defArgs s_made) (defBody s_made) (defScope s_made) .none kV28 dc28 pm28 an28 cd28 ct28), sl28⟩) (c28 : PySem.W.codeIn K cd28 "_law_made" = true) (k28 : PySem.W.keepIn K (.ref f28) = true)
    (a29 : PySem.W.nsIn K mainGlobals "_law_by_class" = some (some (.ref f29))) (l29 : K.lookup f29 = some ⟨oc29, od29, .func (PySem.W.fnOf "_law_by_class" "_law_by_class" (defArgs s_by_class) (defBody s_by_class) (defScope s_by_class) .none kV29 dc29 pm29 an29 cd29 ct29), sl29⟩) (c29 : PySem.W.codeIn K cd29 "_law_by_class" = true) (k29 : PySem.W.keepIn K (.ref f29) = true)
    (a30 : PySem.W.nsIn K mainGlobals "_law_is_so" = some (some (.ref f30))) (l30 : K.lookup f30 = some ⟨oc30, od30, .func (PySem.W.fnOf "_law_is_so" "_law_is_so" (defArgs s_is_so) (defBody s_is_so) (defScope s_is_so) .none kV30 dc30 pm30 an30 cd30 ct30), sl30⟩) (c30 : PySem.W.codeIn K cd30 "_law_is_so" = true) (k30 : PySem.W.keepIn K (.ref f30) = true)
    (a31 : PySem.W.nsIn K mainGlobals "_law_values_right" = some (some (.ref f31))) (l31 : K.lookup f31 = some ⟨oc31, od31, .func (PySem.W.fnOf "_law_values_right" "_law_values_right" (defArgs s_values_right) (defBody s_values_right) (defScope s_values_right) .none kV31 dc31 pm31 an31 cd31 ct31), sl31⟩) (c31 : PySem.W.codeIn K cd31 "_law_values_right" = true) (k31 : PySem.W.keepIn K (.ref f31) = true)
    (a32 : PySem.W.nsIn K mainGlobals "_law_equals_right" = some (some (.ref f32))) (l32 : K.lookup f32 = some ⟨oc32, od32, .func (PySem.W.fnOf "_law_equals_right" "_law_equals_right" (defArgs s_equals_right) (defBody s_equals_right) (defScope s_equals_right) .none kV32 dc32 pm32 an32 cd32 ct32), sl32⟩) (c32 : PySem.W.codeIn K cd32 "_law_equals_right" = true) (k32 : PySem.W.keepIn K (.ref f32) = true)
    (a33 : PySem.W.nsIn K mainGlobals "law" = some (some (.ref f33))) (l33 : K.lookup f33 = some ⟨oc33, od33, .func (PySem.W.fnOf "law" "law" (defArgs s_law) (defBody s_law) (defScope s_law) .none kV33 dc33 pm33 an33 cd33 ct33), sl33⟩) (c33 : PySem.W.codeIn K cd33 "law" = true) (k33 : PySem.W.keepIn K (.ref f33) = true)
    {aCFlowError : Addr} (xFlowError : PySem.W.nsIn K mainGlobals "FlowError" = some (some (.ref aCFlowError))) (yFlowError : Xv.cfB K aCFlowError = true)
    (yBadStore : Xv.ecB K aCBadStore aCFlowError ["part"] = true)
    (nd : [aCBadStore, aCFlowError].Nodup)
    (z_all : PySem.W.nsIn K mainGlobals "all" = some none)
    (z_bool : PySem.W.nsIn K mainGlobals "bool" = some none)
    (z_dict : PySem.W.nsIn K mainGlobals "dict" = some none)
    (z_enumerate : PySem.W.nsIn K mainGlobals "enumerate" = some none)
    (z_int : PySem.W.nsIn K mainGlobals "int" = some none)
    (z_isinstance : PySem.W.nsIn K mainGlobals "isinstance" = some none)
    (z_len : PySem.W.nsIn K mainGlobals "len" = some none)
    (z_list : PySem.W.nsIn K mainGlobals "list" = some none)
    (z_range : PySem.W.nsIn K mainGlobals "range" = some none)
    (z_repr : PySem.W.nsIn K mainGlobals "repr" = some none)
    (z_sorted : PySem.W.nsIn K mainGlobals "sorted" = some none)
    (z_str : PySem.W.nsIn K mainGlobals "str" = some none)
    (z_tuple : PySem.W.nsIn K mainGlobals "tuple" = some none)
    (z_zip : PySem.W.nsIn K mainGlobals "zip" = some none)
    {tLETTERS : Tok} (gLETTERS : PySem.W.nsIn K mainGlobals "LETTERS" = some (some (.str "abcdefghijklmnopqrstuvwxyz" tLETTERS)))
    {tLONGEST_NAME : Tok} (gLONGEST_NAME : PySem.W.nsIn K mainGlobals "LONGEST_NAME" = some (some (.int 8 tLONGEST_NAME)))
    {tMOST_STATES : Tok} (gMOST_STATES : PySem.W.nsIn K mainGlobals "MOST_STATES" = some (some (.int 3 tMOST_STATES)))
    {tPAIR : Tok} (gPAIR : PySem.W.nsIn K mainGlobals "PAIR" = some (some (.int 2 tPAIR)))
    {dfl : Addr} (ndf : PySem.W.nsIn K dfD "resting" = some (some (.ref dfl)))
    {oDf : Option Addr} {nDf : Nat} {sDf : Array (Option Value)} (edf : K.lookup dfl = some ⟨.type "tuple", oDf, .seq #[] nDf, sDf⟩)
    (insS : Xo.insB K aCStore = true)
    : ∃ fd : FuncData, (∀ (s : Shared) (v : Value), BindsTo s fd ⟨[v], []⟩ [("script", v)]) ∧ ∀ base : Heap, K.In base → base.Ns mainGlobals mg → FnG l.prog w K mg base 20 fa fd ["script"] (sp_law K) := by
  have e := hfa.symm.trans (PySem.W.mg_of X G a33)
  cases e
  have F0 := fun_mk (st := s_BadStore_init) l0 c0 k0
  have b0 := F0.binds (ps := P_BadStore_init) fun _ _ _ _ _ _ us hl => match us, hl with | [_, _], _ => rfl
  have F1 := fun_mk (st := s_is_integer) l1 c1 k1
  have b1 := F1.binds (ps := P_is_integer) fun _ _ _ _ _ _ us hl => match us, hl with | [_], _ => rfl
  have F2 := fun_mk (st := s_is_name) l2 c2 k2
  have b2 := F2.binds (ps := P_is_name) fun _ _ _ _ _ _ us hl => match us, hl with | [_], _ => rfl
  have F3 := fun_mk (st := s_are_ascending) l3 c3 k3
  have b3 := F3.binds (ps := P_are_ascending) fun _ _ _ _ _ _ us hl => match us, hl with | [_], _ => rfl
  have F4 := fun_mk (st := s_is_state) l4 c4 k4
  have b4 := F4.binds (ps := P_is_state) fun _ _ _ _ _ _ us hl => match us, hl with | [_, _], _ => rfl
  have F5 := fun_mk (st := s_are_states) l5 c5 k5
  have b5 := F5.binds (ps := P_are_states) fun _ _ _ _ _ _ us hl => match us, hl with | [_, _], _ => rfl
  have F6 := fun_mk (st := s_is_size) l6 c6 k6
  have b6 := F6.binds (ps := P_is_size) fun _ _ _ _ _ _ us hl => match us, hl with | [_], _ => rfl
  have F7 := fun_mk (st := s_is_action) l7 c7 k7
  have b7 := F7.binds (ps := P_is_action) fun _ _ _ _ _ _ us hl => match us, hl with | [_, _], _ => rfl
  have F8 := fun_mk (st := s_check_store) l8 c8 k8
  have b8 := F8.binds (ps := P_check_store) fun _ _ _ _ _ _ us hl => match us, hl with | [_, _, _], _ => rfl
  have F9 := fun_mk (st := s_ways_from) l9 c9 k9
  have b9 := F9.binds (ps := P_ways_from) fun _ _ _ _ _ _ us hl => match us, hl with | [_, _], _ => rfl
  have F10 := fun_mk (st := s_Store_init) l10 c10 k10
  have F11 := fun_mk (st := s_Store_of) l11 c11 k11
  have b11 := F11.binds (ps := P_Store_of) fun _ _ _ _ _ _ us hl => match us, hl with | [_, _, _, _], _ => rfl
  have F12 := fun_mk (st := s_Store_eq) l12 c12 k12
  have b12 := F12.binds (ps := P_Store_eq) fun _ _ _ _ _ _ us hl => match us, hl with | [_, _], _ => rfl
  have F13 := fun_mk (st := s_Store_contains) l13 c13 k13
  have b13 := F13.binds (ps := P_Store_contains) fun _ _ _ _ _ _ us hl => match us, hl with | [_, _], _ => rfl
  have F14 := fun_mk (st := s_well) l14 c14 k14
  have b14 := F14.binds (ps := P_well) fun _ _ _ _ _ _ us hl => match us, hl with | [_], _ => rfl
  have F15 := fun_mk (st := s_drawn) l15 c15 k15
  have b15 := F15.binds (ps := P_drawn) fun _ _ _ _ _ _ us hl => match us, hl with | [_, _], _ => rfl
  have F16 := fun_mk (st := s_one_of) l16 c16 k16
  have b16 := F16.binds (ps := P_one_of) fun _ _ _ _ _ _ us hl => match us, hl with | [_, _], _ => rfl
  have F17 := fun_mk (st := s_name) l17 c17 k17
  have b17 := F17.binds (ps := P_name) fun _ _ _ _ _ _ us hl => match us, hl with | [_], _ => rfl
  have F18 := fun_mk (st := s_moves) l18 c18 k18
  have b18 := F18.binds (ps := P_moves) fun _ _ _ _ _ _ us hl => match us, hl with | [_, _], _ => rfl
  have F19 := fun_mk (st := s_store) l19 c19 k19
  have b19 := F19.binds (ps := P_store) fun _ _ _ _ _ _ us hl => match us, hl with | [_], _ => rfl
  have F20 := fun_mk (st := s_odd) l20 c20 k20
  have b20 := F20.binds (ps := P_odd) fun _ _ _ _ _ _ us hl => match us, hl with | [_], _ => rfl
  have F21 := fun_mk (st := s_tuple_bent) l21 c21 k21
  have b21 := F21.binds (ps := P_tuple_bent) fun _ _ _ _ _ _ us hl => match us, hl with | [_, _], _ => rfl
  have F22 := fun_mk (st := s_bent) l22 c22 k22
  have b22 := F22.binds (ps := P_bent) fun _ _ _ _ _ _ us hl => match us, hl with | [_, _], _ => rfl
  have F23 := fun_mk (st := s_is_whole) l23 c23 k23
  have b23 := F23.binds (ps := P_is_whole) fun _ _ _ _ _ _ us hl => match us, hl with | [_], _ => rfl
  have F24 := fun_mk (st := s_w_is_name) l24 c24 k24
  have b24 := F24.binds (ps := P_w_is_name) fun _ _ _ _ _ _ us hl => match us, hl with | [_], _ => rfl
  have F25 := fun_mk (st := s_w_is_action) l25 c25 k25
  have b25 := F25.binds (ps := P_w_is_action) fun _ _ _ _ _ _ us hl => match us, hl with | [_, _], _ => rfl
  have F26 := fun_mk (st := s_fault) l26 c26 k26
  have b26 := F26.binds (ps := P_fault) fun _ _ _ _ _ _ us hl => match us, hl with | [_, _, _], _ => rfl
  have F27 := fun_mk (st := s_of) l27 c27 k27
  have b27 := F27.binds (ps := P_of) fun _ _ _ _ _ _ us hl => match us, hl with | [_, _, _], _ => rfl
  have F28 := fun_mk (st := s_made) l28 c28 k28
  have b28 := F28.binds (ps := P_made) fun _ _ _ _ _ _ us hl => match us, hl with | [_, _, _], _ => rfl
  have F29 := fun_mk (st := s_by_class) l29 c29 k29
  have b29 := F29.binds (ps := P_by_class) fun _ _ _ _ _ _ us hl => match us, hl with | [_, _, _], _ => rfl
  have F30 := fun_mk (st := s_is_so) l30 c30 k30
  have b30 := F30.binds (ps := P_is_so) fun _ _ _ _ _ _ us hl => match us, hl with | [_, _, _, _], _ => rfl
  have F31 := fun_mk (st := s_values_right) l31 c31 k31
  have b31 := F31.binds (ps := P_values_right) fun _ _ _ _ _ _ us hl => match us, hl with | [_, _, _], _ => rfl
  have F32 := fun_mk (st := s_equals_right) l32 c32 k32
  have b32 := F32.binds (ps := P_equals_right) fun _ _ _ _ _ _ us hl => match us, hl with | [_, _, _, _], _ => rfl
  have F33 := fun_mk (st := s_law) l33 c33 k33
  have b33 := F33.binds (ps := P_law) fun _ _ _ _ _ _ us hl => match us, hl with | [_], _ => rfl
  exact ⟨_, fun s v => .of_eq rfl, fun base _ _ => ok_law { a_BadStore_init := f0, d_BadStore_init := _, F_BadStore_init := F0, b_BadStore_init := b0, C_BadStore := aCBadStore, g_BadStore := PySem.W.mg_of X G a0, iC_BadStore := i0, tI_BadStore := t0, a_is_integer := f1, d_is_integer := _, F_is_integer := F1, g_is_integer := PySem.W.mg_of X G a1, b_is_integer := b1, a_is_name := f2, d_is_name := _, F_is_name := F2, g_is_name := PySem.W.mg_of X G a2, b_is_name := b2, a_are_ascending := f3, d_are_ascending := _, F_are_ascending := F3, g_are_ascending := PySem.W.mg_of X G a3, b_are_ascending := b3, a_is_state := f4, d_is_state := _, F_is_state := F4, g_is_state := PySem.W.mg_of X G a4, b_is_state := b4, a_are_states := f5, d_are_states := _, F_are_states := F5, g_are_states := PySem.W.mg_of X G a5, b_are_states := b5, a_is_size := f6, d_is_size := _, F_is_size := F6, g_is_size := PySem.W.mg_of X G a6, b_is_size := b6, a_is_action := f7, d_is_action := _, F_is_action := F7, g_is_action := PySem.W.mg_of X G a7, b_is_action := b7, a_check_store := f8, d_check_store := _, F_check_store := F8, g_check_store := PySem.W.mg_of X G a8, b_check_store := b8, a_ways_from := f9, d_ways_from := _, F_ways_from := F9, g_ways_from := PySem.W.mg_of X G a9, b_ways_from := b9, C_Store := aCStore, g_Store := PySem.W.mg_of X G xStore, cl_Store := ⟨yStore0, yStore1, yStore2, yStore3⟩, no_Store_size := vStoresize, no_Store_actions := vStoreactions, no_Store_resting := vStoreresting, no_Store_moves_by_name := vStoremoves_by_name, no_Store_ways_by_state := vStoreways_by_state, rd_Store := ⟨rStore0, rStore1⟩, a_Store_init := f10, d_Store_init := _, F_Store_init := F10, mk_Store := ⟨yStore4, a10, i10, yStore5⟩, a_Store_of := f11, d_Store_of := _, F_Store_of := F11, b_Store_of := b11, p_Store_of := p11, me_Store_of := ⟨a11, ⟨_, u11⟩, i11⟩, a_Store_eq := f12, d_Store_eq := _, F_Store_eq := F12, b_Store_eq := b12, eq_Store := a12, eqf_Store := i12, a_Store_contains := f13, d_Store_contains := _, F_Store_contains := F13, b_Store_contains := b13, in_Store := a13, inf_Store := i13, a_well := f14, d_well := _, F_well := F14, g_well := PySem.W.mg_of X G a14, b_well := b14, a_drawn := f15, d_drawn := _, F_drawn := F15, g_drawn := PySem.W.mg_of X G a15, b_drawn := b15, a_one_of := f16, d_one_of := _, F_one_of := F16, g_one_of := PySem.W.mg_of X G a16, b_one_of := b16, a_name := f17, d_name := _, F_name := F17, g_name := PySem.W.mg_of X G a17, b_name := b17, a_moves := f18, d_moves := _, F_moves := F18, g_moves := PySem.W.mg_of X G a18, b_moves := b18, a_store := f19, d_store := _, F_store := F19, g_store := PySem.W.mg_of X G a19, b_store := b19, a_odd := f20, d_odd := _, F_odd := F20, g_odd := PySem.W.mg_of X G a20, b_odd := b20, a_tuple_bent := f21, d_tuple_bent := _, F_tuple_bent := F21, g_tuple_bent := PySem.W.mg_of X G a21, b_tuple_bent := b21, a_bent := f22, d_bent := _, F_bent := F22, g_bent := PySem.W.mg_of X G a22, b_bent := b22, a_is_whole := f23, d_is_whole := _, F_is_whole := F23, g_is_whole := PySem.W.mg_of X G a23, b_is_whole := b23, a_w_is_name := f24, d_w_is_name := _, F_w_is_name := F24, g_w_is_name := PySem.W.mg_of X G a24, b_w_is_name := b24, a_w_is_action := f25, d_w_is_action := _, F_w_is_action := F25, g_w_is_action := PySem.W.mg_of X G a25, b_w_is_action := b25, a_fault := f26, d_fault := _, F_fault := F26, g_fault := PySem.W.mg_of X G a26, b_fault := b26, a_of := f27, d_of := _, F_of := F27, g_of := PySem.W.mg_of X G a27, b_of := b27, a_made := f28, d_made := _, F_made := F28, g_made := PySem.W.mg_of X G a28, b_made := b28, a_by_class := f29, d_by_class := _, F_by_class := F29, g_by_class := PySem.W.mg_of X G a29, b_by_class := b29, a_is_so := f30, d_is_so := _, F_is_so := F30, g_is_so := PySem.W.mg_of X G a30, b_is_so := b30, a_values_right := f31, d_values_right := _, F_values_right := F31, g_values_right := PySem.W.mg_of X G a31, b_values_right := b31, a_equals_right := f32, d_equals_right := _, F_equals_right := F32, g_equals_right := PySem.W.mg_of X G a32, b_equals_right := b32, a_law := fa, d_law := _, F_law := F33, g_law := PySem.W.mg_of X G a33, b_law := b33, C_FlowError := aCFlowError, g_FlowError := PySem.W.mg_of X G xFlowError, cf_FlowError := yFlowError, nd := nd, E_BadStore := Xv.ec_of yBadStore, kb_is_name_thing := kb0 F2 (fun _ _ _ _ _ _ ws hl => match ws, hl with | [_], _ => rfl) pm0_rel, n_all := PySem.W.mg_none_of X G z_all, n_bool := PySem.W.mg_none_of X G z_bool, n_dict := PySem.W.mg_none_of X G z_dict, n_enumerate := PySem.W.mg_none_of X G z_enumerate, n_int := PySem.W.mg_none_of X G z_int, n_isinstance := PySem.W.mg_none_of X G z_isinstance, n_len := PySem.W.mg_none_of X G z_len, n_list := PySem.W.mg_none_of X G z_list, n_range := PySem.W.mg_none_of X G z_range, n_repr := PySem.W.mg_none_of X G z_repr, n_sorted := PySem.W.mg_none_of X G z_sorted, n_str := PySem.W.mg_none_of X G z_str, n_tuple := PySem.W.mg_none_of X G z_tuple, n_zip := PySem.W.mg_none_of X G z_zip, m_LETTERS := ⟨_, PySem.W.mg_of X G gLETTERS, ⟨_, rfl⟩⟩, m_LONGEST_NAME := ⟨_, PySem.W.mg_of X G gLONGEST_NAME, ⟨_, rfl⟩⟩, m_MOST_STATES := ⟨_, PySem.W.mg_of X G gMOST_STATES, ⟨_, rfl⟩⟩, m_PAIR := ⟨_, PySem.W.mg_of X G gPAIR, ⟨_, rfl⟩⟩, dfl := dfl, dfD := dfD, k_dfl := rfl, n_dfl := ndf, e_dfl := ⟨_, _, edf, rfl, rfl⟩, ins_Store := insS }⟩
end K02
open PySem PySem.W PyProof.Rows
set_option maxHeartbeats 0 in
theorem PySem.Challenge.cw_plugcaller_k02_stores_of_any_value_holds : PySem.Challenge.rw_plugcaller_k02_stores_of_any_value.Holds := by
  w_on; o_law; k_head; (case hw => w_witness2)
  k_fill
  refine Zg.walkG (l := PySem.Challenge.rw_plugcaller_k02_stores_of_any_value) (n := 63) (k := 20) (x := "script") (sp := K02.sp_law) rfl (by decide) rfl ⟨rfl, by decide, by decide⟩ (fun w h Y => PySem.W.kIn_of Y) ?F (fun K H a ns hl _ hS => ⟨a, ns, rfl, hS, hl, fun _ => rfl⟩)
  case F =>
    intro w mg fa h KX G hmg
    refine' K02.all_mk KX G hmg ?a0 ?i0 ?t0 ?l0 ?c0 ?k0 ?a1 ?l1 ?c1 ?k1 ?a2 ?l2 ?c2 ?k2 ?a3 ?l3 ?c3 ?k3 ?a4 ?l4 ?c4 ?k4 ?a5 ?l5 ?c5 ?k5 ?a6 ?l6 ?c6 ?k6 ?a7 ?l7 ?c7 ?k7 ?a8 ?l8 ?c8 ?k8 ?a9 ?l9 ?c9 ?k9 ?xStore ?yStore0 ?yStore1 ?yStore2 ?yStore3 ?yStore4 ?yStore5 ?vStoresize ?vStoreactions ?vStoreresting ?vStoremoves_by_name ?vStoreways_by_state ?rStore0 ?rStore1 ?a10 ?i10 ?l10 ?c10 ?k10 ?a11 ?u11 ?i11 ?l11 ?c11 ?k11 ?a12 ?i12 ?l12 ?c12 ?k12 ?a13 ?i13 ?l13 ?c13 ?k13 ?a14 ?l14 ?c14 ?k14 ?a15 ?l15 ?c15 ?k15 ?a16 ?l16 ?c16 ?k16 ?a17 ?l17 ?c17 ?k17 ?a18 ?l18 ?c18 ?k18 ?a19 ?l19 ?c19 ?k19 ?a20 ?l20 ?c20 ?k20 ?a21 ?l21 ?c21 ?k21 ?a22 ?l22 ?c22 ?k22 ?a23 ?l23 ?c23 ?k23 ?a24 ?l24 ?c24 ?k24 ?a25 ?l25 ?c25 ?k25 ?a26 ?l26 ?c26 ?k26 ?a27 ?l27 ?c27 ?k27 ?a28 ?l28 ?c28 ?k28 ?a29 ?l29 ?c29 ?k29 ?a30 ?l30 ?c30 ?k30 ?a31 ?l31 ?c31 ?k31 ?a32 ?l32 ?c32 ?k32 ?a33 ?l33 ?c33 ?k33 ?xFlowError ?yFlowError ?yBadStore ?nd ?z_all ?z_bool ?z_dict ?z_enumerate ?z_int ?z_isinstance ?z_len ?z_list ?z_range ?z_repr ?z_sorted ?z_str ?z_tuple ?z_zip ?gLETTERS ?gLONGEST_NAME ?gMOST_STATES ?gPAIR ?ndf ?edf ?insS
    (case a0 => k_is)
    (case i0 => k_is)
    (case t0 => k_is)
    (case l0 => k_is)
    (case c0 => k_is)
    (case k0 => k_is)
    (case a1 => k_is)
    (case l1 => k_is)
    (case c1 => k_is)
    (case k1 => k_is)
    (case a2 => k_is)
    (case l2 => k_is)
    (case c2 => k_is)
    (case k2 => k_is)
    (case a3 => k_is)
    (case l3 => k_is)
    (case c3 => k_is)
    (case k3 => k_is)
    (case a4 => k_is)
    (case l4 => k_is)
    (case c4 => k_is)
    (case k4 => k_is)
    (case a5 => k_is)
    (case l5 => k_is)
    (case c5 => k_is)
    (case k5 => k_is)
    (case a6 => k_is)
    (case l6 => k_is)
    (case c6 => k_is)
    (case k6 => k_is)
    (case a7 => k_is)
    (case l7 => k_is)
    (case c7 => k_is)
    (case k7 => k_is)
    (case a8 => k_is)
    (case l8 => k_is)
    (case c8 => k_is)
    (case k8 => k_is)
    (case a9 => k_is)
    (case l9 => k_is)
    (case c9 => k_is)
    (case k9 => k_is)
    (case xStore => k_is)
    (case yStore0 => k_is)
    (case yStore1 => k_is)
    (case yStore2 => k_is)
    (case yStore3 => k_is)
    (case yStore4 => k_is)
    (case yStore5 => k_is)
    (case vStoresize => k_is)
    (case vStoreactions => k_is)
    (case vStoreresting => k_is)
    (case vStoremoves_by_name => k_is)
    (case vStoreways_by_state => k_is)
    (case rStore0 => k_is)
    (case rStore1 => k_is)
    (case a10 => k_is)
    (case i10 => k_is)
    (case l10 => k_is)
    (case c10 => k_is)
    (case k10 => k_is)
    (case a11 => k_is)
    (case u11 => k_is)
    (case i11 => k_is)
    (case l11 => k_is)
    (case c11 => k_is)
    (case k11 => k_is)
    (case a12 => k_is)
    (case i12 => k_is)
    (case l12 => k_is)
    (case c12 => k_is)
    (case k12 => k_is)
    (case a13 => k_is)
    (case i13 => k_is)
    (case l13 => k_is)
    (case c13 => k_is)
    (case k13 => k_is)
    (case a14 => k_is)
    (case l14 => k_is)
    (case c14 => k_is)
    (case k14 => k_is)
    (case a15 => k_is)
    (case l15 => k_is)
    (case c15 => k_is)
    (case k15 => k_is)
    (case a16 => k_is)
    (case l16 => k_is)
    (case c16 => k_is)
    (case k16 => k_is)
    (case a17 => k_is)
    (case l17 => k_is)
    (case c17 => k_is)
    (case k17 => k_is)
    (case a18 => k_is)
    (case l18 => k_is)
    (case c18 => k_is)
    (case k18 => k_is)
    (case a19 => k_is)
    (case l19 => k_is)
    (case c19 => k_is)
    (case k19 => k_is)
    (case a20 => k_is)
    (case l20 => k_is)
    (case c20 => k_is)
    (case k20 => k_is)
    (case a21 => k_is)
    (case l21 => k_is)
    (case c21 => k_is)
    (case k21 => k_is)
    (case a22 => k_is)
    (case l22 => k_is)
    (case c22 => k_is)
    (case k22 => k_is)
    (case a23 => k_is)
    (case l23 => k_is)
    (case c23 => k_is)
    (case k23 => k_is)
    (case a24 => k_is)
    (case l24 => k_is)
    (case c24 => k_is)
    (case k24 => k_is)
    (case a25 => k_is)
    (case l25 => k_is)
    (case c25 => k_is)
    (case k25 => k_is)
    (case a26 => k_is)
    (case l26 => k_is)
    (case c26 => k_is)
    (case k26 => k_is)
    (case a27 => k_is)
    (case l27 => k_is)
    (case c27 => k_is)
    (case k27 => k_is)
    (case a28 => k_is)
    (case l28 => k_is)
    (case c28 => k_is)
    (case k28 => k_is)
    (case a29 => k_is)
    (case l29 => k_is)
    (case c29 => k_is)
    (case k29 => k_is)
    (case a30 => k_is)
    (case l30 => k_is)
    (case c30 => k_is)
    (case k30 => k_is)
    (case a31 => k_is)
    (case l31 => k_is)
    (case c31 => k_is)
    (case k31 => k_is)
    (case a32 => k_is)
    (case l32 => k_is)
    (case c32 => k_is)
    (case k32 => k_is)
    (case a33 => k_is)
    (case l33 => k_is)
    (case c33 => k_is)
    (case k33 => k_is)
    (case xFlowError => k_is)
    (case z_all => k_is)
    (case z_bool => k_is)
    (case z_dict => k_is)
    (case z_enumerate => k_is)
    (case z_int => k_is)
    (case z_isinstance => k_is)
    (case z_len => k_is)
    (case z_list => k_is)
    (case z_range => k_is)
    (case z_repr => k_is)
    (case z_sorted => k_is)
    (case z_str => k_is)
    (case z_tuple => k_is)
    (case z_zip => k_is)
    (case gLETTERS => k_is)
    (case gLONGEST_NAME => k_is)
    (case gMOST_STATES => k_is)
    (case gPAIR => k_is)
    (case ndf => k_is)
    (case edf => k_is)
    (case yFlowError => kernel_rfl)
    (case yBadStore => kernel_rfl)
    (case nd => decide)
    (case insS => kernel_rfl)
