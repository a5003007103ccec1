import PyProof.Rows.All
import Wide.All
import OpenK.AllK
import Wide.FinOn
import HandS.ForMost
import PyProof.ReprRoads
import HandS.TupMul
import HandS.TupAny
import PyProof.ReprBulk
import PyProof.FitsInt
import HandS.IsInst
import PyProof.EqAt
import PyProof.NeKinds
import HandS.Sort
import PyProof.Rows.SortKeyStr
import PyProof.Rows.TupMore
import PyProof.EqKinds
import PyProof.TupleCall
import HandS.Base
import HandS.Call
import HandS.List
import HandS.Style
import HandS.Star
import HandS.Defaults
import HandS.MakeKw
import HandS.SortOrd
import HandS.SortRule
import KE.KDictPairs
import PyProof.StrOps2
import HandS.Exc
import HandS.ExcInit
import HandS.ExcIs
import HandS.ExcField
import HandS.ExcValue
import HandS.HotCalls
import KE.KExcIs
import HandS.Words
import HandS.WordsExc
import HandS.ExcCtx
import HandS.TryMany
import HandS.Codes
import HandS.OwnEq
import HandS.Iter
import HandS.Walk
import PyProof.Draws
import PyProof.EnumMake
import KE.GoesMore
import HandS.ClsMeth
import HandS.ExcOwn
import HandS.Replace
import HandS.ReplaceLit
import HandS.Text
import KE.KUnpackStar
import HandS.SortKw
import KE.GoesEnumKw
import PySem.Challenge.RW_plugcaller_k04_texts_of_stores
import HandS.Flow
import HandS.More
import HandS.Strs
import HandS.Zip
import HandS.Property
import HandS.NoneIn
import HandS.SortInts
import HandS.Conv
import HandS.FStr
import HandS.ReplaceList
import HandS.TryOnly
set_option Elab.async false
set_option linter.all false
set_option maxRecDepth 100000
set_option maxHeartbeats 4000000
/-! Zg: promises of defs that are called where no repr is under way (guards known to be none), and the end of a law over such a promise. -/
namespace Zg
open PySem PySem.Spec PyProof.Rows L2
/-- no repr is under way -/
abbrev Gd (A : Around) : Prop := A.guards = some []
/-- a def's promise, asked only where no repr is under way -/
structure FnG (P : Program) (w : World) (K : PySem.W.Frag) (mg : Str → Option Value) (base : Heap) (k : Nat) (f : Addr) (fd : FuncData) (ps : List Str) (sp : Sp) : Prop where
  len : ∀ vs H Q E, sp vs H Q E → vs.length = ps.length
  run : ∀ (A : Around) (outer : List Env) (s : Shared) (H : Hp) (args : Args) (us : List Value) (vs : List V) (Q : VK), Gd A → Room k A →
    Env0 P w K mg base A outer s H → BindsTo s fd args (ps.zip us) → Vals vs us → sp vs H Q E0 →
    codeAny (model P w) A (.call (.ref f) args) (CR CX0 outer P w H s Q E0) s
theorem FnG.of {P : Program} {w : World} {K : PySem.W.Frag} {mg : Str → Option Value} {base : Heap} {k : Nat} {f : Addr} {fd : FuncData} {ps : List Str} {sp : Sp}
    (F : FnOk P w K mg base CX0 k f fd ps sp) : FnG P w K mg base k f fd ps sp :=
  ⟨F.len, fun A outer s H args us vs Q _ hr e0 hb hv hs => F.run A outer s H args us vs Q E0 hr e0 hb hv hs⟩
section
variable {P : Program} {w : World} {K : PySem.W.Frag} {mg : Str → Option Value} {base : Heap}
theorem okG {x qual : Str} {st : Stmt} {f : Addr} {fd : FuncData} {N ps : List Str} {k : Nat} {sp : Sp} (F : Fun K x qual st f fd) (S : FnScope N ps (defScope st))
    (len : ∀ vs H Q E, sp vs H Q E → vs.length = ps.length)
    (hbody : ∀ (cdv : Value) (A : Around) (outer : List Env) (s : Shared) (H : Hp) (vs : List V) (Q : VK), Gd (A.deeper (envOfC qual (defScope st) s.heap.objs.size f cdv)) →
      Room k (A.deeper (envOfC qual (defScope st) s.heap.objs.size f cdv)) → sp vs H Q E0 →
      ∃ t, PSs (cxOf CX0 P w K mg base N qual (defScope st) f cdv A outer s H E0).nox (defBody st) t ∧ t { nx := fun _ H' => Q .non H', rt := Q } (start N vs) H) :
    FnG P w K mg base (k + 1) f fd ps sp := by
  obtain ⟨oc, od, kV, doc, pm, an, cdv, ct, osl, rfl, lk, hcd⟩ := F.ex
  refine ⟨len, fun A outer s H args us vs Q hgd hr e0 hb r hsp => ?_⟩
  have hl := len _ _ _ _ hsp
  have kept : ∀ b o, base.get? b = some o → s.heap.get? b = some o := fun b o e => (e0.bs b o e).1
  have known : ∀ y ∈ ps.zip us, (defScope st).names.lookup y.1 = some .local ∨
      ((defScope st).names.lookup y.1 = some .cell ∧ ((cellsFrom (s.heap.objs.size + 1) (defScope st).names []).lookup y.1).isSome = true) := fun ⟨n, v⟩ hy =>
    (S.par n (List.of_mem_zip hy).1).elim .inl fun q => .inr ⟨q, PySem.W.cellsFrom_some _ _ _ (.inl q)⟩
  refine codeAny_call_function hr.depth (e0.mod.kin.keeps kept _ _ lk) rfl S.co S.gen rfl (PySem.W.codeRec_of (e0.mod.kin.keeps kept) hcd) (hb _ _ _ _ ?_)
  refine wpAny_newFunctionEnv_cells S.kind known fun env he s1 x => ?_
  subst he
  refine ⟨(e0.mod.nolimit.keeps kept).keeps x.toInCall.keep, codeAny_func ?_⟩
  obtain ⟨t, ht, hq⟩ := hbody cdv A outer s H vs Q hgd (hr.deeper _) hsp
  refine wpAny_mono (ht.nox.run [] s1 (start N vs) H _ (inv_start S hr.hd e0 hl r x) hq) (fun fl s' hs => ?_) fun e s' hs => hs
  cases fl with
  | ret u =>
    obtain ⟨v, σ', H', J, rv, q⟩ := hs
    exact ⟨v, H', J.os, J.bare, J.base, J.hok, rv, q⟩
  | next =>
    obtain ⟨σ', H', J, q⟩ := hs
    exact ⟨V.non, H', J.os, J.bare, J.base, J.hok, rfl, q⟩
  | brk => exact hs.elim fun _ z => z.elim fun _ z => z.2.elim
  | cont => exact hs.elim fun _ z => z.elim fun _ z => z.2.elim
end
section
variable {X : Cx} {k : Nat} {f : Addr} {fd : FuncData} {ps ks : List Str} {sp : Sp} {dvs : List V} {ds : List Value} {x : Str} {p pos : Pos} {e : Expr} {es : List Expr} {kws : List Keyword} {t tk : TA}
/-- f(e, ..), f's promise asked where no repr is under way -/
theorem pe_callG (F : FnG X.prog X.w X.K X.mg X.base k f fd ps sp) (hgd : Gd X.A) (hr : Room k X.A) (hg : Gl X x) (hm : X.mg x = some (.ref f)) (hk : PySem.W.keepIn X.K (.ref f) = true) (hb : Binds X.K fd ps ds) (hd : Vals dvs ds)
    (ha : PA X (e :: es) t) (hdb : (x == ("__debug__" : Str)) = false := by decide) (he : starEach (e :: es) X.env = (false, eval e X.env) :: starEach es X.env := by rfl) (hpl : (backTo pos (starEach es X.env)).any (·.1) = false := by rfl) :
    PE X (.Call (.Name x p) (e :: es) [] pos) (tCall sp dvs E0 t) := by
  refine ⟨fun pins s σ H Q I h => wpAny_Call_Name_kw (ld_glob I hg hm ?_ hdb)⟩
  refine PySem.W.callWith_K (h₀ := X.base) I.ok.mod.kin hk (thn (ha.run pos pins s σ H _ I h) fun us s1 ⟨vs, H1, I1, r, q⟩ => ⟨I1.kIn, ?_⟩) he hpl
  have r2 : Vals (vs ++ dvs) (us ++ ds) := r.append hd
  have hl : (us ++ ds).length = ps.length := by rw [← r2.length]; exact F.len _ _ _ _ q
  refine wpAny_call (codeAny_mono (F.run X.A X.stack s1 H1 ⟨us, []⟩ (us ++ ds) (vs ++ dvs) Q hgd hr I1.env0 (hb s1 us I1.kIn hl) r2 q) fun r s' hq => ?_)
  cases r with
  | error e => exact hq.elim
  | ok fl =>
    cases fl with
    | ret u => exact I1.after hq
    | next => exact hq.elim
    | brk => exact hq.elim
    | cont => exact hq.elim
end
/-- how a call by keywords alone binds: g puts the keywords' values (names ks) in the parameters' order -/
structure KB0 (K : PySem.W.Frag) (fd : FuncData) (ps ks : List Str) (g : List Value → List Value) (gV : List V → List V) : Prop where
  to : ∀ (s : Shared) (ws : List Value), ws.length = ks.length → BindsTo s fd ⟨[], ks.zip ws⟩ (ps.zip (g ws))
  rel : ∀ {zs : List V} {ws : List Value}, Vals zs ws → Vals (gV zs) (g ws)
section
variable {X : Cx} {CX : CXT} {k : Nat} {f : Addr} {fd : FuncData} {ps ks : List Str} {sp : Sp} {E : XK} {x : Str} {p pos : Pos} {kws : List Keyword} {tk : TA} {g : List Value → List Value} {gV : List V → List V}
/-- f(k = v, ..): keywords alone -/
def tCallK0 (m : Nat) (sp : Sp) (gV : List V → List V) (E : XK) (tk : TA) : TE := fun σ H Q => tk σ H fun zs H2 => zs.length = m ∧ sp (gV zs) H2 Q E
theorem pe_callK0 (F : FnOk X.prog X.w X.K X.mg X.base CX k f fd ps sp) (hr : Room k X.A) (hg : Gl X x) (hm : X.mg x = some (.ref f)) (hk : PySem.W.keepIn X.K (.ref f) = true) (hb : KB0 X.K fd ps ks g gV) (hx : Passes CX X E)
    (hkw : PK X kws tk) (hall : (backToKw pos (keywordEach kws X.env)).all (·.1.isSome) = true := by rfl) (hks : (backToKw pos (keywordEach kws X.env)).filterMap (·.1) = ks := by rfl)
    (hdb : (x == ("__debug__" : Str)) = false := by decide) (hpl : ((backTo pos (starEach [] X.env)).any (·.1) || (backToKw pos (keywordEach kws X.env)).any (·.1.isNone)) = false := by rfl) :
    PE X (.Call (.Name x p) [] kws pos) (tCallK0 ks.length sp gV E tk) := by
  refine ⟨fun pins s σ H Q I h => wpAny_Call_Name_kw (ld_glob I hg hm ?_ hdb)⟩
  refine PySem.W.callWith_KW0 (h₀ := X.base) I.ok.mod.kin hk hall ?_ hpl
  refine thn (hkw.run pos pins s σ H _ I h) fun ws s2 ⟨zs, H2, I2, rz, l2, q2⟩ => ⟨I2.kIn, ?_⟩
  rw [hks, List.append_nil]
  have hw : ws.length = ks.length := by rw [← rz.length]; exact l2
  refine wpAny_call (codeAny_mono (F.run X.A X.stack s2 H2 ⟨[], ks.zip ws⟩ (g ws) (gV zs) Q E hr I2.env0 (hb.to s2 ws hw) (hb.rel rz) q2) fun r s' hq => ?_)
  cases r with
  | error e => exact hx pins σ H2 s2 e s' I2 hq
  | ok fl =>
    cases fl with
    | ret u => exact I2.after hq
    | next => exact hq.elim
    | brk => exact hq.elim
    | cont => exact hq.elim
end
/-- .. of a def of the text -/
theorem kb0 {K : PySem.W.Frag} {x qual : Str} {st : Stmt} {f : Addr} {fd : FuncData} {ps ks : List Str} {g : List Value → List Value} {gV : List V → List V} (F : Fun K x qual st f fd)
    (h : ∀ (kV doc pm : Value) (an : Option Addr) (cdv ct : Value) (ws : List Value), ws.length = ks.length → bindArgs (PySem.W.fnOf x qual (defArgs st) (defBody st) (defScope st) .none kV doc pm an cdv ct) ⟨[], ks.zip ws⟩ = pure (ps.zip (g ws)))
    (r : ∀ {zs : List V} {ws : List Value}, Vals zs ws → Vals (gV zs) (g ws)) : KB0 K fd ps ks g gV := by
  obtain ⟨oc, od, kV, doc, pm, an, cdv, ct, osl, rfl, lk, hcd⟩ := F.ex
  exact ⟨fun s ws hl => .of_eq (h kV doc pm an cdv ct ws hl), r⟩
/-! ### the end of a law over such a promise -/
section
variable {P : Program} {w : World} {K : PySem.W.Frag} {mg mb : Str → Option Value} {k : Nat} {fa a : Addr} {fd : FuncData} {x : Str} {sp : Sp} {s₁ : Shared} {vs : List Value} {ns : List Int}
/-- the call of the law, from an abstract heap that tracks the script at most -/
theorem enterG {H : Hp} (KX : K.In s₁.heap) (hns : s₁.heap.Ns mainGlobals mg) (hb : s₁.heap.Ns builtinsNs mb) (hbb : ∀ x : Str, x ≠ "__name__" → mb x = bootBuiltins x) (hlim : s₁.heap.NoLimit) (hg : s₁.gens = #[])
    (hscript : ∃ o : Obj, s₁.heap.get? a = some o ∧ ∀ es ep, o.data ≠ .dict es ep) (hr : Room k callerA)
    (F : ∀ base : Heap, K.In base → base.Ns mainGlobals mg → FnG P w K mg base k fa fd [x] sp) (hbind : ∀ (s : Shared) (u : Value), BindsTo s fd ⟨[u], []⟩ [(x, u)])
    (hsp : sp [.ref a] H (fun v _ => v = .bl true) E0) (hO : Only H) (hok : HOk P w H s₁.heap) (hA : ∀ b, H b ≠ none → b = a) (hK : H a ≠ none → K.lookup a = none) :
    codeAny (model P w) callerA (.call (.ref fa) ⟨[.ref a], []⟩) (fun r s' => r = .ok (.ret (.bool true)) ∧ OldK s₁.heap s'.heap ∧ s'.os = s₁.os ∧ AllBare s'.gens) s₁ := by
  obtain ⟨os, hs1, hs2⟩ := hscript
  have apart : ∀ b : Addr, H b ≠ none → (∀ o es ep, s₁.heap.get? b = some o → o.data = .dict es ep → False) := fun b hb o es ep e d => by
    rw [hA b hb, hs1] at e
    cases e
    exact hs2 es ep d
  have nsK : ∀ {b : Addr} {m : Str → Option Value}, s₁.heap.Ns b m → (hidT s₁.heap H).Ns b m := fun {b m} ⟨o, es, ep, e, d, r⟩ => by
    refine ⟨o, es, ep, hidT_get e ?_, d, r⟩
    cases q : H b with
    | none => rfl
    | some u => exact (apart b (by rw [q]; exact fun z => nomatch z) o es ep e d).elim
  have hKb : K.In (hidT s₁.heap H) := fun b o e => hidT_get (KX b o e) (by
    cases q : H b with
    | none => rfl
    | some u =>
      have e' : b = a := hA b (by rw [q]; exact fun z => nomatch z)
      rw [e'] at e q
      rw [hK (by rw [q]; exact fun z => nomatch z)] at e
      cases e)
  have hM : Mod K mg (hidT s₁.heap H) := ⟨hKb, nsK hns, ⟨mb, nsK hb, hbb⟩, let ⟨mc, h1, h2⟩ := hlim; ⟨mc, nsK h1, h2⟩⟩
  have e0 : Env0 P w K mg (hidT s₁.heap H) callerA [] s₁ H :=
    ⟨rfl, hM, fun b o e => of_hidT e, Nat.le_of_eq (hidT_size _ _), trivial, fun b hb => absurd hb List.not_mem_nil, hok, .of_eq hg⟩
  refine codeAny_mono ((F _ hKb (nsK hns)).run callerA [] s₁ H ⟨[.ref a], []⟩ [.ref a] [.ref a] _ rfl hr e0 (hbind s₁ (.ref a)) (.cons rfl .nil) hsp) fun r s' h => ?_
  cases r with
  | error e => exact h.elim
  | ok fl =>
    cases fl with
    | next => exact h.elim
    | brk => exact h.elim
    | cont => exact h.elim
    | ret u =>
      obtain ⟨v, H', os', bare, un, hok', r', q⟩ := h
      obtain rfl : v = .bl true := q
      obtain rfl : u = Value.bool true := r'
      refine ⟨rfl, OldK.of_keep fun b o e => ?_, os', bare⟩
      cases q : H b with
      | none => exact un.keep b o e q List.not_mem_nil List.not_mem_nil
      | some u =>
        rcases hO b with z | ⟨ob, xs, z⟩
        · rw [q] at z
          cases z
        · obtain ⟨e1, _⟩ := hok b _ z
          obtain ⟨e2, _⟩ := hok' b _ (un.frzs b ob _ z)
          rw [e] at e1
          cases e1
          exact e2
theorem callG (KX : K.In s₁.heap) (hns : s₁.heap.Ns mainGlobals mg) (hb : s₁.heap.Ns builtinsNs mb) (hbb : ∀ x : Str, x ≠ "__name__" → mb x = bootBuiltins x) (hlim : s₁.heap.NoLimit) (hg : s₁.gens = #[])
    (ha : s₁.heap.get? a = some { cls := .type "list", data := .seq vs.toArray }) (hi : IntsAre vs ns) (hl : ns.length ≤ sizeLine) (hr : Room k callerA)
    (F : ∀ base : Heap, K.In base → base.Ns mainGlobals mg → FnG P w K mg base k fa fd [x] sp) (hbind : ∀ (s : Shared) (u : Value), BindsTo s fd ⟨[u], []⟩ [(x, u)])
    (hsp : ∀ H : Hp, Only H → SqL K H a (ns.map V.int) → sp [.ref a] H (fun v _ => v = .bl true) E0) :
    codeAny (model P w) callerA (.call (.ref fa) ⟨[.ref a], []⟩) (fun r s' => r = .ok (.ret (.bool true)) ∧ OldK s₁.heap s'.heap ∧ s'.os = s₁.os ∧ AllBare s'.gens) s₁ := by
  have rv := vals_ints hi
  have hsc : ∃ o : Obj, s₁.heap.get? a = some o ∧ ∀ es ep, o.data ≠ .dict es ep := ⟨_, ha, fun _ _ z => nomatch z⟩
  cases hk : K.lookup a with
  | some o =>
    have e := KX a o hk
    rw [ha] at e
    cases e
    refine enterG (H := fun _ => none) KX hns hb hbb hlim hg hsc hr F hbind (hsp _ (fun _ => .inl rfl) (.inr ⟨_, vs.toArray, _, hk, rfl, rfl, rfl, by rw [List.size_toArray, hi.length]; exact hl, by simpa using rv⟩))
      (fun _ => .inl rfl) (fun b u z => nomatch (show (none : Option HO) = some u from z)) (fun b z => absurd rfl z) fun z => absurd rfl z
  | none =>
    have one : ∀ {b : Addr} {u : HO}, (if b = a then some (HO.frz { cls := .type "list", data := .seq vs.toArray } (.lst (ns.map V.int))) else none) = some u → b = a := fun {b u} z => by
      by_cases q : b = a
      · exact q
      · rw [if_neg q] at z
        cases z
    have hO : Only (fun b => if b = a then some (HO.frz { cls := .type "list", data := .seq vs.toArray } (.lst (ns.map V.int))) else none) := fun b => by
      by_cases q : b = a
      · exact .inr ⟨_, _, if_pos q⟩
      · exact .inl (if_neg q)
    refine enterG KX hns hb hbb hlim hg hsc hr F hbind (hsp _ hO (.inl (.inr ⟨_, if_pos rfl⟩))) hO (fun b u z => ?_) (fun b z => ?_) fun _ => hk
    · have q := one z
      subst q
      have z' := (if_pos rfl).symm.trans z
      cases z'
      exact ⟨ha, by rw [List.length_map]; exact hl, vs, _, rv, ha⟩
    · cases q : (if b = a then some (HO.frz { cls := .type "list", data := .seq vs.toArray } (.lst (ns.map V.int))) else none) with
      | none => exact absurd q z
      | some u => exact one q
end
/-- the goal that the head leaves, from the law's promise -/
theorem walkG {l : PySem.W.OpenLaw} {n k : Nat} {q : Program} {loose : List Str} {XP : (Str → Option Value) → Heap → Prop} {YP : World → Heap → Prop} {d : DefRec} {K : Params → PySem.W.Frag} {sp : PySem.W.Frag → Sp} {x : Str}
    (hn : l.most = some n) (hn2 : n ≤ sizeLine) (hdf : d.params.defaults = []) (hr : Room k callerA) (hY : ∀ (w : World) (h : Heap), YP w h → (K w.params).In h)
    (F : ∀ (w : World) (mg : Str → Option Value) (fa : Addr) (h : Heap), (K w.params).In h → h.Ns mainGlobals mg → mg d.name = some (.ref fa) →
      ∃ fd : FuncData, (∀ (s : Shared) (u : Value), BindsTo s fd ⟨[u], []⟩ [(x, u)]) ∧
        ∀ base : Heap, (K w.params).In base → base.Ns mainGlobals mg → FnG l.prog w (K w.params) mg base k fa fd [x] (sp (K w.params)))
    (hsp : ∀ (K : PySem.W.Frag) (H : Hp) (a : Addr) (ns : List Int), ns.length ≤ n → Only H → SqL K H a (ns.map V.int) → sp K [.ref a] H (fun v _ => v = .bl true) E0) :
    PySem.W.WalkO q loose XP YP l.row.toRowW d [] (fun f vs => PySem.call f vs) := by
  refine Att.attach_call hn hdf fun w s₀ s₁ mg mb fa o pm cd doc a vs ns G Y ho hd hcd hmg hobj hints hlen hg => ?_
  have KX := hY w _ Y
  obtain ⟨fd, hb, hF⟩ := F w mg fa _ KX G.T.g hmg
  exact callG KX G.T.g G.T.b G.T.builtins G.T.nolimit hg hobj hints (Nat.le_trans hlen hn2) hr hF hb fun H hO hS => hsp _ H a ns hlen hO hS
/-! ### repr of data -/
section
variable {X : Cx}
/-- repr(x), x an object that holds data -/
def rRepr (K : PySem.W.Frag) : List V → Hp → VK → Prop := fun xs H Q => ∃ (a : Addr) (d : PyData), xs = [.ref a] ∧ Dp K H (.ref a) d ∧ d.showable = true ∧ d.hasDict = false ∧ d.depth ≤ 60 ∧ d.shown.length ≤ sizeLine ∧ Q (.str d.shown) H
theorem cr_repr {k : Nat} (hgd : Gd X.A) (hr : Room k X.A) : CallR X (.builtin "repr") (rRepr X.K) := by
  intro pins s σ H xs us Q I r h
  obtain ⟨a, d, rfl, hd, hs, hn, hdp, hz, q⟩ := h
  obtain ⟨u, rfl, ru⟩ := Vals.one r
  cases ru
  obtain ⟨as, rd⟩ := Dp.reads I d _ _ hd rfl
  have hu := hr.un
  refine repr_of_reads' rd hs (fun z => by rw [hn] at z; cases z) hgd (by omega) (fun _ _ e => e) (fun h' u tk hk => ?_) hz
  exact ⟨.str d.shown, H, I.kept hk, ⟨u, rfl⟩, q⟩
end
end Zg
set_option Elab.async false
set_option linter.all false
set_option maxRecDepth 100000
set_option maxHeartbeats 4000000
/-! Zr: some rules of values: xs.extend(a tuple), t * 1. -/
namespace Zr
open PySem PySem.Spec PyProof.Rows L2
theorem extend_tup (l : Addr) (items : Array Value) (n : Nat) (b : Addr) (items2 : Array Value) (n2 : Nat) (dd : Option Addr) (sl : Array (Option Value)) (hs0 : ¬(!items.isEmpty && Builtin.List.listTooLong (items.size + items2.size)) = true) (hs1 : items.size ≤ sizeLine) (hs2 : items.size + items2.size ≤ sizeLine + 1) :
    Meets (Builtin.«list.extend» ⟨[.ref l, .ref b], []⟩) (fun _ R s => s.heap.get? l = some { cls := .type "list", dict := none, data := .seq items n, slots := #[] } ∧ s.heap.get? b = some { cls := .type "tuple", dict := dd, data := .seq items2 n2, slots := sl } ∧
      R (.ok (.ret Value.none)) { s with heap := s.heap.update l (Obj.mapSeq fun x => x ++ items2), toks := s.toks }) :=
  .of_wp fun prog w A R s h => by
    obtain ⟨hp, g, d, tk, os⟩ := s
    obtain ⟨hl, hb, h⟩ := h
    have f1 := AutoSeq1.idx_int
    have f2 := AutoSeq1.sub_tuple_tuple
    have f3 := AutoSeq1.sub_list_list
    have f4 := AutoSeq1.sub_tuple_list
    have f5 := AutoSeq1.sub_list_tuple
    have hz' : (items ++ items2).size ≤ sizeLine + 1 := by rw [Array.size_append]; exact hs2
    wp_walk using (wpAny_updateSeq hl rfl (hz := hs1) (_hz' := hz')), wpAny_loadPart' hl, wpAny_loadPart' hb
    exact ⟨_, rfl, h⟩
theorem tuple_mul1 (l : Addr) (items : Array Value) (n : Nat) (dd : Option Addr) (sl : Array (Option Value)) (u : Tok) :
    Meets (Builtin.«tuple.__mul__» ⟨[.ref l, .int 1 u], []⟩) (fun _ R s => s.heap.get? l = some { cls := .type "tuple", dict := dd, data := .seq items n, slots := sl } ∧ R (.ok (.ret (Value.ref l))) s) :=
  .of_wp fun prog w A R s h => by
    obtain ⟨hp, g, d, tk, os⟩ := s
    obtain ⟨hl, h⟩ := h
    have f1 := AutoSeq1.idx_int
    have c0 : (decide ((1 : Int) < -(2 ^ 63)) || decide ((1 : Int) ≥ 2 ^ 63)) = false := by decide
    have c1 : (items.isEmpty || (1 : Int) == 1) = true := by simp
    wp_walk using wpAny_loadPart' hl
    repeat (first
      | (refine wpAny_ite_false (decide_eq_false (by rw [c0]; exact Bool.false_ne_true)) ?_; wp_walk using wpAny_loadPart' hl)
      | (refine wpAny_ite_true (decide_eq_true c1) ?_; wp_walk using wpAny_loadPart' hl))
    exact ⟨_, rfl, h⟩
section
variable {X : Cx}
def rExtT (K : PySem.W.Frag) : V → List V → Hp → VK → Prop := fun x vs H Q => ∃ l b xs zs, x = .ref l ∧ vs = [.ref b] ∧ H l = some (.lst xs) ∧ SqT K H b zs ∧ xs.length + zs.length ≤ sizeLine ∧ Q .non (upd H l (.lst (xs ++ zs)))
theorem mt_extT : MtM X "list.extend" (rExtT X.K) := by
  intro pins s σ H x vs v us Q I rx rv h
  obtain ⟨l, b, xs, zs, rfl, rfl, hH, hB, hz, q⟩ := h
  cases rx
  obtain ⟨u, rfl, ru⟩ := rv.one
  cases ru
  obtain ⟨z, its, n, r, hl, e⟩ := I.lstM hH
  obtain ⟨its2, r2, ⟨⟨cls, dd, data, sl⟩, ho, hc, n2, hd⟩, _⟩ := I.tuple hB
  simp only at hc hd
  subst hc hd
  have hl2 := r2.length
  have hsz : its.toArray.size + its2.toArray.size ≤ sizeLine := by rw [List.size_toArray, List.size_toArray]; omega
  have hlong : ¬ (!its.toArray.isEmpty && Builtin.List.listTooLong (its.toArray.size + its2.toArray.size)) = true := by
    rw [notLongL hsz, Bool.and_false]
    exact Bool.false_ne_true
  refine call_meets F.slot_list_extend ⟨_, e, rfl⟩ F.entry_list_extend (F.args_list_extend_2 _ _)
    (extend_tup l its.toArray n b its2.toArray n2 dd sl hlong (by rw [List.size_toArray]; omega) (by omega)) ⟨e, ho, ?_⟩
  refine ⟨.non, _, I.lset (its' := its ++ its2) hH e (by simp) (r.append r2) ?_, rfl, q⟩
  rw [List.length_append]
  omega
/-- t * k, k from 1 on -/
def rRep1 (K : PySem.W.Frag) : R2 := fun x y H Q => ∃ l k xs, x = .ref l ∧ y = .int k ∧ SqT K H l xs ∧ xs ≠ [] ∧ 1 ≤ k ∧ k ≤ 1000 ∧ xs.length ≤ 1000 ∧ (k = 1 → Q (.ref l) H) ∧ (k ≠ 1 → ∀ p, H p = none → Q (.ref p) (upd H p (.tup (List.replicate k.toNat xs).flatten)))
theorem op_rep1 : OpR X (binaryOp .Mult) (rRep1 X.K) := by
  intro pins s σ H x y v u Q I rx ry h
  obtain ⟨l, k, xs, rfl, rfl, hT, hne, h1, h2, hz, q1, q2⟩ := h
  by_cases hk : k = 1
  · subst hk
    cases rx
    obtain ⟨t, rfl⟩ := ry
    obtain ⟨its, r, ⟨⟨cls, dd, data, sl⟩, ho, hc, n, hd⟩, hs⟩ := I.tuple hT
    simp only at hc hd
    subst hc hd
    refine wpAny_binaryOp_repeat_ref (T := "tuple") (U := "int") (by decide) ⟨_, ho, rfl⟩ (fun s' => typeIs_int s' 1 t) noFill_tuple_mul F.fills_int_mul F.slot_int_rmul repeat_tuple F.slot_int_index.lookup
      (call_meets F.slot_int_rmul (typeIs_int s 1 t) F.entry_int_rmul (F.args_int_rmul_2 _ _) (int_rmul_tuple 1 t l its.toArray n dd sl)
        ⟨ho, rfl, ⟨_, ho, rfl⟩, call_meets F.slot_tuple_mul ⟨_, ho, rfl⟩ F.entry_tuple_mul (F.args_tuple_mul_2 _ _) (tuple_mul1 l its.toArray n dd sl t) ⟨ho, ?_⟩⟩)
    exact ⟨.ref l, H, I, rfl, q1 rfl⟩
  · exact op_repT pins s σ H _ _ v u Q I rx ry ⟨l, k, xs, rfl, rfl, hT, hne, by omega, h2, hz, q2 hk⟩
end
end Zr
set_option Elab.async false
set_option linter.all false
set_option maxRecDepth 100000
set_option maxHeartbeats 4000000
/-! Zd: data whose leaves are small: they can be shown, compared. -/
namespace Zd
open PySem PySem.Spec PyProof.Rows L2
mutual
def okd : PyData → Bool
  | .none | .bool _ => true
  | .int i => decide (i.natAbs < 10 ^ 40)
  | .str x => PyData.strOk x
  | .list xs | .tuple xs => okAll xs
  | .dict _ => false
def okAll : List PyData → Bool
  | [] => true
  | x :: xs => okd x && okAll xs
end
theorem okAll_iff : ∀ {l : List PyData}, okAll l = true ↔ ∀ d ∈ l, okd d = true
  | [] => by simp [okAll]
  | x :: l => by
    rw [okAll, Bool.and_eq_true, okAll_iff (l := l)]
    simp
theorem int_log {i : Int} (h : i.natAbs < 10 ^ 40) : i.natAbs.log2 < 1920 :=
  Nat.lt_of_lt_of_le (PySem.Flt.log2_lt_of (n := i.natAbs) (k := 133) (by decide) (Nat.lt_trans h (by decide))) (by decide)
mutual
theorem okd_short : ∀ d : PyData, okd d = true → d.leavesShort 44 = true
  | .none, _ => rfl
  | .bool _, _ => rfl
  | .int i, h => by
    have h' : i.natAbs < 10 ^ 40 := of_decide_eq_true h
    have q := int_text_length_le10 (k := 40) (by decide) h'
    show decide ((PyData.shown (.int i)).length ≤ 44) = true
    refine decide_eq_true ?_
    show (PySem.Str.ofString (toString i)).length ≤ 44
    rw [PySem.ofString_length]
    omega
  | .str x, h => by
    have h' : x.cps.all (· < 0x110000) = true := h
    show x.cps.toList.all (fun c => decide (c < 16 ^ 8)) = true
    rw [List.all_eq_true]
    intro c hc
    rw [Array.all_eq_true'] at h'
    have q := h' c (by simpa using hc)
    have q' : c < 0x110000 := by simpa using q
    exact decide_eq_true (Nat.lt_trans q' (by decide))
  | .list xs, h => okAll_short xs h
  | .tuple xs, h => okAll_short xs h
  | .dict _, h => by cases h
theorem okAll_short : ∀ l : List PyData, okAll l = true → PyData.leavesShortAll 44 l = true
  | [], _ => rfl
  | x :: l, h => by
    rw [okAll, Bool.and_eq_true] at h
    show (PyData.leavesShort 44 x && PyData.leavesShortAll 44 l) = true
    rw [okd_short x h.1, okAll_short l h.2]
    rfl
end
mutual
theorem okd_show : ∀ d : PyData, okd d = true → d.showable = true ∧ d.canLay0 = true ∧ d.hasDict = false
  | .none, _ => ⟨rfl, rfl, rfl⟩
  | .bool _, _ => ⟨rfl, rfl, rfl⟩
  | .int i, h => ⟨decide_eq_true (int_log (of_decide_eq_true h)), rfl, rfl⟩
  | .str x, h => ⟨rfl, h, rfl⟩
  | .list xs, h => okAll_show xs h
  | .tuple xs, h => okAll_show xs h
  | .dict _, h => by cases h
theorem okAll_show : ∀ l : List PyData, okAll l = true → PyData.showableAll l = true ∧ PyData.canLayAll0 l = true ∧ PyData.hasDictAll l = false
  | [], _ => ⟨rfl, rfl, rfl⟩
  | x :: l, h => by
    rw [okAll, Bool.and_eq_true] at h
    obtain ⟨a1, a2, a3⟩ := okd_show x h.1
    obtain ⟨b1, b2, b3⟩ := okAll_show l h.2
    refine ⟨?_, ?_, ?_⟩
    · show (PyData.showable x && PyData.showableAll l) = true
      rw [a1, b1]; rfl
    · show (PyData.canLay0 x && PyData.canLayAll0 l) = true
      rw [a2, b2]; rfl
    · show (PyData.hasDict x || PyData.hasDictAll l) = false
      rw [a3, b3]; rfl
end
theorem okd_fits {d : PyData} (h : okd d = true) (hb : d.bulk ≤ 300000) : d.shown.length ≤ sizeLine := by
  have q := PyData.shown_le_bulk 44 (by decide) d (okd_short d h)
  rw [sizeLine_eq]
  omega
theorem shaped_of {d : PyData} (h : okd d = true) (hd : d.depth ≤ 60) : SeqAt.shaped d = true := by
  show (d.canLay0 && decide (d.depth ≤ 64)) = true
  rw [(okd_show d h).2.1, decide_eq_true (by omega)]
  rfl
/-- repr(x), x an object that holds small data -/
theorem repr_of {K : PySem.W.Frag} {a : Addr} {d : PyData} {H : Hp} {Q : VK} (hd : Dp K H (.ref a) d) (h : okd d = true) (hp : d.depth ≤ 60) (hb : d.bulk ≤ 300000) (q : Q (.str d.shown) H) : Zg.rRepr K [.ref a] H Q :=
  ⟨a, d, rfl, hd, (okd_show d h).1, (okd_show d h).2.2, hp, okd_fits h hb, q⟩
theorem dpAll_of {K : PySem.W.Frag} {H : Hp} {α : Type} (f : α → V) (g : α → PyData) : ∀ {l : List α}, (∀ x ∈ l, Dp K H (f x) (g x)) → DpAll K H (l.map f) (l.map g)
  | [], _ => .nil
  | x :: l, h => .cons (h x List.mem_cons_self) (dpAll_of f g fun y hy => h y (List.mem_cons_of_mem _ hy))
theorem dp_ints {K : PySem.W.Frag} {H : Hp} (ns : List Int) : DpAll K H (ns.map V.int) (ns.map PyData.int) := dpAll_of V.int PyData.int fun x _ => .int x
mutual
theorem dp_mono {K : PySem.W.Frag} {H H' : Hp} (k : ∀ a o, H a = some o → H' a = some o) : ∀ (d : PyData) (v : V), Dp K H v d → Dp K H' v d
  | _, _, .non => .non
  | _, _, .bl b => .bl b
  | _, _, .int i => .int i
  | _, _, .str x => .str x
  | _, _, .lst (xs := xs) (ds := ds) hs ha => .lst (by
      rcases hs with (h | ⟨o, h⟩) | h
      · exact .inl (.inl (k _ _ h))
      · exact .inl (.inr ⟨o, k _ _ h⟩)
      · exact .inr h) (dpAll_mono k ds xs ha)
  | _, _, .tup (xs := xs) (ds := ds) hs ha => .tup (by
      rcases hs with (h | ⟨o, h⟩) | h
      · exact .inl (.inl (k _ _ h))
      · exact .inl (.inr ⟨o, k _ _ h⟩)
      · exact .inr h) (dpAll_mono k ds xs ha)
theorem dpAll_mono {K : PySem.W.Frag} {H H' : Hp} (k : ∀ a o, H a = some o → H' a = some o) : ∀ (ds : List PyData) (vs : List V), DpAll K H vs ds → DpAll K H' vs ds
  | _, _, .nil => .nil
  | _, _, .cons h t => .cons (dp_mono k _ _ h) (dpAll_mono k _ _ t)
end
theorem depth_ints : ∀ ns : List Int, PyData.depthAll (ns.map PyData.int) = 0
  | [] => rfl
  | n :: r => by
    show max 0 (PyData.depthAll (r.map PyData.int)) = 0
    rw [depth_ints r]
    rfl
theorem lay_ints : ∀ ns : List Int, PyData.canLayAll0 (ns.map PyData.int) = true
  | [] => rfl
  | n :: r => lay_ints r
theorem shaped_ints (ns : List Int) : SeqAt.shaped (.list (ns.map PyData.int)) = true := by
  show (PyData.canLayAll0 (ns.map PyData.int) && decide (PyData.depthAll (ns.map PyData.int) + 1 ≤ 64)) = true
  rw [lay_ints, depth_ints]
  rfl
theorem eqv_empty (ns : List Int) : PyData.eqv (.list (ns.map PyData.int)) (.list []) = ns.isEmpty := by
  cases ns <;> rfl
end Zd
set_option Elab.async false
set_option linter.all false
set_option maxRecDepth 100000
set_option maxHeartbeats 4000000
/-! Zv: values of any kind: none, bools, ints, texts, lists, tuples, empty dicts, none of whose objects is one of S. -/
namespace Zv
open PySem PySem.Spec PyProof.Rows L2 Zg Zd
/-! ### the heap but for some -/
/-- all that was tracked but at the addresses of S is as it was -/
def Kp (S : List Addr) (H H' : Hp) : Prop := ∀ a o, a ∉ S → H a = some o → H' a = some o
theorem Kp.refl (S : List Addr) (H : Hp) : Kp S H H := fun _ _ _ e => e
theorem Kp.trans {S : List Addr} {H H1 H2 : Hp} (a : Kp S H H1) (b : Kp S H1 H2) : Kp S H H2 := fun x o n e => b x o n (a x o n e)
theorem Kp.new {S : List Addr} {H : Hp} {p : Addr} {o : HO} (h : H p = none) : Kp S H (upd H p o) := fun a u _ e => by
  rw [upd_ne (ne_of_none e h)]
  exact e
theorem Kp.wr {S : List Addr} {H H' : Hp} {p : Addr} {o : HO} (k : Kp S H H') (h : p ∈ S ∨ H p = none) : Kp S H (upd H' p o) := fun a u n e => by
  have q : a ≠ p := fun z => by
    subst z
    rcases h with h | h
    · exact n h
    · rw [h] at e
      cases e
  rw [upd_ne q]
  exact k a u n e
theorem Kp.of {S : List Addr} {H H' : Hp} (k : Same H H') : Kp S H H' := fun a o _ e => k a o e
theorem Kp.sub {S S' : List Addr} {H H' : Hp} (h : Kp S H H') (e : ∀ a ∈ S, a ∈ S') : Kp S' H H' := fun a o n => h a o fun m => n (e a m)
theorem Kp.free {S : List Addr} {H H' : Hp} (k : Kp S H H') {p : Addr} (n : p ∉ S) (h : H' p = none) : H p = none := by
  cases q : H p with
  | none => rfl
  | some o =>
    rw [k p o n q] at h
    cases h
theorem Kp.seq {K : PySem.W.Frag} {S : List Addr} {H H' : Hp} {a : Addr} {xs : List V} (k : Kp S H H') (n : a ∉ S) (h : SqL K H a xs) : SqL K H' a xs := by
  rcases h with (h | ⟨o, h⟩) | h
  · exact .inl (.inl (k _ _ n h))
  · exact .inl (.inr ⟨o, k _ _ n h⟩)
  · exact .inr h
theorem same_new {H : Hp} {p : Addr} {o : HO} (hp : H p = none) : Same H (upd H p o) := fun b u e => by rw [upd_ne (ne_of_none e hp)]; exact e
/-! ### the values -/
mutual
inductive Dv (S : List Addr) (H : Hp) : V → PyData → Prop
  | non : Dv S H .non .none
  | bl (b : Bool) : Dv S H (.bl b) (.bool b)
  | int (i : Int) : Dv S H (.int i) (.int i)
  | str (x : Str) : Dv S H (.str x) (.str x)
  | lst {a : Addr} {xs : List V} {ds : List PyData} : H a = some (.lst xs) → a ∉ S → DvAll S H xs ds → Dv S H (.ref a) (.list ds)
  | tup {a : Addr} {xs : List V} {ds : List PyData} : H a = some (.tup xs) → a ∉ S → DvAll S H xs ds → Dv S H (.ref a) (.tuple ds)
  | dic {a : Addr} : H a = some (.dK []) → a ∉ S → Dv S H (.ref a) (.dict [])
inductive DvAll (S : List Addr) (H : Hp) : List V → List PyData → Prop
  | nil : DvAll S H [] []
  | cons {v : V} {vs : List V} {d : PyData} {ds : List PyData} : Dv S H v d → DvAll S H vs ds → DvAll S H (v :: vs) (d :: ds)
end
mutual
theorem Dv.kp {S : List Addr} {H H' : Hp} (k : Kp S H H') : ∀ {v : V} {d : PyData}, Dv S H v d → Dv S H' v d
  | _, _, .non => .non
  | _, _, .bl b => .bl b
  | _, _, .int i => .int i
  | _, _, .str x => .str x
  | _, _, .lst h n t => .lst (k _ _ n h) n (DvAll.kp k t)
  | _, _, .tup h n t => .tup (k _ _ n h) n (DvAll.kp k t)
  | _, _, .dic h n => .dic (k _ _ n h) n
theorem DvAll.kp {S : List Addr} {H H' : Hp} (k : Kp S H H') : ∀ {vs : List V} {ds : List PyData}, DvAll S H vs ds → DvAll S H' vs ds
  | _, _, .nil => .nil
  | _, _, .cons h t => .cons (Dv.kp k h) (DvAll.kp k t)
end
mutual
theorem Dv.sub {S S' : List Addr} {H : Hp} (e : ∀ a ∈ S', a ∈ S) : ∀ {v : V} {d : PyData}, Dv S H v d → Dv S' H v d
  | _, _, .non => .non
  | _, _, .bl b => .bl b
  | _, _, .int i => .int i
  | _, _, .str x => .str x
  | _, _, .lst h n t => .lst h (fun m => n (e _ m)) (DvAll.sub e t)
  | _, _, .tup h n t => .tup h (fun m => n (e _ m)) (DvAll.sub e t)
  | _, _, .dic h n => .dic h (fun m => n (e _ m))
theorem DvAll.sub {S S' : List Addr} {H : Hp} (e : ∀ a ∈ S', a ∈ S) : ∀ {vs : List V} {ds : List PyData}, DvAll S H vs ds → DvAll S' H vs ds
  | _, _, .nil => .nil
  | _, _, .cons h t => .cons (Dv.sub e h) (DvAll.sub e t)
end
theorem DvAll.append {S : List Addr} {H : Hp} : ∀ {vs ws : List V} {ds es : List PyData}, DvAll S H vs ds → DvAll S H ws es → DvAll S H (vs ++ ws) (ds ++ es)
  | _, _, _, _, .nil, h => h
  | _, _, _, _, .cons a t, h => .cons a (DvAll.append t h)
theorem DvAll.length {S : List Addr} {H : Hp} : ∀ {vs : List V} {ds : List PyData}, DvAll S H vs ds → vs.length = ds.length
  | _, _, .nil => rfl
  | _, _, .cons _ t => by rw [List.length_cons, List.length_cons, DvAll.length t]
theorem DvAll.drop {S : List Addr} {H : Hp} : ∀ (n : Nat) {vs : List V} {ds : List PyData}, DvAll S H vs ds → DvAll S H (vs.drop n) (ds.drop n)
  | 0, _, _, h => h
  | n + 1, _, _, .nil => .nil
  | n + 1, _, _, .cons _ t => DvAll.drop n t
theorem DvAll.take {S : List Addr} {H : Hp} : ∀ (n : Nat) {vs : List V} {ds : List PyData}, DvAll S H vs ds → DvAll S H (vs.take n) (ds.take n)
  | 0, _, _, _ => .nil
  | n + 1, _, _, .nil => .nil
  | n + 1, _, _, .cons h t => .cons h (DvAll.take n t)
theorem DvAll.get {S : List Addr} {H : Hp} : ∀ {vs : List V} {ds : List PyData}, DvAll S H vs ds → ∀ {i : Nat} {v : V}, vs[i]? = some v → ∃ d, ds[i]? = some d ∧ Dv S H v d
  | _, _, .nil, i, v, e => by cases e
  | _, _, .cons (d := d) h t, 0, v, e => ⟨d, rfl, by cases e; exact h⟩
  | _, _, .cons h t, i + 1, v, e => DvAll.get t (i := i) e
section
variable {X : Cx} {pins : List (Addr × Obj)} {σ : L2.St} {H : Hp} {s : Shared} {S : List Addr}
/-- the object of an empty dict -/
theorem dic_at (I : Inv X pins σ H s) {a : Addr} (h : H a = some (.dK [])) : (a == sysModules) = false ∧ ∃ o n, s.heap.get? a = some o ∧ o.cls = .type "dict" ∧ o.data = .dict #[] n := by
  obtain ⟨_, hd, vs, kv, o, es, ep, h1, h2, h3, h4, h5, h6⟩ := dk_rd I.hok (.inl h)
  refine ⟨hd, o, ep, h1, h2.1, ?_⟩
  cases kv
  have e : es.toList = [] := by
    cases h5' : es.toList with
    | nil => rfl
    | cons x l => rw [h5'] at h5; cases h5
  have e2 : es = #[] := by
    obtain ⟨l⟩ := es
    simp only at e
    rw [e]
  rw [h3, e2]
mutual
theorem Dv.reads (I : Inv X pins σ H s) : ∀ {v : V} {d : PyData} (u : Value), Dv S H v d → RelV v u → ∃ as, Reads s.heap u d as
  | _, _, _, .non, r => by cases r; exact ⟨_, Reads.none⟩
  | _, _, _, .bl b, r => by cases r; exact ⟨_, Reads.bool b⟩
  | _, _, _, .int i, r => by obtain ⟨t, rfl⟩ := r; exact ⟨_, Reads.int i t⟩
  | _, _, _, .str x, r => by obtain ⟨t, rfl⟩ := r; exact ⟨_, Reads.str x t⟩
  | _, _, _, .lst h n t, r => by
    cases r
    obtain ⟨z, its, m, rv, _, e⟩ := I.lstM h
    obtain ⟨as, q⟩ := DvAll.reads I its t rv
    exact ⟨_, Reads.list e rfl rfl q⟩
  | _, _, _, .tup h n t, r => by
    cases r
    obtain ⟨its, rv, ⟨o, ho, hc, m, hd⟩, _⟩ := I.tuple (X := X) (SqT.of h)
    obtain ⟨as, q⟩ := DvAll.reads I its t rv
    exact ⟨_, Reads.tuple ho hc hd q⟩
  | _, _, _, .dic h n, r => by
    cases r
    obtain ⟨_, o, m, h1, h2, h3⟩ := dic_at I h
    exact ⟨_, Reads.dict h1 h2 h3 .nil .nil⟩
theorem DvAll.reads (I : Inv X pins σ H s) : ∀ {vs : List V} {ds : List PyData} (us : List Value), DvAll S H vs ds → Vals vs us → ∃ as, ReadsAll s.heap us ds as
  | _, _, _, .nil, r => by cases r; exact ⟨_, ReadsAll.nil⟩
  | _, _, _, .cons h t, r => by
    cases r with
    | cons r1 r2 =>
      obtain ⟨as, q1⟩ := Dv.reads I _ h r1
      obtain ⟨bs, q2⟩ := DvAll.reads I _ t r2
      exact ⟨_, ReadsAll.cons q1 q2⟩
end
end
/-! ### repr -/
section
variable {X : Cx} {pins : List (Addr × Obj)} {σ : L2.St} {H : Hp} {s : Shared} {S : List Addr}
mutual
/-- how such a value shows within another -/
theorem Dv.under (I : Inv X pins σ H s) : ∀ {v : V} {d : PyData} (u : Value), Dv S H v d → RelV v u → d.showable = true → d.shown.length ≤ sizeLine → ∃ bs, ReadAtMost s.heap d.depth bs ∧ ReprK X.prog X.w bs s.heap d.depth u d.shown
  | _, _, _, .non, r, _, _ => by
    cases r
    exact ⟨[], fun _ h => (nomatch h), ReprK.of_is ReprIs.none _ _ _⟩
  | _, _, _, .bl b, r, _, _ => by
    cases r
    exact ⟨[], fun _ h => (nomatch h), ReprK.of_is (ReprIs.bool b) _ _ _⟩
  | _, _, _, .int i, r, hs, _ => by
    obtain ⟨t, rfl⟩ := r
    exact ⟨[], fun _ h => (nomatch h), ReprK.of_is (ReprIs.int t (of_decide_eq_true hs)) _ _ _⟩
  | _, _, _, .str x, r, _, hz => by
    obtain ⟨t, rfl⟩ := r
    exact ⟨[], fun _ h => (nomatch h), ReprK.of_is (ReprIs.str x t hz) _ _ _⟩
  | _, _, _, .lst (a := a) (xs := xs) (ds := ds) h n t, r, hs, hz => by
    obtain ⟨as, hr⟩ := Dv.reads I _ (Dv.lst h n t) r
    cases r
    obtain ⟨_, its, m, rv, _, e⟩ := I.lstM h
    have hz' : (listText (PyData.shownAll ds)).length ≤ sizeLine := hz
    obtain ⟨bs, hb, hk⟩ := DvAll.under I its t rv hs fun x hx => Nat.le_trans (listText_mem_le hx) hz'
    have na : a ∉ bs := not_mem_of_deeper hr (Nat.lt_succ_self _) hb
    refine ⟨a :: bs, ReadAtMost.cons hr (Nat.le_succ _) hb, ?_⟩
    cases its with
    | nil =>
      cases rv
      cases t
      show ReprK X.prog X.w _ s.heap 1 (.ref a) (listText [])
      rw [listText_nil]
      exact ReprK.listEmpty e rfl rfl
    | cons y l => exact ReprK.list e rfl rfl na (by simpa using hk.length_eq) fun i z q => hk.item i z (by simpa using q)
  | _, _, _, .tup (a := a) (xs := xs) (ds := ds) h n t, r, hs, hz => by
    obtain ⟨as, hr⟩ := Dv.reads I _ (Dv.tup h n t) r
    cases r
    obtain ⟨its, rv, ⟨o, ho, hc, m, hd⟩, _⟩ := I.tuple (X := X) (SqT.of h)
    have hz' : (tupleText (PyData.shownAll ds)).length ≤ sizeLine := hz
    obtain ⟨bs, hb, hk⟩ := DvAll.under I its t rv hs fun x hx => Nat.le_trans (tupleText_mem_le hx) hz'
    have na : a ∉ bs := not_mem_of_deeper hr (Nat.lt_succ_self _) hb
    exact ⟨a :: bs, ReadAtMost.cons hr (Nat.le_succ _) hb, ReprK.tuple ho hc hd na (by simpa using hk)⟩
  | _, _, _, .dic (a := a) h n, r, hs, hz => by
    obtain ⟨as, hr⟩ := Dv.reads I _ (Dv.dic (S := S) h n) r
    cases r
    obtain ⟨lo, o, m, h1, h2, h3⟩ := dic_at I h
    refine ⟨[a], fun b hb => ?_, ReprK.dict (ps := []) h1 h2 h3 lo (fun z => nomatch z) .nil⟩
    rw [List.mem_singleton] at hb
    subst hb
    exact ⟨_, _, hr, Nat.le_refl _⟩
theorem DvAll.under (I : Inv X pins σ H s) : ∀ {vs : List V} {ds : List PyData} (us : List Value), DvAll S H vs ds → Vals vs us → PyData.showableAll ds = true → (∀ t ∈ PyData.shownAll ds, t.length ≤ sizeLine) →
    ∃ bs, ReadAtMost s.heap (PyData.depthAll ds) bs ∧ ReprAllK X.prog X.w bs s.heap (PyData.depthAll ds) us (PyData.shownAll ds)
  | _, _, _, .nil, r, _, _ => by
    cases r
    exact ⟨[], fun _ h => (nomatch h), .nil⟩
  | _, _, _, .cons (d := d) (ds := ds) h t, r, hs, hz => by
    cases r with
    | cons r1 r2 =>
      have hs' : (d.showable && PyData.showableAll ds) = true := hs
      rw [Bool.and_eq_true] at hs'
      obtain ⟨b1, q1, k1⟩ := Dv.under I _ h r1 hs'.1 (hz _ List.mem_cons_self)
      obtain ⟨b2, q2, k2⟩ := DvAll.under I _ t r2 hs'.2 fun x hx => hz x (List.mem_cons_of_mem _ hx)
      exact ⟨b1 ++ b2, (q1.mono (Nat.le_max_left _ _)).append (q2.mono (Nat.le_max_right _ _)),
        .cons ((k1.more fun b hb => List.mem_append_left _ hb).level_le (Nat.le_max_left _ _)) (k2.more_le (fun b hb => List.mem_append_right _ hb) (Nat.le_max_right _ _))⟩
end
end
section
variable {X : Cx}
/-- repr(x), x any such value -/
def rReprV (S : List Addr) : List V → Hp → VK → Prop := fun xs H Q => ∃ (v : V) (d : PyData), xs = [v] ∧ Dv S H v d ∧ d.showable = true ∧ d.depth ≤ 60 ∧ d.shown.length ≤ sizeLine ∧ Q (.str d.shown) H
theorem cr_reprV {S : List Addr} {k : Nat} (hgd : Gd X.A) (hr : Room k X.A) : CallR X (.builtin "repr") (rReprV S) := by
  intro pins s σ H xs us Q I r h
  obtain ⟨v, d, rfl, hd, hs, hdp, hz, q⟩ := h
  obtain ⟨u, rfl, ru⟩ := Vals.one r
  have hu := hr.un
  have hg1 : X.A.in1.guards = some [] := hgd
  have fin : ∀ (h' : Heap) (u : Tok) (tk : Nat), (∀ b o, s.heap.get? b = some o → h'.get? b = some o) → EP X pins σ Q (.str d.shown u) { s with heap := h', toks := tk } := fun h' u tk hk => ⟨.str d.shown, H, I.kept hk, ⟨u, rfl⟩, q⟩
  cases hd with
  | non => cases ru; exact PySem.P.repr_of_none ⟨.str _, H, I.tok _, ⟨_, rfl⟩, q⟩
  | bl b => cases ru; exact PySem.P.repr_of_bool ⟨.str _, H, I.tok _, ⟨_, rfl⟩, q⟩
  | int i => obtain ⟨t, rfl⟩ := ru; exact PySem.P.repr_of_int (of_decide_eq_true hs) ⟨.str _, H, I.tok _, ⟨_, rfl⟩, q⟩
  | str x => obtain ⟨t, rfl⟩ := ru; exact PySem.P.repr_of_str ⟨.str _, H, I.tok _, ⟨_, rfl⟩, q⟩ hz
  | @lst a xs ds h n t =>
    obtain ⟨as, hr⟩ := Dv.reads I _ (Dv.lst h n t) ru
    cases ru
    obtain ⟨_, its, m, rv, _, e⟩ := I.lstM h
    have hz' : (listText (PyData.shownAll ds)).length ≤ sizeLine := hz
    obtain ⟨bs, hb, hk⟩ := DvAll.under I its t rv hs fun x hx => Nat.le_trans (listText_mem_le hx) hz'
    have na : a ∉ bs := not_mem_of_deeper hr (Nat.lt_succ_self _) hb
    have hdp' : PyData.depthAll ds + 1 ≤ 60 := hdp
    refine call_repr_slot (by omega) (T := "list") ⟨_, e, rfl⟩ F.slot_list_repr.toG ?_
    cases its with
    | nil =>
      cases rv
      cases t
      refine call_list_repr_empty ⟨_, e, rfl⟩ e rfl ?_
      have q2 := fin s.heap s.toks (s.toks + 1) fun _ _ e => e
      have e2 : PyData.shown (.list []) = "[]" := listText_nil
      rw [e2] at q2
      exact ⟨_, _, rfl, q2⟩
    | cons y l =>
      exact call_list_reprK (h₀ := s.heap) e rfl rfl na (by simpa using hk.length_eq) (fun i z q => hk.item i z (by simpa using q)) hg1 (fun b _ => Clear.nil b) (by show X.A.units + 1 + (PyData.depthAll ds + 1) < cLine; omega) (fun _ _ e => e) (fun h' u tk hk' => ⟨_, _, rfl, fin h' u tk hk'⟩) hz'
  | @tup a xs ds h n t =>
    obtain ⟨as, hr⟩ := Dv.reads I _ (Dv.tup h n t) ru
    cases ru
    obtain ⟨its, rv, ⟨o, ho, hc, m, hdt⟩, _⟩ := I.tuple (X := X) (SqT.of h)
    have hz' : (tupleText (PyData.shownAll ds)).length ≤ sizeLine := hz
    obtain ⟨bs, hb, hk⟩ := DvAll.under I its t rv hs fun x hx => Nat.le_trans (tupleText_mem_le hx) hz'
    have na : a ∉ bs := not_mem_of_deeper hr (Nat.lt_succ_self _) hb
    have hdp' : PyData.depthAll ds + 1 ≤ 60 := hdp
    refine call_repr_slot (by omega) (T := "tuple") ⟨_, ho, hc⟩ F.slot_tuple_repr ?_
    exact call_tuple_reprK (h₀ := s.heap) ho hc hdt na (by simpa using hk) hg1 (fun b _ => Clear.nil b) (by show X.A.units + 1 + (PyData.depthAll ds + 1) < cLine; omega) (fun _ _ e => e) (fun h' u tk hk' => ⟨_, _, rfl, fin h' u tk hk'⟩) hz'
  | @dic a h n =>
    cases ru
    obtain ⟨lo, o, m, h1, h2, h3⟩ := dic_at I h
    refine call_repr_slot (by omega) (T := "dict") ⟨_, h1, h2⟩ F.slot_dict_repr ?_
    exact call_dict_reprK (as := []) (h₀ := s.heap) (d := 0) (ps := []) h1 h2 h3 lo (fun z => nomatch z) .nil hg1 (fun b _ => Clear.nil b) (by show X.A.units + 1 + (0 + 1) < cLine; omega) (fun _ _ e => e) (fun h' u tk hk' => ⟨_, _, rfl, fin h' u tk hk'⟩) hz
end
/-! ### isinstance -/
def tyD : PyData → String
  | .none => "NoneType"
  | .bool _ => "bool"
  | .int _ => "int"
  | .str _ => "str"
  | .list _ => "list"
  | .tuple _ => "tuple"
  | .dict _ => "dict"
def CLS : List String := ["tuple", "list", "str", "int", "bool", "dict"]
def TYS : List String := ["NoneType", "bool", "int", "str", "list", "tuple", "dict"]
def isB (T t : String) : Bool := t == T || (T == "int" && t == "bool")
theorem kit_all (K : PySem.W.Frag) : ∀ T ∈ CLS, ∀ t ∈ TYS, PySem.W.kitOne K (.type t) (.type T) = some (isB T t) := by
  intro T hT t ht
  simp only [CLS, TYS, List.mem_cons, List.not_mem_nil, or_false] at hT ht
  rcases hT with rfl | rfl | rfl | rfl | rfl | rfl <;> rcases ht with rfl | rfl | rfl | rfl | rfl | rfl | rfl <;> rfl
/-- of which built-in class -/
def isA (T : String) (d : PyData) : Bool := isB T (tyD d)
theorem tyD_mem (d : PyData) : tyD d ∈ TYS := by
  cases d <;> simp [tyD, TYS]
section
variable {K : PySem.W.Frag} {S : List Addr} {H : Hp}
theorem Dv.ty {v : V} {d : PyData} (h : Dv S H v d) : TyX K H v (.type (tyD d)) := by
  cases h with
  | non => exact .base .non
  | bl b => exact .base (.bl b)
  | int i => exact .base (.int i)
  | str x => exact .base (.str x)
  | lst h _ _ => exact .base (.lst h)
  | tup h _ _ => exact .base (.tup h)
  | dic h _ => exact .base (.dK h)
/-- isinstance(x, T) -/
theorem Dv.isi {v : V} {d : PyData} {T : String} {Q : VK} (h : Dv S H v d) (hT : T ∈ CLS) (q : Q (.bl (isA T d)) H) : rIsi K [v, .ty T] H Q :=
  ⟨v, .ty T, .type (tyD d), .type T, isA T d, rfl, .ty T, h.ty, kit_all K T hT _ (tyD_mem d), q⟩
theorem Dv.tuple {v : V} {d : PyData} (h : Dv S H v d) (hi : isA "tuple" d = true) : ∃ a xs ds, v = .ref a ∧ d = .tuple ds ∧ H a = some (.tup xs) ∧ a ∉ S ∧ DvAll S H xs ds := by
  cases h with
  | tup h n t => exact ⟨_, _, _, rfl, rfl, h, n, t⟩
  | non => cases hi
  | bl b => cases hi
  | int i => cases hi
  | str x => cases hi
  | lst h n t => cases hi
  | dic h n => cases hi
theorem Dv.text {v : V} {d : PyData} (h : Dv S H v d) (hi : isA "str" d = true) : ∃ x, v = .str x ∧ d = .str x := by
  cases h with
  | str x => exact ⟨x, rfl, rfl⟩
  | non => cases hi
  | bl b => cases hi
  | int i => cases hi
  | lst h n t => cases hi
  | tup h n t => cases hi
  | dic h n => cases hi
theorem Dv.number {v : V} {d : PyData} (h : Dv S H v d) (hi : isA "int" d = true) (hb : isA "bool" d = false) : ∃ x, v = .int x ∧ d = .int x := by
  cases h with
  | int x => exact ⟨x, rfl, rfl⟩
  | bl b => cases hb
  | non => cases hi
  | str x => cases hi
  | lst h n t => cases hi
  | tup h n t => cases hi
  | dic h n => cases hi
end
/-! ### == of a list or a tuple and an empty one -/
section
variable {X : Cx}
def rEqE (K : PySem.W.Frag) (neg : Bool) : R2 := fun x y H Q => ∃ a b xs, x = .ref a ∧ y = .ref b ∧ ((SqL K H a xs ∧ SqL K H b []) ∨ (SqT K H a xs ∧ SqT K H b [])) ∧ Q (.bl (if neg then !xs.isEmpty else xs.isEmpty)) H
theorem op_eqE (hu : X.A.units < cLine) : OpR X (compareOp .Eq) (rEqE X.K false) := by
  intro pins s σ H x y v u Q I rx ry h
  obtain ⟨a, b, xs, rfl, rfl, hab, q⟩ := h
  cases rx
  cases ry
  have q' : Q (.bl xs.isEmpty) H := q
  rcases hab with ⟨ha, hb⟩ | ⟨ha, hb⟩
  · obtain ⟨its, r1, p1, _⟩ := I.list ha
    obtain ⟨its2, r2, p2, _⟩ := I.list hb
    cases r2
    cases r1 with
    | nil => exact SeqAt.eq_listAt (e := fun _ => true) p1.isList p2.isList rfl hu (fun j h1 => absurd h1 (Nat.not_lt_zero _)) ⟨.bl true, H, I, rfl, q'⟩
    | cons a1 a2 => exact SeqAt.eq_list_lengthsAt p1.isList p2.isList rfl hu ⟨.bl false, H, I, rfl, q'⟩
  · obtain ⟨its, r1, p1, _⟩ := I.tuple ha
    obtain ⟨its2, r2, p2, _⟩ := I.tuple hb
    cases r2
    cases r1 with
    | nil => exact SeqAt.eq_tupleAt (e := fun _ => true) p1 p2 hu (fun j h1 => absurd h1 (Nat.not_lt_zero _)) ⟨.bl true, H, I, rfl, q'⟩
    | cons a1 a2 =>
      refine SeqAt.eq_tupleAt (e := fun _ => true) p1 p2 hu (fun j _ h2 => absurd h2 (Nat.not_lt_zero _)) ?_
      exact ⟨.bl false, H, I, by simp [L2.RelV], q'⟩
theorem op_neE (hu : X.A.units < cLine) : OpR X (compareOp .NotEq) (rEqE X.K true) := by
  intro pins s σ H x y v u Q I rx ry h
  obtain ⟨a, b, xs, rfl, rfl, hab, q⟩ := h
  cases rx
  cases ry
  have q' : Q (.bl (!xs.isEmpty)) H := q
  rcases hab with ⟨ha, hb⟩ | ⟨ha, hb⟩
  · obtain ⟨its, r1, p1, _⟩ := I.list ha
    obtain ⟨its2, r2, p2, _⟩ := I.list hb
    cases r2
    cases r1 with
    | nil => exact SeqAt.RcNeAt.lists (e := fun _ => true) p1.isList p2.isList rfl hu (fun j h1 => absurd h1 (Nat.not_lt_zero _)) _ _ _ _ ⟨.bl false, H, I, rfl, q'⟩
    | cons a1 a2 => exact SeqAt.RcNeAt.lists_lengths p1.isList p2.isList rfl hu _ _ _ _ ⟨.bl true, H, I, rfl, q'⟩
  · obtain ⟨its, r1, p1, _⟩ := I.tuple ha
    obtain ⟨its2, r2, p2, _⟩ := I.tuple hb
    cases r2
    cases r1 with
    | nil => exact SeqAt.RcNeAt.tuples (e := fun _ => true) p1 p2 hu (fun j h1 => absurd h1 (Nat.not_lt_zero _)) _ _ _ _ ⟨.bl false, H, I, rfl, q'⟩
    | cons a1 a2 =>
      refine SeqAt.RcNeAt.tuples (e := fun _ => true) p1 p2 hu (fun j _ h2 => absurd h2 (Nat.not_lt_zero _)) _ _ _ _ ?_
      exact ⟨.bl true, H, I, by simp [L2.RelV], q'⟩
end
/-! ### small values -/
mutual
/-- short texts, small numbers, no dict but empty ones -/
def okv : PyData → Bool
  | .none | .bool _ => true
  | .int i => decide (i.natAbs < 10 ^ 40)
  | .str x => PyData.strOk x && decide (x.length ≤ 1000)
  | .list xs | .tuple xs => decide (xs.length ≤ 1000) && okvAll xs
  | .dict kvs => kvs.isEmpty
def okvAll : List PyData → Bool
  | [] => true
  | x :: xs => okv x && okvAll xs
end
theorem okvAll_iff : ∀ {l : List PyData}, okvAll l = true ↔ ∀ d ∈ l, okv d = true
  | [] => by simp [okvAll]
  | x :: l => by
    rw [okvAll, Bool.and_eq_true, okvAll_iff (l := l)]
    simp
mutual
theorem okv_short : ∀ d : PyData, okv d = true → d.leavesShort 44 = true ∧ d.showable = true
  | .none, _ => ⟨rfl, rfl⟩
  | .bool _, _ => ⟨rfl, rfl⟩
  | .int i, h => by
    have h' : i.natAbs < 10 ^ 40 := of_decide_eq_true h
    have q := int_text_length_le10 (k := 40) (by decide) h'
    refine ⟨?_, decide_eq_true (int_log h')⟩
    show decide ((PyData.shown (.int i)).length ≤ 44) = true
    refine decide_eq_true ?_
    show (PySem.Str.ofString (toString i)).length ≤ 44
    rw [PySem.ofString_length]
    omega
  | .str x, h => by
    have h' : (PyData.strOk x && decide (x.length ≤ 1000)) = true := h
    rw [Bool.and_eq_true] at h'
    have h2 : x.cps.all (· < 0x110000) = true := h'.1
    refine ⟨?_, rfl⟩
    show x.cps.toList.all (fun c => decide (c < 16 ^ 8)) = true
    rw [List.all_eq_true]
    intro c hc
    rw [Array.all_eq_true'] at h2
    have q := h2 c (by simpa using hc)
    have q' : c < 0x110000 := by simpa using q
    exact decide_eq_true (Nat.lt_trans q' (by decide))
  | .list xs, h => okvAll_short xs (Bool.and_eq_true_iff.mp h).2
  | .tuple xs, h => okvAll_short xs (Bool.and_eq_true_iff.mp h).2
  | .dict kvs, h => by
    cases kvs with
    | nil => exact ⟨rfl, rfl⟩
    | cons a l => cases h
theorem okvAll_short : ∀ l : List PyData, okvAll l = true → PyData.leavesShortAll 44 l = true ∧ PyData.showableAll l = true
  | [], _ => ⟨rfl, rfl⟩
  | x :: l, h => by
    rw [okvAll, Bool.and_eq_true] at h
    obtain ⟨a1, a2⟩ := okv_short x h.1
    obtain ⟨b1, b2⟩ := okvAll_short l h.2
    refine ⟨?_, ?_⟩
    · show (PyData.leavesShort 44 x && PyData.leavesShortAll 44 l) = true
      rw [a1, b1]; rfl
    · show (PyData.showable x && PyData.showableAll l) = true
      rw [a2, b2]; rfl
end
theorem okv_fits {d : PyData} (h : okv d = true) (hb : d.bulk ≤ 300000) : d.shown.length ≤ sizeLine := by
  have q := PyData.shown_le_bulk 44 (by decide) d (okv_short d h).1
  rw [sizeLine_eq]
  omega
/-! ### t[k:] -/
theorem cut_from (xs : List V) (k : Nat) (h : k ≤ xs.length) : cutV xs (some (k : Int)) none = xs.drop k := by
  unfold cutV
  rw [HT.sIx_none, HT.sIx_nat, Nat.min_eq_left h]
  exact List.take_of_length_le (by rw [List.length_drop]; omega)
theorem cut_to (xs : List V) (k : Nat) (h : k ≤ xs.length) : cutV xs none (some (k : Int)) = xs.take k := by
  unfold cutV
  rw [HT.sIx_none, HT.sIx_nat, Nat.min_eq_left h, Nat.sub_zero, List.drop_zero]
theorem slA_from {K : PySem.W.Frag} {H : Hp} {Q : VK} {a : Addr} {xs : List V} {n : Int} {k : Nat} (hn : n = (k : Int)) (ha : H a = some (.tup xs)) (q : ∀ H' p, Same H H' → H' p = some (.tup (xs.drop k)) → (p = a ∨ H p = none) → Q (.ref p) H') : rSlA K (.ref a) (some n) none H Q := by
  subst hn
  refine ⟨a, xs, rfl, SqT.of ha, fun hw => ?_, fun hw p hp => ?_⟩
  · have h1 := hw.1
    rw [HT.sIx_nat] at h1
    refine q H a (Same.refl H) ?_ (.inl rfl)
    by_cases hk : k = 0
    · subst hk
      exact ha
    · have h0 : xs = [] := List.length_eq_zero_iff.mp (by omega)
      rw [h0] at ha ⊢
      rw [List.drop_nil]
      exact ha
  · refine q _ p (same_new hp) ?_ (.inr hp)
    rw [upd_same]
    by_cases hk : k ≤ xs.length
    · rw [cut_from xs k hk]
    · unfold cutV
      rw [HT.sIx_none, HT.sIx_nat, Nat.min_eq_right (by omega), List.drop_length, List.drop_eq_nil_of_le (by omega), List.take_nil]
/-- all of S are tracked -/
def Trk (S : List Addr) (H : Hp) : Prop := ∀ a ∈ S, H a ≠ none
theorem Trk.same {S : List Addr} {H H' : Hp} (h : Trk S H) (k : Same H H') : Trk S H' := fun a m e => by
  cases q : H a with
  | none => exact h a m q
  | some o =>
    rw [k a o q] at e
    cases e
theorem Trk.out {S : List Addr} {H : Hp} {p : Addr} (h : Trk S H) (n : H p = none) : p ∉ S := fun m => h p m n
mutual
theorem Dv.fresh {S : List Addr} {H : Hp} {p : Addr} (n : H p = none) : ∀ {v : V} {d : PyData}, Dv S H v d → Dv (p :: S) H v d
  | _, _, .non => .non
  | _, _, .bl b => .bl b
  | _, _, .int i => .int i
  | _, _, .str x => .str x
  | _, _, .lst h m t => .lst h (fun q => by
      rcases List.mem_cons.mp q with rfl | q
      · rw [n] at h; cases h
      · exact m q) (DvAll.fresh n t)
  | _, _, .tup h m t => .tup h (fun q => by
      rcases List.mem_cons.mp q with rfl | q
      · rw [n] at h; cases h
      · exact m q) (DvAll.fresh n t)
  | _, _, .dic h m => .dic h (fun q => by
      rcases List.mem_cons.mp q with rfl | q
      · rw [n] at h; cases h
      · exact m q)
theorem DvAll.fresh {S : List Addr} {H : Hp} {p : Addr} (n : H p = none) : ∀ {vs : List V} {ds : List PyData}, DvAll S H vs ds → DvAll (p :: S) H vs ds
  | _, _, .nil => .nil
  | _, _, .cons h t => .cons (Dv.fresh n h) (DvAll.fresh n t)
end
theorem okv_tup {ds : List PyData} (h : okv (.tuple ds) = true) : ds.length ≤ 1000 ∧ ∀ d ∈ ds, okv d = true := by
  obtain ⟨h1, h2⟩ := Bool.and_eq_true_iff.mp h
  exact ⟨of_decide_eq_true h1, okvAll_iff.mp h2⟩
end Zv
set_option Elab.async false
set_option linter.all false
set_option maxRecDepth 100000
set_option maxHeartbeats 4000000
/-! Zt: sorted texts are one. -/
namespace Zt
open PySem PySem.Spec PyProof.Rows L2
theorem le_trans' {a b c : List Nat} (h1 : ¬ b < a) (h2 : ¬ c < b) : ¬ c < a := by
  have q1 : a ≤ b := h1
  have q2 : b ≤ c := h2
  exact List.le_trans q1 q2
theorem rising_pw : ∀ (l : List PySem.Str) (p : PySem.Str), risingS p l = true → (p :: l).Pairwise (fun a b => ¬ b.cps.toList < a.cps.toList)
  | [], p, _ => List.pairwise_singleton _ _
  | x :: r, p, h => by
    have h' : (!ltCps x.cps.toList p.cps.toList && risingS x r) = true := h
    rw [Bool.and_eq_true, ltCps_eq] at h'
    have q := rising_pw r x h'.2
    have e : ¬ x.cps.toList < p.cps.toList := by simpa using h'.1
    refine List.Pairwise.cons (fun y hy => ?_) q
    rcases List.mem_cons.mp hy with rfl | hy
    · exact e
    · exact le_trans' e ((List.pairwise_cons.mp q).1 y hy)
theorem sorted_pw : ∀ (l : List PySem.Str), sortedS l = true → l.Pairwise (fun a b => ¬ b.cps.toList < a.cps.toList)
  | [], _ => List.Pairwise.nil
  | x :: r, h => rising_pw r x h
theorem str_ext {x y : PySem.Str} (h : x.cps.toList = y.cps.toList) : x = y := by
  obtain ⟨⟨x⟩⟩ := x
  obtain ⟨⟨y⟩⟩ := y
  have h' : x = y := h
  rw [h']
theorem sorted_uniq {l m : List PySem.Str} (h1 : sortedS l = true) (h2 : sortedS m = true) (n1 : l.Nodup) (n2 : m.Nodup) (h : ∀ x, x ∈ l ↔ x ∈ m) : l = m :=
  List.Perm.eq_of_pairwise (le := fun a b : PySem.Str => ¬ b.cps.toList < a.cps.toList) (fun a b _ _ p q => str_ext (List.le_antisymm p q)) (sorted_pw l h1) (sorted_pw m h2) ((List.perm_ext_iff_of_nodup n1 n2).mpr h)
end Zt
set_option Elab.async false
set_option linter.all false
set_option maxRecDepth 100000
set_option maxHeartbeats 4000000
/-! Yo: sorted of a list of pairs of a text and a number. -/
namespace Yo
open PySem PyProof.Rows
section
variable {prog : Program} {w : World} {A : Around} {E : Value → Shared → Prop} {s : Shared}
/-- a text and a number stand at v -/
def TxN (h : Heap) (v : Value) : Prop := ∃ (x : Str) (y : Int) (a : Addr) (o : Obj) (t u : Tok) (n : Nat), v = .ref a ∧ h.get? a = some o ∧ o.cls = .type "tuple" ∧ o.data = .seq #[.str x t, .int y u] n
theorem cmpd {vs : List Value} (hp : ∀ v ∈ vs, TxN s.heap v) : Srt.Tot prog w A s (tuples' true) (fun p => p.1 ∈ vs) := by
  rintro p q hm hm'
  obtain ⟨x, y, a, o, t, u, n, e, ho, -, hd⟩ := hp _ hm
  obtain ⟨x', y', a', o', t', u', n', e', ho', -, hd'⟩ := hp _ hm'
  rw [e, e']
  by_cases ex : x = x'
  · by_cases ey : y = y'
    · refine ⟨false, PySem.W.kat_lt ho hd ho' hd' ?_⟩
      show PySem.W.KatLex prog w A true (decide (2 < 2)) _ [(.str x t, .str x' t'), (.int y u, .int y' u')] 0 s
      refine PySem.W.kat_cons (SeqAt.EqAt.str_str x t x' t' prog w _ _ ?_)
      rw [beq_iff_eq.mpr ex]
      refine PySem.W.kat_yes (PySem.W.kat_cons (SeqAt.EqAt.int_int y u y' u' prog w _ _ ?_))
      rw [beq_iff_eq.mpr ey]
      exact PySem.W.kat_yes (PySem.W.kat_nil ⟨rfl, rfl⟩)
    · refine ⟨decide (y < y'), PySem.W.kat_lt ho hd ho' hd' ?_⟩
      show PySem.W.KatLex prog w A true (decide (2 < 2)) _ [(.str x t, .str x' t'), (.int y u, .int y' u')] 0 s
      refine PySem.W.kat_cons (SeqAt.EqAt.str_str x t x' t' prog w _ _ ?_)
      rw [beq_iff_eq.mpr ex]
      refine PySem.W.kat_yes (PySem.W.kat_cons (SeqAt.EqAt.int_int y u y' u' prog w _ _ ?_))
      rw [beq_eq_false_iff_ne.mpr ey]
      refine PySem.W.kat_no (PySem.W.kat_one _ _ (PyProof.Rows.lt_int ?_))
      exact (show s = s ∧ decide (y < y') = decide (y < y') from ⟨rfl, rfl⟩)
  · refine ⟨decide (x.cps.toList < x'.cps.toList), PySem.W.kat_lt ho hd ho' hd' ?_⟩
    show PySem.W.KatLex prog w A true (decide (2 < 2)) _ [(.str x t, .str x' t'), (.int y u, .int y' u')] 0 s
    refine PySem.W.kat_cons (SeqAt.EqAt.str_str x t x' t' prog w _ _ ?_)
    rw [beq_eq_false_iff_ne.mpr ex]
    exact PySem.W.kat_no (oneLt_str ⟨rfl, rfl⟩)
theorem heads {h : Heap} : ∀ {vs : List Value}, (∀ v ∈ vs, TxN h v) → ∃ fs : List Value, PySem.W.KatTups h vs fs ∧ fs.length = vs.length ∧ ∀ f ∈ fs, ∃ x t, f = Value.str x t
  | [], _ => ⟨[], PySem.W.KatTups.nil, rfl, fun _ hm => by cases hm⟩
  | v :: vs, hp => by
    obtain ⟨x, y, a, o, t, u, n, rfl, ho, hc, hd⟩ := hp v List.mem_cons_self
    obtain ⟨fs, g1, g2, g3⟩ := heads (vs := vs) fun q m => hp q (List.mem_cons_of_mem _ m)
    refine ⟨.str x t :: fs, PySem.W.KatTups.cons ho hc hd rfl g1, congrArg (· + 1) g2, fun f m => ?_⟩
    rcases List.mem_cons.mp m with rfl | m
    · exact ⟨x, t, rfl⟩
    · exact g3 f m
theorem can_sort {a : Addr} {vs : List Value} (h0 : 0 < vs.length) (hp : ∀ v ∈ vs, TxN s.heap v) (ha : ∀ o, s.heap.get? a = some o → o.cls ≠ .type "tuple") : Srt.Sortable prog w A s a vs := fun h' keep => by
  have hp' : ∀ v ∈ vs, TxN h' v := fun v m => by
    obtain ⟨x, y, b, o, t, u, n, e, ho, hc, hd⟩ := hp v m
    exact ⟨x, y, b, o, t, u, n, e, keep b o (fun z => ha o (z ▸ ho) hc) ho, hc, hd⟩
  obtain ⟨fs, g1, g2, g3⟩ := heads hp'
  refine ⟨tuples' true, fun Q E hq => PySem.W.kat_kind (T := .type "str") g1 (by omega) (fun f m => ?_) (by rfl) ?_, cmpd hp'⟩
  · obtain ⟨x, t, rfl⟩ := g3 f m
    exact PySem.W.Looks.now
  · rw [show (Value.type "str" != Value.type "tuple") = true by decide +kernel]
    exact hq
theorem sorts {l : Addr} {vs : List Value} {Q : Value → Shared → Prop} (hl : s.heap.IsList l vs.toArray) (hz : vs.length ≤ sizeLine) (hp : ∀ v ∈ vs, TxN s.heap v)
    (h : ∀ (h' : Heap) (d : Addr) (out : List Value), out.Perm vs → (∀ b o, s.heap.get? b = some o → h'.get? b = some o) → s.heap.objs.size ≤ d → (∃ n, h'.get? d = some (seqObj "list" out.toArray n)) → Q (.ref d) { s with heap := h' }) :
    wpAny (model prog w) A (call (.builtin "sorted") [.ref l]) Q E s := by
  refine Srt.sorted_any hl hz (fun h2 h₁ a ha k => can_sort (s := { s with heap := h₁ }) (by omega) (fun v m => ?_) fun o e c => ?_) fun out ho => h _ _ out ho (fun b o e => sortedAll_old e) (Nat.le_succ _) (sortedAll_at s.heap vs out.toArray)
  · obtain ⟨x, y, b, o, t, u, n, e, ho, hc, hd⟩ := hp v m
    exact ⟨x, y, b, o, t, u, n, e, (k b o ho).2, hc, hd⟩
  · cases (show some o = some (seqObj "list" vs.toArray 0) from e.symm.trans ha)
    exact absurd (Value.type.inj c) (by decide)
end
open L2 PySem.Spec
section
variable {X : Cx}
/-- sorted(xs), xs a list of pairs of a text and a number: the same pairs, in some order -/
def rSortedSN (K : PySem.W.Frag) : List V → Hp → VK → Prop := fun vs H Q => ∃ a xs, vs = [V.ref a] ∧ SqL K H a xs ∧ (∀ x ∈ xs, ∃ (t : Addr) (i : Str) (j : Int), x = V.ref t ∧ H t = some (.tup [.str i, .int j])) ∧ ∀ ys p, ys.Perm xs → H p = none → Q (.ref p) (upd H p (.lst ys))
theorem cr_sortedSN : CallR X (.builtin "sorted") (rSortedSN X.K) := fun pins s σ H vs us Q I r h => by
  obtain ⟨a, xs, rfl, hs, hx, q⟩ := h
  obtain ⟨its, rv, hl, hz⟩ := I.list hs
  obtain ⟨u, rfl, ru⟩ := vals1 r
  obtain rfl : u = Value.ref a := ru
  obtain ⟨e1, e2⟩ := refs_back rv fun x m => by
    obtain ⟨t, _, _, e, _⟩ := hx x m
    exact ⟨t, e⟩
  have hz' : its.length ≤ sizeLine := by rw [← rv.length]; exact hz
  refine sorts hl.isList hz' (fun v hv => ?_) fun h' d out hp k hd ⟨n, hn⟩ => ?_
  · obtain ⟨t, rfl⟩ := e2 v hv
    obtain ⟨t', i, j, e, ht⟩ := hx (V.ref t) (by rw [e1]; exact List.mem_map.mpr ⟨_, hv, rfl⟩)
    cases e
    obtain ⟨_, its2, r2, o, ho, hc, n, hd⟩ := I.hok _ _ ht
    obtain ⟨u1, u2, rfl, ⟨t1, rfl⟩, ⟨t2, rfl⟩⟩ := vals2 r2
    exact ⟨i, j, t, o, t1, t2, n, rfl, ho, hc, hd⟩
  · refine ⟨.ref d, upd H d (.lst (out.map backV)), I.laid (t' := s.toks) k hd ⟨?_, out, n, vals_back fun u m => e2 u (hp.mem_iff.mp m), hn⟩, rfl, q _ d ?_ (I.hok.fresh hd)⟩
    · rw [List.length_map, hp.length_eq]
      exact hz'
    · rw [e1]
      exact hp.map backV
end
end Yo
set_option Elab.async false
set_option linter.all false
set_option maxRecDepth 100000
set_option maxHeartbeats 4000000
/-! Zw: t[::-1] of a tuple. -/
namespace Zw
open PySem PySem.Spec PyProof.Rows L2 HT
section
variable {prog : Program} {w : World} {A : Around} {E : Value → Shared → Prop} {s : Shared}
theorem adjust_back (n : Nat) : Builtin.Slice.sliceAdjust none none (-1) (n : Int) = ((n : Int) - 1, -1) := by
  unfold Builtin.Slice.sliceAdjust
  have h1 : (-1 : Int) < 0 := by omega
  simp only [h1, if_true]
theorem places_back (n : Nat) : Builtin.Slice.slicePlaces ((n : Int) - 1) (-1) (-1) = n := by
  unfold Builtin.Slice.slicePlaces
  have h1 : ¬ ((-1 : Int) > 0) := by omega
  have h2 : -(-1 : Int) = 1 := by omega
  simp only [h1, if_false, h2, Int.ediv_one]
  split <;> omega
theorem sliceApplied_back {sl : Addr} {n : Nat} {u : Tok} {Q : Int × Int × Nat → Shared → Prop} (hs : s.heap.IsSliceOf sl .none .none (.int (-1) u)) (h : Q ((n : Int) - 1, -1, n) s) :
    wpAny (model prog w) A (Builtin.Slice.sliceApplied (.ref sl) (pure (n : Int))) Q E s := by
  obtain ⟨os, hos, hcs, hds⟩ := id hs
  unfold Builtin.Slice.sliceApplied Builtin.Slice.sliceFields
  refine wpAny_bind (wpAny_bind (wpAny_field hos hds (x := .none) rfl (wpAny_bind (wpAny_field hos hds (x := .none) rfl (wpAny_bind (wpAny_field hos hds (x := .int (-1) u) rfl (wpAny_pure ?_)))))))
  refine wpAny_bind (slicePart_int ?_)
  show wpAny _ _ (if ((-1 : Int) == 0) = true then _ else _) _ _ s
  rw [if_neg (by decide)]
  refine wpAny_bind (slicePart_none (wpAny_bind (slicePart_none (wpAny_bind (wpAny_pure ?_)))))
  show wpAny _ _ (match Builtin.Slice.sliceAdjust none none (-1) (n : Int) with | (lo, hi) => pure (lo, (-1 : Int), Builtin.Slice.slicePlaces lo hi (-1))) _ _ s
  rw [adjust_back n]
  show wpAny _ _ (pure ((n : Int) - 1, (-1 : Int), Builtin.Slice.slicePlaces ((n : Int) - 1) (-1) (-1))) _ _ s
  rw [places_back n]
  exact wpAny_pure h
theorem fm_map {α β : Type} {f : α → Option β} {g : α → β} : ∀ l : List α, (∀ k ∈ l, f k = some (g k)) → l.filterMap f = l.map g
  | [], _ => rfl
  | a :: l, h => by
    rw [List.filterMap_cons_some (h a List.mem_cons_self), List.map_cons, fm_map l fun k m => h k (List.mem_cons_of_mem _ m)]
theorem pick_back (xs : Array Value) : ((List.range xs.size).filterMap fun (k : Nat) => xs[((xs.size : Int) - 1 + (k : Int) * (-1)).toNat]?).toArray = xs.toList.reverse.toArray := by
  congr 1
  rw [fm_map (g := fun k => (xs[xs.size - 1 - k]?).getD .none) _ fun k m => by
    have hk := List.mem_range.mp m
    have e : ((xs.size : Int) - 1 + (k : Int) * (-1)).toNat = xs.size - 1 - k := by omega
    rw [e]
    have h2 : xs.size - 1 - k < xs.size := by omega
    rw [Array.getElem?_eq_getElem h2]
    rfl]
  refine List.ext_getElem (by simp) fun i h1 h2 => ?_
  rw [List.getElem_map, List.getElem_range, List.getElem_reverse]
  have hi : i < xs.size := by simpa using h1
  have h3 : xs.size - 1 - i < xs.size := by omega
  rw [Array.getElem?_eq_getElem h3]
  simp
theorem getItem_tuple_back {t sl : Addr} {items : Array Value} {u : Tok} {Q : Value → Shared → Prop} (ht : IsTup s.heap t items) (hs : s.heap.IsSliceOf sl .none .none (.int (-1) u))
    (h : Q (.ref s.heap.objs.size) { s with heap := s.heap.push { cls := .type "tuple", data := .seq items.toList.reverse.toArray } })
    (hsz : items.size ≤ sizeLine) : wpAny (model prog w) A (getItem (.ref t) (.ref sl)) Q E s := by
  have hrev : sizeOk (.seq items.toList.reverse.toArray) := by
    show items.toList.reverse.toArray.size ≤ sizeLine
    rw [List.size_toArray, List.length_reverse, Array.length_toList]
    exact hsz
  obtain ⟨os, hos, hcs, hds⟩ := id hs
  have hTs : s.TypeIs (.ref sl) "slice" := ⟨os, hos, hcs⟩
  unfold getItem
  try with_reducible refine wpAny_holding ?_
  first | refine wpAny_bind (wpAny_pure ?_) | skip
  refine wpAny_bind (wpAny_sequenceKey ht.typeIs (by decide) ?_)
  refine wpAny_bind (wpAny_callSpecial?_slot (name := Str.ofString "__getitem__") ht.typeIs PyProof.Rows.slot_tuple_getitem
    (wpAny_call_entry PyProof.Rows.slot_tuple_getitem ht.typeIs PyProof.Rows.entry_tuple_getitem ?_ (PyProof.Rows.args_tuple_getitem _ _)))
  show wpAny _ _ (Builtin.Tuple.tupleItemsOf (.ref t) >>= _) _ _ s
  refine wpAny_bind (tupleItemsOf_ ht ?_)
  refine wpAny_bind (wpAny_typeOf hTs ?_)
  rw [if_pos (by decide)]
  refine wpAny_bind (sliceApplied_back hs ?_)
  have hno : ¬ ((((items.size : Int) - 1) == 0 && (-1 : Int) == 1 && items.size == items.size) = true) := by
    rw [show ((-1 : Int) == 1) = false from rfl, Bool.and_false]
    exact Bool.false_ne_true
  show wpAny _ _ (if (((items.size : Int) - 1) == 0 && (-1 : Int) == 1 && items.size == items.size) = true then _ else _) _ _ s
  rw [if_neg hno, pick_back items]
  first
    | exact wpAny_bind (m := Builtin.Tuple.tupleExact _) (wpAny_newObj_type (wpAny_pure ⟨_, rfl, wpAny_pure h⟩) hrev)
    | exact wpAny_bind (m := Builtin.Tuple.tupleExact _) (wpAny_newObj_type (wpAny_bind (wpAny_pure (wpAny_pure ⟨_, rfl, wpAny_pure h⟩))) hrev)
    | exact wpAny_bind (wpAny_bind (m := Builtin.Tuple.tupleExact _) (wpAny_newObj_type (wpAny_pure (wpAny_pure ⟨_, rfl, wpAny_pure h⟩)) hrev))
    | exact wpAny_bind (wpAny_bind (m := Builtin.Tuple.tupleExact _) (wpAny_newObj_type (wpAny_pure ⟨_, rfl, wpAny_pure h⟩) hrev))
end
def tRevT (K : PySem.W.Frag) (te : TE) : TE := fun σ H Q => te σ H fun x H1 => ∃ a xs, x = .ref a ∧ SqT K H1 a xs ∧ ∀ p, H1 p = none → Q (.ref p) (upd H1 p (.tup xs.reverse))
theorem pe_revT {X : Cx} {e : Expr} {te : TE} {k : Nat} {p1 p2 p3 pos : Pos} (he : PE X e te) : PE X (.Subscript e (.Slice none none (some (.UnaryOp .USub (.Constant (.int 1) k p1) p2)) p3) pos) (tRevT X.K te) := by
  refine ⟨fun pins s σ H Q I h => ?_⟩
  refine Subscript_ (thn (he.run pins s σ H _ I h) fun v s1 ⟨x, H1, I1, r1, q1⟩ => ?_)
  obtain ⟨a, xs, ex, hx, q⟩ := q1
  subst ex
  cases r1
  have hst : PO X (some (.UnaryOp .USub (.Constant (.int 1) k p1) p2)) (tPart (tUn (rU fun i => .int (-i)) (tC (.int 1)))) := po_some (pe_un un_neg pe_int)
  refine wpAny_Slice (thn (po_none.run pins s1 σ H1 (fun o H2 => o = none ∧ H2 = H1) I1 ⟨rfl, rfl⟩) fun vl s2 ⟨l, H2, I2, pl, el, e2⟩ => ?_)
  subst el e2
  refine thn (po_none.run pins s2 σ H2 (fun o H3 => o = none ∧ H3 = H2) I2 ⟨rfl, rfl⟩) fun vu s3 ⟨u, H3, I3, pu, eu, e3⟩ => ?_
  subst eu e3
  refine thn (hst.run pins s3 σ H3 (fun o H4 => o = some (-1) ∧ H4 = H3) I3 ⟨1, rfl, -1, rfl, rfl, rfl⟩) fun vs s4 ⟨o, H4, I4, ps, eo, e4⟩ => ?_
  subst eo e4
  cases pl
  cases pu
  obtain ⟨u, eu⟩ : ∃ u, vs = .int (-1) u := by cases ps; exact ⟨_, rfl⟩
  subst eu
  have I5 : L2.Inv X pins σ H4 { s4 with heap := s4.heap.push { cls := .type "slice", data := .fields #[.none, .none, .int (-1) u] } } := I4.kept (t' := s4.toks) fun b ob q => Heap.get?_push_of_some _ q
  obtain ⟨its, r, ht, hz⟩ := I5.tuple hx
  have hlen := r.length
  show wpAny (model X.prog X.w) X.A (subscriptTail e (.Slice none none (some (.UnaryOp .USub (.Constant (.int 1) k p1) p2)) p3) (.ref a) (.ref s4.heap.objs.size)) (EP X pins σ Q) X.xe { s4 with heap := s4.heap.push { cls := .type "slice", data := .fields #[.none, .none, .int (-1) u] } }
  refine tail_any (ops := [.ref a, .ref s4.heap.objs.size]) ht.typeIs PyProof.Rows.slot_tuple_getitem.lookup ?_ (by with_unfolding_all rfl)
  refine getItem_tuple_back ht (Heap.IsSliceOf.new _ .none .none (.int (-1) u)) ?_ (by rw [List.size_toArray]; omega)
  refine ⟨.ref _, _, I5.laid (t' := s4.toks) (o := .tup xs.reverse) (fun b ob q => Heap.get?_push_of_some _ q) (Nat.le_refl _) ?_, rfl, q _ (I5.hok.fresh (Nat.le_refl _))⟩
  exact ⟨by rw [List.length_reverse]; omega, _, r.reverse, ⟨_, Heap.get?_push_size _ rfl, rfl, _, rfl⟩⟩
end Zw
set_option Elab.async false
set_option linter.all false
set_option maxRecDepth 100000
set_option maxHeartbeats 4000000
/-! Sk: cls(e, *t, k = v), cls a local that holds a class whose __init__ has a star and keyword-only parameters; o.m(k = v, ..). -/
namespace Sk
open PySem PySem.Spec PyProof.Rows L2
section
variable {M : Model} {A : Around} {E : Value → Shared → Prop} {s : Shared} {K : PySem.W.Frag}
/-- a call's node with stars and keywords -/
theorem node {f : Value} {pos : Pos} {Q : Value → Shared → Prop} {args : List (Bool × Sem Value)} {kws : List (Option PySem.Str × Sem Value)} (hst : (args.any (·.1) || kws.any (·.1.isNone)) = true) (hk : PySem.W.keepIn K f = true)
    (h : wpAny M A (evalArgs f true args kws) (fun a s₁ => K.In s₁.heap ∧ wpAny M A (call f a.pos a.kw) Q E s₁) E s) : wpAny M A (callWith pos f [] args kws) Q E s := by
  unfold callWith
  refine wpAny_bind (wpAny_holding (wpAny_mono h (fun a s₁ h₁ => wpAny_bind (wpAny_standAt ?_)) fun _ _ x => x))
  obtain ⟨k, hk', L⟩ := PySem.W.keeps_K (M := M) hk _ h₁.1
  simp only [hst]
  refine wpAny_bind (L.here ?_)
  have fin : ∀ {t : Sem Value}, wpAny M A t Q E s₁ → wpAny M A (t >>= fun r => holding [r] point >>= fun _ => pure r) Q E s₁ := fun ht =>
    wpAny_bind (wpAny_mono ht (fun r s₂ hr => wpAny_bind (wpAny_holding (wpAny_point (wpAny_pure hr)))) fun _ _ x => x)
  have mk (c : Value) : wpAny M A (callMarked c f ([] ++ a.pos) a.kw) Q E s₁ := by
    unfold callMarked
    exact Calls.wpAny_keep h₁.2
  rcases hk' with rfl | rfl | rfl <;> dsimp only <;> first | exact fin (mk _) | exact fin (wpAny_operating h₁.2)
end
/-- a promise by positional values and the values of the keywords ks -/
def FnK (P : Program) (w : World) (K : PySem.W.Frag) (mg : PySem.Str → Option Value) (base : Heap) (CX : CXT) (k : Nat) (f : Addr) (ks : List PySem.Str) (sp : List V → Sp) : Prop :=
  ∀ (A : Around) (outer : List Env) (s : Shared) (H : Hp) (us ws : List Value) (vs zs : List V) (Q : VK) (E : XK), Room k A → Env0 P w K mg base A outer s H → Vals vs us → Vals zs ws → zs.length = ks.length → sp zs vs H Q E →
    codeAny (model P w) A (.call (.ref f) ⟨us, ks.zip ws⟩) (CR CX outer P w H s Q E) s
section
variable {CX : CXT} {P : Program} {w : World} {K : PySem.W.Frag} {mg : PySem.Str → Option Value} {base : Heap} {k : Nat} {f : Addr} {name qual : PySem.Str} {st : Stmt} {fd : FuncData} {N ps pk : List PySem.Str} {pv : PySem.Str} {sp : List V → Sp}
/-- def f(a, .., *v, k, ..), called with all its keyword-only parameters: what is left over is a new tuple -/
theorem fn_starK (F : Fun K name qual st f fd) (S : FnScope N (ps ++ pk ++ [pv]) (defScope st)) (hCX : StX.CXUp CX)
    (hb : ∀ (kV doc pm : Value) (an : Option Addr) (cdv ct : Value) (us rest ws : List Value), us.length = ps.length → ws.length = pk.length →
      bindArgs (PySem.W.fnOf name qual (defArgs st) (defBody st) (defScope st) .none kV doc pm an cdv ct) ⟨us ++ rest, pk.zip ws⟩ = (newTuple rest >>= fun t => pure ((ps ++ pk).zip (us ++ ws) ++ [(pv, t)])))
    (hbody : ∀ (cdv : Value) (A : Around) (outer : List Env) (s : Shared) (H : Hp) (vs rest zs : List V) (Q : VK) (E : XK), Room k (A.deeper (envOfC qual (defScope st) s.heap.objs.size f cdv)) → vs.length = ps.length → zs.length = pk.length → sp zs (vs ++ rest) H Q E → ∀ p, H p = none →
      ∃ t, PSs (cxOf CX P w K mg base N qual (defScope st) f cdv A outer s (upd H p (.tup rest)) E) (defBody st) t ∧ t { nx := fun _ H' => Q .non H', rt := Q } (start N (vs ++ zs ++ [V.ref p])) (upd H p (.tup rest)))
    (hlen : ∀ zs vs H Q E, sp zs vs H Q E → ps.length ≤ vs.length ∧ vs.length ≤ sizeLine) :
    FnK P w K mg base CX (k + 1) f pk sp := by
  obtain ⟨oc, od, kV, doc, pm, an, cdv, ct, osl, rfl, lk, hcd⟩ := F.ex
  intro A outer s H us ws vs zs Q E hr e0 r rz hz hsp
  obtain ⟨hl0, hl1⟩ := hlen _ _ _ _ _ hsp
  obtain ⟨v1, v2, ev, hv1⟩ : ∃ v1 v2, vs = v1 ++ v2 ∧ v1.length = ps.length := ⟨vs.take ps.length, vs.drop ps.length, (List.take_append_drop _ _).symm, by rw [List.length_take]; omega⟩
  subst ev
  obtain ⟨u1, u2, eu, r1, r2⟩ := StX.vals_split r
  subst eu
  have hn : H s.heap.objs.size = Option.none := e0.hok.fresh (Nat.le_refl _)
  have h1 : u1.length = ps.length := by rw [← r1.length]; exact hv1
  have h2 : v2.length ≤ sizeLine := by
    rw [List.length_append] at hl1
    omega
  have h3 : u2.length ≤ sizeLine := by rw [← r2.length]; exact h2
  have h4 : ws.length = pk.length := by rw [← rz.length]; exact hz
  refine StX.run_bnd lk hcd S hr e0 (G := fun xs H2 => ∃ p, H p = Option.none ∧ xs = v1 ++ zs ++ [V.ref p] ∧ H2 = upd H p (.tup v2)) (fun A' Ex Q' h => ?_) fun s2 H2 xs ⟨p, hp, ex, eH⟩ hr' => ?_
  · rw [hb kV doc pm an cdv ct u1 u2 ws h1 h4]
    refine wpAny_bind (wpAny_newTuple (wpAny_pure ?_) h3)
    have new : ObjOk P w (upd H s.heap.objs.size (.tup v2)) (s.heap.push ({ cls := .type "tuple", data := .seq u2.toArray } : Obj)) s.heap.objs.size (.tup v2) := ⟨h2, u2, r2, ⟨_, Heap.get?_push_size _ rfl, rfl, _, rfl⟩⟩
    have un := StX.un_laid (fs := frs outer) (s := s) (o := ({ cls := .type "tuple", data := .seq u2.toArray } : Obj)) (u := .tup v2) hn
    have z := h _ _ (v1 ++ zs ++ [V.ref s.heap.objs.size]) (u1 ++ ws ++ [Value.ref s.heap.objs.size]) (StX.env0_laid e0 new) un rfl (fun e s' => hCX outer s H _ _ E e s' un (fun b o q => Heap.get?_push_of_some _ q) rfl) ((r1.append rz).append (.cons rfl .nil))
      (by simp only [List.length_append, hv1, hz, List.length_cons, List.length_nil]) ⟨_, hn, rfl, rfl⟩
    rw [List.zip_append (by simp only [List.length_append, h1, h4])] at z
    exact z
  · subst ex eH
    exact hbody cdv A outer s2 H v1 v2 zs Q E hr' hv1 hz hsp p hp
end
/-- cls(e, .., k = v, ..), the i-th slot holds the class at C -/
def tClsK (i : Nat) (C : Addr) (m : Nat) (sp : List V → Sp) (E : XK) (t tk : TA) : TE := fun σ H Q => σ[i]? = some (some (.ref C)) ∧ t σ H fun vs H1 => tk σ H1 fun zs H2 => zs.length = m ∧
  ∀ x dx, H2 x = Option.none → H2 dx = Option.none → dx ≠ x → sp zs (V.ref x :: vs) (upd (upd H2 dx (.own x)) x (.ins C dx [])) (fun v H3 => v = .non ∧ Q (.ref x) H3) E
section
variable {X : Cx} {CX : CXT} {k i : Nat} {f C : Addr} {ks : List PySem.Str} {sp : List V → Sp} {E : XK} {x : PySem.Str} {p pos : Pos} {e : Expr} {es : List Expr} {kws : List Keyword} {t tk : TA}
theorem pe_clsK (M : Mk X.K C f) (F : FnK X.prog X.w X.K X.mg X.base CX k f ks sp) (hr : Room (k + 1) X.A) (hN : X.N[i]? = some x) (hv : Vis X.env.scope x) (hx : Passes CX X E) (ha : PA X (e :: es) t) (hkw : PK X kws tk)
    (hst : ((backTo pos (starEach (e :: es) X.env)).any (·.1) || (backToKw pos (keywordEach kws X.env)).any (·.1.isNone)) = true := by rfl)
    (hall : (backToKw pos (keywordEach kws X.env)).all (·.1.isSome) = true := by rfl) (hks : (backToKw pos (keywordEach kws X.env)).filterMap (·.1) = ks := by rfl)
    (hdb : (x == ("__debug__" : PySem.Str)) = false := by decide) (hcd : (x == ("__classdict__" : PySem.Str)) = false := by decide)
    (he : starEach (e :: es) X.env = (false, eval e X.env) :: starEach es X.env := by rfl) :
    PE X (.Call (.Name x p) (e :: es) kws pos) (tClsK i C ks.length sp E t tk) := by
  refine ⟨fun pins s σ H Q I h => ?_⟩
  obtain ⟨hs, ht⟩ := h
  refine wpAny_Call_Name_kw (thn ((pe_var (pos := p) hN hv hdb hcd).run pins s σ H (fun v H1 => v = .ref C ∧ H1 = H) I ⟨.ref C, hs, rfl, rfl⟩) fun u s1 ⟨v, H1, I1, r1, q1⟩ => ?_)
  obtain ⟨rfl, rfl⟩ := q1
  cases r1
  refine node hst M.kp (evalArgs_kw2 hall (thn (ha.run pos pins s1 σ _ _ I1 ht) fun us s2 ⟨vs, H2, I2, r, q⟩ => ?_) he)
  refine thn (hkw.run pos pins s2 σ H2 _ I2 q) fun ws s3 ⟨zs, H3, I3, rz, l2, q3⟩ => ⟨I3.kIn, ?_⟩
  rw [hks]
  have hq := q3 (s3.heap.objs.size + 1) s3.heap.objs.size (I3.hok.fresh (Nat.le_succ _)) (I3.hok.fresh (Nat.le_refl _)) (Nat.ne_of_lt (Nat.lt_succ_self _))
  have I4 := Inv.made (C := C) I3
  refine wpAny_call (make_map (f := f) I3.kIn M.makes M.init (beq_iff_eq.mp M.fn) (codeAny_mono (F _ X.stack _ _ (Value.ref (s3.heap.objs.size + 1) :: us) ws (V.ref (s3.heap.objs.size + 1) :: vs) zs _ E (hr.make C us (ks.zip ws))
    (I4.env0.make C us (ks.zip ws)) (.cons rfl r) rz l2 hq) fun r s' hq' => ?_))
  cases r with
  | error e => exact hx pins σ _ _ e s' I4 hq'
  | ok fl =>
    cases fl with
    | ret u =>
      obtain ⟨v, H', I5, rv, ev, q5⟩ := I4.after hq'
      subst ev
      exact ⟨rv, ⟨V.ref (s3.heap.objs.size + 1), H', I5, rfl, q5⟩⟩
    | next => exact False.elim hq'
    | brk => exact False.elim hq'
    | cont => exact False.elim hq'
end
/-- o.m(k = v, ..) -/
def tMethKw (C : Addr) (m : PySem.Str) (n : Nat) (sp : Sp) (gV : List V → List V → List V) (E : XK) (ta : TE) (tk : TA) : TE := fun σ H Q => ta σ H fun x H1 => ∃ a dx fs, x = .ref a ∧ H1 a = some (.ins C dx fs) ∧ fs.lookup m = none ∧
  tk σ H1 fun zs H2 => zs.length = n ∧ sp (gV [.ref a] zs) H2 Q E
section
variable {X : Cx} {CX : CXT} {k : Nat} {f C : Addr} {fd : FuncData} {ps ks : List PySem.Str} {sp : Sp} {E : XK} {m : PySem.Str} {apos pos : Pos} {o : Expr} {kws : List Keyword} {ta : TE} {tk : TA} {g : List Value → List Value → List Value} {gV : List V → List V → List V} {pl : Sem Bool}
theorem pe_methKw (he : PE X o ta) (c : Cls X.K C) (hm : Meth X.K C m f) (F : FnOk X.prog X.w X.K X.mg X.base CX k f fd ps sp) (hr : Room k X.A) (hb : KBn X.K fd ps 1 ks g gV) (hx : Passes CX X E) (hkw : PK X kws tk)
    (hall : (backToKw pos (keywordEach kws X.env)).all (·.1.isSome) = true := by rfl) (hks : (backToKw pos (keywordEach kws X.env)).filterMap (·.1) = ks := by rfl)
    (hpl : ((backTo pos (starEach [] X.env)).any (·.1) || (backToKw pos (keywordEach kws X.env)).any (·.1.isNone)) = false := by rfl)
    (ht : eval (.Call (.Attribute o m apos) [] kws pos) X.env = (do
      let ov ← eval o X.env
      standAt apos.atName
      let (f, first) ← holding [ov] (getMethod ov m pl)
      callWith pos f first (backTo pos (starEach [] X.env)) (backToKw pos (keywordEach kws X.env))) := by rfl) :
    PE X (.Call (.Attribute o m apos) [] kws pos) (tMethKw C m ks.length sp gV E ta tk) := by
  refine ⟨fun pins s σ H Q I h => ?_⟩
  refine PySem.W.methodCall_KW (pl := pl) (thn (he.run pins s σ H _ I h) fun u s1 ⟨x, H1, I1, rx, a, dx, fs, ex, ea, l, q⟩ => ?_) ht
  subst ex
  obtain rfl : u = Value.ref a := rx
  refine getmeth_ok I1 ea c hm l ?_
  refine PySem.W.callWith_KW0 (h₀ := X.base) I1.ok.mod.kin hm.kp hall ?_ hpl
  refine thn (hkw.run pos pins s1 σ H1 _ I1 q) fun ws s2 ⟨zs, H2, I2, rz, l2, q2⟩ => ⟨I2.kIn, ?_⟩
  rw [hks]
  exact run_fnN (us := [.ref a]) (vs := [.ref a]) F hr hb hx I2 (.cons rfl .nil) rz rfl l2 q2
end
/-- how such a call binds, of a def of the text -/
theorem kb1 {K : PySem.W.Frag} {x qual : PySem.Str} {st : Stmt} {f : Addr} {fd : FuncData} {ps ks : List PySem.Str} {g : List Value → List Value → List Value} {gV : List V → List V → List V} (F : Fun K x qual st f fd)
    (h : ∀ (kV doc pm : Value) (an : Option Addr) (cdv ct : Value) (us ws : List Value), us.length = 1 → ws.length = ks.length → bindArgs (PySem.W.fnOf x qual (defArgs st) (defBody st) (defScope st) .none kV doc pm an cdv ct) ⟨us, ks.zip ws⟩ = pure (ps.zip (g us ws)))
    (r : ∀ {vs : List V} {us : List Value} {zs : List V} {ws : List Value}, Vals vs us → Vals zs ws → Vals (gV vs zs) (g us ws)) : KBn K fd ps 1 ks g gV := by
  obtain ⟨oc, od, kV, doc, pm, an, cdv, ct, osl, rfl, lk, hcd⟩ := F.ex
  exact ⟨fun s us ws _ h1 h2 => .of_eq (h kV doc pm an cdv ct us ws h1 h2), r⟩
end Sk
set_option Elab.async false
set_option linter.all false
set_option maxRecDepth 100000
set_option maxHeartbeats 4000000
/-! Sp: sorted of a tuple of pairs whose texts differ; tuple(list) as an object that is known; dict of such a tuple. -/
namespace Sp
open PySem PyProof.Rows
/-- the text ahead in a pair -/
abbrev ltS (k : Value → PySem.Str) (x y : Value) : Bool := decide ((k x).cps.toList < (k y).cps.toList)
theorem swoS {α : Type} (k : α → PySem.Str) : SrtO.Swo fun x y : α => decide ((k x).cps.toList < (k y).cps.toList) := by
  refine ⟨fun x y h => ?_, fun x y z h1 h2 => ?_⟩
  · exact decide_eq_false fun h' => List.lt_irrefl _ (List.lt_trans (of_decide_eq_true h) h')
  · exact decide_eq_false fun h' => (List.not_lt.mpr (List.le_trans (List.not_lt.mp (of_decide_eq_false h1)) (List.not_lt.mp (of_decide_eq_false h2)))) h'
section
variable {prog : Program} {w : World} {A : Around} {E : Value → Shared → Prop} {s : Shared}
/-- a pair stands at v, its first a text -/
def TxA (k : Value → PySem.Str) (h : Heap) (v : Value) : Prop := ∃ (a : Addr) (o : Obj) (t : Tok) (z : Value) (n : Nat), v = .ref a ∧ h.get? a = some o ∧ o.cls = .type "tuple" ∧ o.data = .seq #[.str (k v) t, z] n
theorem cmpS {k : Value → PySem.Str} {vs : List Value} (hp : ∀ v ∈ vs, TxA k s.heap v) (hd : ∀ v ∈ vs, ∀ u ∈ vs, k v = k u → v = u) : SrtO.Cmp prog w A s (tuples' true) (fun p => p.1 ∈ vs) (SrtO.lt2 (ltS k)) := by
  intro p q hm hm'
  show wpAny (model prog w) A (keyLt' (tuples' true) p.1 q.1) (fun r s' => s' = s ∧ r = decide ((k p.1).cps.toList < (k q.1).cps.toList)) (fun _ _ => False) s
  have inj := hd _ hm _ hm'
  obtain ⟨a, o, t, z, n, e, ho, -, hdt⟩ := hp _ hm
  obtain ⟨a', o', t', z', n', e', ho', -, hdt'⟩ := hp _ hm'
  generalize hx : k p.1 = x at hdt inj ⊢
  generalize hy : k q.1 = y at hdt' inj ⊢
  rw [e, e'] at inj ⊢
  refine PySem.W.kat_lt ho hdt ho' hdt' ?_
  show PySem.W.KatLex prog w A true (decide (2 < 2)) _ [(.str x t, .str y t'), (z, z')] 0 s
  refine PySem.W.kat_cons (SeqAt.EqAt.str_str x t y t' prog w _ _ ?_)
  by_cases exy : x = y
  · have ea := inj exy
    cases ea
    rw [ho] at ho'
    cases ho'
    rw [hdt] at hdt'
    cases hdt'
    rw [beq_iff_eq.mpr exy]
    refine PySem.W.kat_yes (PySem.W.kat_cons (SeqAt.EqAt.same z prog w _ _ ?_))
    refine PySem.W.kat_yes (PySem.W.kat_nil ⟨rfl, ?_⟩)
    rw [decide_eq_false (List.lt_irrefl _)]
    rfl
  · rw [beq_eq_false_iff_ne.mpr exy]
    exact PySem.W.kat_no (oneLt_str ⟨rfl, rfl⟩)
theorem headsS {k : Value → PySem.Str} {h : Heap} : ∀ {vs : List Value}, (∀ v ∈ vs, TxA k h v) → ∃ fs : List Value, PySem.W.KatTups h vs fs ∧ fs.length = vs.length ∧ ∀ f ∈ fs, ∃ x t, f = Value.str x t
  | [], _ => ⟨[], PySem.W.KatTups.nil, rfl, fun _ hm => by cases hm⟩
  | v :: vs, hp => by
    obtain ⟨a, o, t, z, n, e, ho, hc, hd⟩ := hp v List.mem_cons_self
    obtain ⟨fs, g1, g2, g3⟩ := headsS (vs := vs) fun q m => hp q (List.mem_cons_of_mem _ m)
    generalize k v = x at hd
    subst e
    refine ⟨.str x t :: fs, PySem.W.KatTups.cons ho hc hd rfl g1, congrArg (· + 1) g2, fun f m => ?_⟩
    rcases List.mem_cons.mp m with rfl | m
    · exact ⟨x, t, rfl⟩
    · exact g3 f m
theorem canS {k : Value → PySem.Str} {a : Addr} {vs : List Value} (h0 : 0 < vs.length) (hp : ∀ v ∈ vs, TxA k s.heap v) (hd : ∀ v ∈ vs, ∀ u ∈ vs, k v = k u → v = u) (ha : ∀ o, s.heap.get? a = some o → o.cls ≠ .type "tuple") : SrtO.SortableO prog w A s a vs (ltS k) := fun h' keep => by
  have hp' : ∀ v ∈ vs, TxA k h' v := fun v m => by
    obtain ⟨b, o, t, z, n, e, ho, hc, hd⟩ := hp v m
    exact ⟨b, o, t, z, n, e, keep b o (fun z => ha o (z ▸ ho) hc) ho, hc, hd⟩
  obtain ⟨fs, g1, g2, g3⟩ := headsS hp'
  refine ⟨tuples' true, fun Q E hq => PySem.W.kat_kind (T := .type "str") g1 (by omega) (fun f m => ?_) (by rfl) ?_, cmpS hp' hd⟩
  · obtain ⟨x, t, rfl⟩ := g3 f m
    exact PySem.W.Looks.now
  · rw [show (Value.type "str" != Value.type "tuple") = true by decide +kernel]
    exact hq
theorem sortsT {k : Value → PySem.Str} {l : Addr} {vs : List Value} {Q : Value → Shared → Prop} (hl : IsTup s.heap l vs.toArray) (hz : vs.length ≤ sizeLine) (hp : ∀ v ∈ vs, TxA k s.heap v) (hd : ∀ v ∈ vs, ∀ u ∈ vs, k v = k u → v = u)
    (h : ∀ (h1 h' : Heap) (d : Addr) (out : List Value), SrtO.Srtd (ltS k) out → out.Perm vs → (∀ b o, s.heap.get? b = some o → h1.get? b = some o) → (∀ b o, h1.get? b = some o → h'.get? b = some o) → h1.objs.size ≤ d → (∃ n, h'.get? d = some (seqObj "list" out.toArray n)) → Q (.ref d) { s with heap := h' }) :
    wpAny (model prog w) A (call (.builtin "sorted") [.ref l]) Q E s := by
  obtain ⟨ol, hol, hcl, nl, hdl⟩ := hl
  refine Calls.call_function_entry kind_sorted plain_sorted entry_sorted (args_sorted1 _) ?_
  unfold Builtin.«sorted»
  refine wpAny_bind (m := checkCount "sorted" 1 1 _) (wpAny_pure ?_)
  refine wpAny_bind (wpAny_collect_seq l (.inr rfl) hol hcl hdl (fun h1 k1 => ?_) (by rw [List.size_toArray]; exact hz))
  rw [show vs.toArray.toList = vs by simp]
  refine wpAny_bind (wpAny_newList ?_ hz)
  have hoL : (h1.push (seqObj "list" vs.toArray 0)).get? h1.objs.size = some (seqObj "list" vs.toArray 0) := Heap.get?_push_size _ rfl
  have hS : 2 ≤ vs.length → SrtO.SortableO prog w A.in1.in1 { s with heap := h1.push (seqObj "list" vs.toArray 0) } h1.objs.size vs (ltS k) := fun h2 => by
    refine canS (by omega) (fun v m => ?_) hd fun o e c => ?_
    · obtain ⟨b, o, t, z, n, e, ho, hc, hd⟩ := hp v m
      exact ⟨b, o, t, z, n, e, Heap.get?_push_of_some _ (k1 _ _ ho), hc, hd⟩
    · cases (show some o = some (seqObj "list" vs.toArray 0) from e.symm.trans hoL)
      exact absurd (Value.type.inj c) (by decide)
  refine wpAny_bind (wpAny_holding (wpAny_call_entry slot_list_sort ⟨_, hoL, rfl⟩ entry_list_sort (SrtO.list_sort_ord (swoS k) hoL hz hS fun out hs hb => ⟨_, rfl, ?_⟩) (args_list_sort _)))
  obtain ⟨c, hc⟩ := sortedHeap_at (vs := vs) (out := out.toArray) hoL
  refine wpAny_pure ⟨_, rfl, h h1 _ h1.objs.size out hs hb.perm k1 (fun b u q => ?_) (Nat.le_refl _) ⟨c, hc⟩⟩
  have hlt := Heap.lt_size q
  rw [sortedHeap_old (Nat.ne_of_lt hlt) (by rw [size_push']; exact Nat.lt_succ_of_lt hlt)]
  exact Heap.get?_push_of_some _ q
end
open L2 PySem.Spec
theorem vals_refs : ∀ ys : List Addr, Vals (ys.map V.ref) (ys.map Value.ref)
  | [] => .nil
  | _ :: ys => .cons rfl (vals_refs ys)
section
variable {X : Cx}
/-- sorted(t), t a tuple of pairs of a text and anything, the texts all different (f says which text): the pairs in their order -/
def rSortedTS (K : PySem.W.Frag) : List V → Hp → VK → Prop := fun vs H Q => ∃ (a : Addr) (xs : List Addr) (f : Addr → PySem.Str), vs = [V.ref a] ∧ SqT K H a (xs.map V.ref) ∧ (∀ x ∈ xs, ∃ z, SqT K H x [.str (f x), z]) ∧ (∀ x ∈ xs, ∀ y ∈ xs, f x = f y → x = y) ∧
  ∀ (ys : List Addr) p, ys.Perm xs → ys.Pairwise (fun x y => ¬ (f y).cps.toList < (f x).cps.toList) → H p = none → Q (.ref p) (upd H p (.lst (ys.map V.ref)))
theorem cr_sortedTS : CallR X (.builtin "sorted") (rSortedTS X.K) := fun pins s σ H vs us Q I r h => by
  obtain ⟨a, xs, f, rfl, hs, hx, hi, q⟩ := h
  obtain ⟨its, rv, hl, hz⟩ := I.tuple hs
  obtain ⟨u, rfl, ru⟩ := vals1 r
  obtain rfl : u = Value.ref a := ru
  have ei : its = xs.map Value.ref := refs_at rv
  subst ei
  rw [List.length_map] at hz
  let k : Value → PySem.Str := fun v => match v with
    | .ref x => f x
    | _ => ""
  refine sortsT (k := k) hl (by rw [List.length_map]; exact hz) (fun v hv => ?_) (fun v hv u hu e => ?_) fun hh h' d out h1 h2 kp1 kp hd ⟨n, hn⟩ => ?_
  · obtain ⟨x, hm, rfl⟩ := List.mem_map.mp hv
    obtain ⟨z, ht⟩ := hx x hm
    obtain ⟨its2, r2, ⟨o, ho, hc, n, hd⟩, _⟩ := I.tuple ht
    obtain ⟨u1, u2, rfl, ⟨t1, rfl⟩, r4⟩ := vals2 r2
    exact ⟨x, o, t1, u2, n, rfl, ho, hc, hd⟩
  · obtain ⟨x, hm, rfl⟩ := List.mem_map.mp hv
    obtain ⟨y, hm', rfl⟩ := List.mem_map.mp hu
    exact congrArg Value.ref (hi x hm y hm' e)
  · obtain ⟨ys, rfl⟩ : ∃ ys : List Addr, out = ys.map Value.ref := by
      refine ⟨out.filterMap fun v => match v with
        | .ref x => some x
        | _ => none, ?_⟩
      have : ∀ l : List Value, (∀ v ∈ l, ∃ x, v = Value.ref x) → l = (l.filterMap fun v => match v with
        | .ref x => some x
        | _ => none).map Value.ref := fun l => by
        induction l with
        | nil => intro _; rfl
        | cons v l ih =>
          intro hl
          obtain ⟨x, rfl⟩ := hl v List.mem_cons_self
          rw [List.filterMap_cons]
          exact congrArg _ (ih fun u hu => hl u (List.mem_cons_of_mem _ hu))
      exact this out fun v hv => by
        obtain ⟨x, _, rfl⟩ := List.mem_map.mp (h2.mem_iff.mp hv)
        exact ⟨x, rfl⟩
    have hp : ys.Perm xs := by
      have := h2.filterMap fun v : Value => match v with
        | .ref x => some x
        | _ => none
      rw [List.filterMap_map, List.filterMap_map] at this
      have e : ∀ l : List Addr, l.filterMap ((fun v : Value => match v with
        | .ref x => some x
        | _ => none) ∘ Value.ref) = l := fun l => (List.filterMap_some (l := l) : l.filterMap some = l)
      rw [e, e] at this
      exact this
    refine ⟨.ref d, upd H d (.lst (ys.map V.ref)), (I.kept (t' := s.toks) kp1).laid (t' := s.toks) kp hd ⟨?_, ys.map Value.ref, n, vals_refs ys, hn⟩, rfl, q ys d hp ?_ ((I.kept (t' := s.toks) kp1).hok.fresh hd)⟩
    · rw [List.length_map, hp.length_eq]
      exact hz
    · have h3 := List.pairwise_map.mp h1
      exact h3.imp fun {x y} z => of_decide_eq_false z
/-- tuple(l), l a list: a new tuple, of which the object is known -/
theorem call_tupleF : CallR X (.type "tuple") (fun xs H Q => ∃ p ys, xs = [.ref p] ∧ SqL X.K H p ys ∧ ∀ (l : Addr) (o : Obj), H l = none → o.dict = none → Q (.ref l) (upd H l (.frz o (.tup ys)))) := by
  intro pins s σ H xs us Q I r h
  obtain ⟨p, ys, rfl, hq, q⟩ := h
  obtain ⟨u, rfl, rx⟩ := vals1 r
  cases rx
  obtain ⟨its, r', pl, hz⟩ := I.list hq
  have hlen := r'.length
  refine call_tuple_list pl.isList (fun h' kp => ?_) (by simp only [List.size_toArray] <;> omega)
  have I1 : Inv X pins σ H { s with heap := h' } := I.kept (t' := s.toks) kp
  have new : (h'.push ({ cls := .type "tuple", data := .seq its.toArray } : Obj)).get? h'.objs.size = some { cls := .type "tuple", data := .seq its.toArray } := Heap.get?_push_size _ rfl
  have I2 : Inv X pins σ (upd H h'.objs.size (.frz { cls := .type "tuple", data := .seq its.toArray } (.tup ys))) { s with heap := h'.push { cls := .type "tuple", data := .seq its.toArray } } :=
    I1.laid (t' := s.toks) (fun b o e => Heap.get?_push_of_some _ e) (Nat.le_refl _) (show ObjOk X.prog X.w _ _ _ (.frz _ (.tup ys)) from ⟨new, hz, its, r', IsTup.new _ _⟩)
  exact ⟨.ref h'.objs.size, _, I2, rfl, q _ _ (I1.hok.fresh (Nat.le_refl _)) rfl⟩
/-- dict(t), t such a tuple of pairs (key, value): later pairs win, the place is the first one's -/
theorem call_dictPT (hcalm : X.calm = true) : CallR X (.type "dict") (fun xs H Q => ∃ (a : Addr) (o : Obj) (ps : List Addr) (kvs : List (Key × V)), xs = [.ref a] ∧ H a = some (.frz o (.tup (ps.map V.ref))) ∧ o.dict = none ∧ Paired (fun p kv => SqT X.K H p [kV kv.1, kv.2]) ps kvs ∧
    ∀ p, H p = none → Q (.ref p) (upd H p (.dK (mergeK [] kvs)))) := by
  intro pins s σ H xs us Q I r q
  obtain ⟨a, o, ps, kvs, rfl, ha, hdn, hp, q⟩ := q
  obtain ⟨u, rfl, rx⟩ := vals1 r
  cases rx
  obtain ⟨hoa, hz, its, rv, o', ho', hc, n, hdat⟩ := (show ObjOk X.prog X.w H s.heap a (.frz o (.tup (ps.map V.ref))) from I.hok a _ ha)
  rw [hoa] at ho'
  cases ho'
  have ei := refs_at rv
  subst ei
  rw [List.length_map] at hz
  obtain ⟨prs, rel, hl, hpr⟩ := pairs_of I hp
  have hm : (s.heap.objs.size == sysModules) = false := beq_eq_false_iff_ne.mpr (Nat.ne_of_gt I.big)
  -- the values of the pairs
  have key : ∃ vs2 : List (Value × Value), vs2.length = prs.length ∧ ∀ (j : Nat) (k v : Value), vs2[j]? = some (k, v) → ∃ (q : Key × Value) (b : Addr), prs[j]? = some q ∧ ps[j]? = some b ∧ v = q.2 ∧ IsTup s.heap b #[k, v] ∧ keyIs q.1 k = true := by
    have ex : ∀ j : Fin prs.length, ∃ k : Value, ∃ b : Addr, ps[j.1]? = some b ∧ IsTup s.heap b #[k, (prs[j.1]'j.2).2] ∧ keyIs (prs[j.1]'j.2).1 k = true := fun j => by
      obtain ⟨b, u, e1, e2, e3⟩ := hpr j.1 (prs[j.1]'j.2) (List.getElem?_eq_getElem j.2)
      exact ⟨u, b, e1, e2, e3⟩
    obtain ⟨F, hF⟩ := Classical.axiomOfChoice ex
    refine ⟨List.ofFn fun j => (F j, (prs[j.1]'j.2).2), List.length_ofFn, fun j k v e => ?_⟩
    rw [List.getElem?_ofFn] at e
    by_cases hj : j < prs.length
    · rw [dif_pos hj] at e
      cases e
      obtain ⟨b, e1, e2, e3⟩ := hF ⟨j, hj⟩
      exact ⟨prs[j]'hj, b, List.getElem?_eq_getElem hj, e1, rfl, e2, e3⟩
    · rw [dif_neg hj] at e
      cases e
  obtain ⟨vs2, l2, k2⟩ := key
  refine PySem.call_dict_pairs (knd := mixKind X.prog X.w) (kvs := prs) (PairArg.tuple a ((ps.map Value.ref).toArray) (fun j => ps.getD j 0) vs2) (I.ok.hd hcalm) ⟨⟨o, n, hoa, hc, hdn, hdat⟩, ?_, fun j k v e => ?_⟩ ⟨l2.symm, fun i k v e => ?_⟩ (by rw [l2, hl]; exact hz) fun h' tk hd' kp => ?_
  · rw [List.size_toArray, List.length_map, l2, hl]
  · obtain ⟨q, b, e1, e2, e3, e4, e5⟩ := k2 j k v e
    have eb : ps.getD j 0 = b := by rw [List.getD_eq_getElem?_getD, e2]; rfl
    show (List.map Value.ref ps).toArray[j]? = some (Value.ref (ps.getD j 0)) ∧ PairAt s.heap (ps.getD j 0) k v
    rw [eb]
    refine ⟨by simp [e2], .inl ?_⟩
    obtain ⟨o, h1, h2, n, h3⟩ := e4
    exact ⟨o, h1, h2, n, h3⟩
  · obtain ⟨q, b, e1, e2, e3, e4, e5⟩ := k2 i k v e
    exact ⟨q.1, by rw [e1, e3], e5⟩
  · have hlen : (mergeK [] kvs).length ≤ sizeLine := by
      refine Nat.le_trans (length_mergeK kvs []) ?_
      rw [List.length_nil, Nat.zero_add, rel.length, hl]
      exact hz
    exact ⟨.ref s.heap.objs.size, upd H s.heap.objs.size (.dK (mergeK [] kvs)), I.laid (t' := tk) (fun b o e => kp b o List.not_mem_nil e) (Nat.le_refl _) (show ObjOk X.prog X.w _ _ _ (.dK (mergeK [] kvs)) from ⟨hlen, hm, merged [] prs, KV.merge rel .nil, hd'⟩), rfl, q _ (I.hok.fresh (Nat.le_refl _))⟩
end
end Sp
set_option Elab.async false
set_option linter.all false
set_option maxRecDepth 100000
set_option maxHeartbeats 4000000
/-! Sm: a text times a number. -/
namespace Sm
open PySem PySem.Spec PyProof.Rows L2
/-- a text written n times -/
def rept (x : PySem.Str) (n : Nat) : PySem.Str := ⟨(List.replicate n x.cps).foldl (· ++ ·) #[]⟩
def rMulS : R2 := fun x y H Q => ∃ (z : PySem.Str) (n : Nat), x = .str z ∧ y = .int (n : Int) ∧ 2 ≤ n ∧ n ≤ 1000 ∧ 1 ≤ z.length ∧ z.length ≤ 1000 ∧ (rept z n).length ≤ sizeLine ∧ Q (.str (rept z n)) H
section
variable {X : Cx}
theorem op_mulS : OpR X (binaryOp .Mult) rMulS := by
  intro pins s σ H x y v u Q I rx ry h
  obtain ⟨z, n, rfl, rfl, h1, h2, h3, h4, h8, q⟩ := h
  obtain ⟨t, rfl⟩ := rx
  obtain ⟨t', rfl⟩ := ry
  have e1 : ((n : Int) == 1 || z.length == 0) = false := by
    rw [Bool.or_eq_false_iff]
    exact ⟨beq_eq_false_iff_ne.mpr (by omega), beq_eq_false_iff_ne.mpr (by omega)⟩
  refine PySem.P.mul_str ?_ (fun _ _ => ?_) (fun _ _ => ?_) ?_
  · rw [decide_eq_false (by omega), decide_eq_false (by omega)]
    rfl
  · have h5 : (n : Int) * (z.length : Int) ≤ 1000 * 1000 := Int.mul_le_mul (by omega) (by omega) (by omega) (by omega)
    intro h6
    have h7 : ((2 ^ 63 - 1 : Int)) / (n : Int) ≥ 1000 := Int.le_ediv_of_mul_le (by omega) (by omega)
    omega
  · show decide (_ > sizeLine) = false
    have h5 : z.length * n ≤ 1000 * 1000 := Nat.mul_le_mul h4 h2
    rw [sizeLine_eq, Int.toNat_natCast]
    exact decide_eq_false (by omega)
  · rw [if_neg (by omega), if_neg (by rw [e1]; decide)]
    exact ⟨h8, .str (rept z n), H, I.tok _, ⟨_, rfl⟩, q⟩
end
end Sm
set_option Elab.async false
set_option linter.all false
set_option maxRecDepth 100000
set_option maxHeartbeats 4000000
/-! Xe: own exception classes over Exception, with an own __init__ that stores fields. -/
namespace PySem
namespace XeP
open Builtin Builtin.ObjectAttr HandSPX
/-- what stands behind the own classes -/
abbrev tailE : List Value := [.type "Exception", .type "BaseException", .type "object"]
def refsE : List Value → Bool
  | .ref _ :: r => refsE r
  | l => l == tailE
theorem refsE_two : ∀ l : List Value, refsE l = true → l = tailE ∨ ∃ c r, l = .ref c :: r ∧ refsE r = true
  | .ref c :: r, e => .inr ⟨c, r, rfl, e⟩
  | [], e => .inl (beq_iff_eq.mp e)
  | .none :: _, e | .ellipsis :: _, e | .notImplemented :: _, e | .bool _ :: _, e | .int _ _ :: _, e | .float _ _ :: _, e | .str _ _ :: _, e | .bytes _ _ :: _, e | .type _ :: _, e | .builtin _ :: _, e => .inl (beq_iff_eq.mp e)
theorem refsE_go (self : Value) : ∀ l : List Value, refsE l = true → refuseLoop self "__setattr__" l = pure ()
  | l, e => by
    match l, refsE_two l e with
    | _, .inl rfl => exact F.store_Exception.passes self
    | _, .inr ⟨c, r, rfl, h⟩ =>
      rw [refuseLoop_ref]
      exact refsE_go self r h
theorem refsE_has (X : String) : ∀ l : List Value, refsE l = true → l.contains (.type X) = tailE.contains (.type X)
  | l, e => by
    match l, refsE_two l e with
    | _, .inl rfl => rfl
    | _, .inr ⟨c, r, rfl, h⟩ =>
      rw [List.contains_cons, refsE_has X r h]
      rfl
theorem refsE_some {l : List Value} (e : refsE l = true) : l.isEmpty = false := by
  match l, refsE_two l e with
  | _, .inl rfl => rfl
  | _, .inr ⟨c, r, rfl, h⟩ => rfl
section
variable {prog : Program} {w : World} {A : Around} {R : Result → Shared → Prop} {hp : Heap} {g : Array GenState} {d : Drawn} {t : Nat} {os : OsState}
/-- the first field that is stored on such an exception -/
theorem first_field {K : W.Frag} {name : Str} {tk : Tok} {v : Value} {x C : Addr} {fv : Array Value} {cd : ClassData}
    (X : K.In hp) (hx : hp.get? x = some { cls := .ref C, data := .fields fv }) (hcd : W.clsIn K C = some cd) (hm : refsE cd.mro = true) (hh : cd.hasDict = true) (ha : W.findIn K (.ref C) name = some none)
    (hq : ∀ h' tk' dx, (∀ b o, b ≠ x → hp.get? b = some o → h'.get? b = some o) → hp.objs.size ≤ dx → dx ≠ x → h'.get? x = some { cls := .ref C, dict := some dx, data := .fields fv } → h'.Ns1 dx (fun y => if y = name then some v else none) → R (.ok (.ret .none)) ⟨h', g, d, tk', os⟩) :
    codeAny (model prog w) A (.call (.builtin "object.__setattr__") ⟨[.ref x, .str name tk, v], []⟩) R ⟨hp, g, d, t, os⟩ := by
  have J : W.InstAt hp x { cls := .ref C, data := .fields fv } C none := ⟨hx, rfl, rfl, trivial⟩
  have S := F.store_object
  have o1 : cd.mro.contains (.type "object") = true := (refsE_has "object" _ hm).trans (by decide +kernel)
  have xs : x ≠ hp.objs.size := Nat.ne_of_lt (Heap.lt_size hx)
  have isO : W.Looks (model prog w) hp (isInstance (.ref x) (.type "object")) true := J.type.andThen (W.looks_mroIn X (by
    unfold W.mroIn
    rw [hcd, Option.bind_some, if_neg (by rw [refsE_some hm]; decide), o1]))
  refine codeAny_call_builtin S.slot.plain S.entry ?_
  refine @W.check_slot (model prog w) _ _ ⟨hp, g, d, t, os⟩ "object.__setattr__" "object" "__setattr__" (.ref x) [.str name tk, v] [] _ S.kind S.split isO (S.args (.ref x) (.str name tk) v) ?_
  have M1 : W.Looks (model prog w) hp (mroOf (.ref C)) cd.mro := (W.looks_clsIn X hcd).andThen .now
  have M2 : W.Looks (model prog w) hp (storeTaker? none) none := .now
  have M3 : W.Looks (model prog w) hp (classData C) cd := W.looks_clsIn X hcd
  rw [W.osa_eq, refuse_eq]
  refine wpAny_bind (wpAny_bind (J.type.at (wpAny_bind (M1.at ?_))))
  rw [refsE_go _ _ hm]
  refine wpAny_pure (wpAny_bind (J.type.at (wpAny_bind ((W.looks_findIn X ha).at (wpAny_bind (M2.at ?_))))))
  show wpAny _ _ (storeInOwnDict (.ref x) (.ref C) (.str name tk) name v false) _ _ _
  obtain ⟨c1, c2, mro, c3, c4, c5, c6, c7, c8, c9, c10⟩ := cd
  dsimp only at hh
  subst hh
  unfold storeInOwnDict ownDictForStores
  repeat (first | with_reducible refine store_in_new ?_ ?_ | with_reducible refine wpAny_loadPart_at hx ?_ | with_reducible refine M3.at ?_ | wp_step)
  · exact ⟨_, #[], _, (Heap.get?_update_ne _ _ _ _ xs.symm).trans (Heap.get?_push_at rfl rfl), rfl, fun e he => absurd he (by simp), fun _ => rfl⟩
  · intro h' tk' hn' hs
    have x1 : (hp.push { cls := .type "dict", data := .dict #[] }).get? x = some { cls := .ref C, data := .fields fv } := Heap.get?_push_of_some _ hx
    refine hq h' tk' hp.objs.size (fun b o hb ho => ?_) (Nat.le_refl _) xs.symm ((hs.2 x xs).trans (Heap.get?_update_self _ x1 rfl)) hn'
    exact (hs.2 b (Nat.ne_of_lt (Heap.lt_size ho))).trans ((Heap.get?_update_ne _ _ _ _ hb).trans (Heap.get?_push_of_some _ ho))
end
end XeP
end PySem
namespace Xe
open PySem PySem.Spec PyProof.Rows L2
/-- what the written part says of such a class -/
structure OxE (K : PySem.W.Frag) (C : Addr) : Prop where
  cls : ∃ nm q N bs bm sn sub ab col dd k0 k1 k2 k3 k5, K.lookup C = some (excClassObj nm q C N bs bm true sn sub ab col dd k0 k1 k2 k3 k5 "Exception.__new__") ∧ PySem.XeP.refsE bm = true
  sa : PySem.W.findIn K (.ref C) "__setattr__" = some (some (.builtin "object.__setattr__"))
  exC : PySem.W.subIn K (.ref C) (.type "BaseException") = some true
  tyC : PySem.W.typeIn K (.ref C) = some (.type "type")
  kC : PySem.W.keepIn K (.ref C) = true
section
variable {X : Cx} {pins : List (Addr × Obj)} {σ : L2.St} {H : Hp} {s : Shared} {a C : Addr} {f : PySem.Str} {y : V} {u : Value} {Q : Unit → Shared → Prop} {E : Value → Shared → Prop} {A : Around}
/-- self.f = y, the only field -/
theorem store_one (T : OxE X.K C) (I : Inv X pins σ H s) (e : H a = some (exo a C none)) (hno : PySem.W.findIn X.K (.ref C) f = some none) (ry : RelV y u)
    (h : ∀ dx s', H dx = none → dx ≠ a → Inv X pins σ (upd (upd H dx (exd dx [(f, y)])) a (exo a C (some dx))) s' → Q () s') : wpAny (model X.prog X.w) A (setAttr (.ref a) f u) Q E s := by
  obtain ⟨nm, q, N, bs, bm, sn, sub, ab, col, dd, k0, k1, k2, k3, k5, hC, hbm⟩ := T.cls
  have hcl : PySem.W.clsIn X.K C = some { name := nm, bases := bs, mro := .ref C :: bm, ns := N, qualname := q, hasDict := true, slotNames := sn, subclasses := sub, abstract := ab, collection := col, hasDel := false } := by
    unfold PySem.W.clsIn
    rw [hC] <;> rfl
  obtain ⟨t1, ho⟩ := exo_at I.hok e
  obtain ⟨hp, g, d, t, os⟩ := s
  refine PySem.W.set_plain I.kIn (ox := { cls := .ref C, dict := none, data := .fields #[.ref t1, .none, .none, .none, .bool false, .none] }) (od := none) ⟨ho, rfl, rfl, trivial⟩ T.sa ?_
  refine PySem.XeP.first_field I.kIn ho hcl (show PySem.XeP.refsE (.ref C :: bm) = true from hbm) rfl hno (fun h' tk' dx k dn dne hx hn => ?_)
  have hnd : H dx = none := I.hok.fresh dn
  have bd : ∀ {b : Addr} {o : Obj}, hp.get? b = some o → b ≠ dx := fun {b o} q => Nat.ne_of_lt (Nat.lt_of_lt_of_le (Heap.lt_size q) dn)
  have ba : ∀ {b : Addr}, H b = none → b ≠ a := fun {b} n z => by
    rw [z, e] at n
    cases n
  have U : Un X.fs [] H (upd (upd H dx (exd dx [(f, y)])) a (exo a C (some dx))) hp h' :=
    ⟨fun b o q n _ _ => k b o (ba n) q, fun b o q n _ _ => ⟨o.slots, k b o (ba n) q⟩, fun b o q n _ => by rw [upd_ne (ba n), upd_ne (bd q)]; exact n,
      fun b o q _ => by
        by_cases hb : b = a
        · exact ⟨_, by rw [hb]; exact hx⟩
        · exact ⟨o, k b o hb q⟩,
      fun b xs q => by rw [upd_ne (at_ne e q exo_tup), upd_ne (ne_of_none q hnd)]; exact q,
      fun b o v q => by rw [upd_ne (at_ne e q exo_frz), upd_ne (ne_of_none q hnd)]; exact q,
      fun b ps q => ⟨#[], by rw [upd_ne (at_ne e q exo_tbl), upd_ne (ne_of_none q hnd), q]; simp⟩⟩
  refine h dx _ hnd dne (I.un (t' := tk') U fun b o q => ?_)
  by_cases hb : b = a
  · subst hb
    rw [upd_same] at q
    cases q
    exact exo_ok hx
  · rw [upd_ne hb] at q
    by_cases hd : b = dx
    · subst hd
      rw [upd_same] at q
      cases q
      exact exd_ok hn (relO_put (fs := []) ry fun g => True.intro)
    · rw [upd_ne hd] at q
      refine (I.hok b o q).stay (fun c v hc z => k c v (fun ec => ?_) z) (fun c hc => by rw [upd_ne (at_ne e hc exo_own), upd_ne (ne_of_none hc hnd)]; exact hc) (fun c xs hc => by rw [upd_ne (at_ne e hc exo_tup), upd_ne (ne_of_none hc hnd)]; exact hc)
      rcases hc with hc | hc
      · exact hb (hc.symm.trans ec)
      · exact at_ne e hc exo_own ec
end
/-- self.f = e, the only field of an exception that is being made -/
def tOne (K : PySem.W.Frag) (f : PySem.Str) (to te : TE) : TS := fun D σ H => te σ H fun y H1 => to σ H1 fun x H2 => ∃ a C : Addr, x = .ref a ∧ OxE K C ∧ PySem.W.findIn K (.ref C) f = some none ∧ H2 a = some (exo a C none) ∧
  ∀ dx, H2 dx = none → dx ≠ a → D.nx σ (upd (upd H2 dx (exd dx [(f, y)])) a (exo a C (some dx)))
/-- C(e, ..), the values of the fields in fs -/
def tMkE (C : Addr) (sp : Sp) (ta : TA) : L2.St → Hp → XK → Prop := fun σ H Q => ta σ H fun vs H1 => vs.length ≤ 1000 ∧ ∀ a, H1 a = none → sp (.ref a :: vs) (upd H1 a (exo a C none))
  (fun v H2 => v = .non ∧ ∃ (d : Addr) (fs : List (PySem.Str × V)), H2 a = some (exo a C (some d)) ∧ H2 d = some (exd d fs) ∧ H1 d = none ∧ Q (.ref C) (some d) (upd (del H2 a) d (.xd fs))) (fun _ _ _ => False)
section
variable {X : Cx} {o e : Expr} {es : List Expr} {to te : TE} {ta : TA} {f : PySem.Str} {p p' pos : Pos}
theorem ps_one (ho : PE X o to) (he : PE X e te) (hs : swapsWith e (some (.Attribute o f p')) pos.line X.env = pure false := by rfl) : PS X (.Assign [.Attribute o f p'] e pos) (tOne X.K f to te) := by
  refine ⟨fun pins s σ H D I h => plainObj_wpAny_Assign_Attribute (thn (he.run pins s σ H _ I h) fun v s1 ⟨y, H1, I1, r1, q1⟩ => thn (ho.run pins s1 σ H1 _ I1 q1) fun u s2 ⟨x, H2, I2, r2, a, C, ex, T, hno, ea, q⟩ => ?_) hs⟩
  subst ex
  obtain rfl : u = Value.ref a := r2
  exact store_one T I2 ea hno r1 fun dx s' n ne J => ⟨σ, _, J, q dx n ne⟩
/-- C(e, ..) for a raise -/
theorem pmk_E {CX : CXT} {x : PySem.Str} {C fI : Addr} {k : Nat} {fd : FuncData} {ps : List PySem.Str} {sp : Sp} (T : OxE X.K C) (iC : PySem.W.findIn X.K (.ref C) "__init__" = some (some (.ref fI))) (tI : PySem.W.typeIn X.K (.ref fI) = some (.type "function"))
    (F1 : FnOk X.prog X.w X.K X.mg X.base CX k fI fd ps sp) (hr : Room (k + 1) X.A) (hb : Binds X.K fd ps []) (hx : Passes CX X (fun _ _ _ => False)) (hg : Gl X x) (hm : X.mg x = some (.ref C)) (ha : PA X (e :: es) ta)
    (hdb : (x == ("__debug__" : PySem.Str)) = false := by decide) (he : starEach (e :: es) X.env = (false, eval e X.env) :: starEach es X.env := by rfl) (hpl : (backTo pos (starEach es X.env)).any (·.1) = false := by rfl) :
    PMk X (.Call (.Name x p) (e :: es) [] pos) (tMkE C sp ta) := by
  intro pins s σ H Q I h
  obtain ⟨nm, q, N, bs, bm, sn, sub, ab, col, dd, k0, k1, k2, k3, k5, hC, hbm⟩ := T.cls
  refine wpAny_Call_Name_kw (ld_glob I hg hm (PySem.W.callWith_K (h₀ := X.base) I.ok.mod.kin T.kC (thn (ha.run pos pins s σ H _ I h) fun us s1 ⟨vs, H1, I1, r1, hz, q1⟩ => ⟨I1.kIn, ?_⟩) he hpl) hdb)
  show wpAny _ _ (call (.ref C) us) _ _ _
  obtain ⟨hp, g, dr, tk, os⟩ := s1
  have n1 : H1 (hp.objs.size + 1) = none := I1.hok.fresh (Nat.le_succ _)
  have hq := q1 (hp.objs.size + 1) n1
  have kk : ∀ b o, hp.get? b = some o → ((hp.push (PySem.W.kdv_tup us)).push (PySem.HandSPX.excO C hp.objs.size)).get? b = some o := fun b o e => Heap.get?_push_of_some _ (Heap.get?_push_of_some _ e)
  have at1 : ((hp.push (PySem.W.kdv_tup us)).push (PySem.HandSPX.excO C hp.objs.size)).get? (hp.objs.size + 1) = some (PySem.HandSPX.excO C hp.objs.size) := by heap_get
  have I2 : Inv X pins σ (upd H1 (hp.objs.size + 1) (exo (hp.objs.size + 1) C none)) ⟨(hp.push (PySem.W.kdv_tup us)).push (PySem.HandSPX.excO C hp.objs.size), g, dr, tk, os⟩ := I1.laid (t' := tk) kk (Nat.le_succ _) (exo_ok at1)
  have r2 : Vals (V.ref (hp.objs.size + 1) :: vs) (Value.ref (hp.objs.size + 1) :: us) := .cons rfl r1
  have l2 : (Value.ref (hp.objs.size + 1) :: us).length = ps.length := by
    rw [← F1.len _ _ _ _ hq]
    exact (Paired.length r2).symm
  have l3 : us.length ≤ sizeLine := by
    rw [← Paired.length r1, sizeLine_eq]
    omega
  have hbb := hb ⟨(hp.push (PySem.W.kdv_tup us)).push (PySem.HandSPX.excO C hp.objs.size), g, dr, tk, os⟩ (Value.ref (hp.objs.size + 1) :: us) I2.kIn (by rw [List.append_nil]; exact l2)
  rw [List.append_nil] at hbb
  refine wpAny_call (PySem.HandSPX.call_own F.excBase_Exception (fun Y => PySem.XeP.refsE_has Y bm hbm) (I1.kIn _ _ hC) (PySem.W.looks_findIn I1.kIn iC) (fun self => PySem.W.bind_fn I1.kIn self tI) l3
    (codeAny_mono (F1.run _ X.stack _ _ ⟨Value.ref (hp.objs.size + 1) :: us, []⟩ (Value.ref (hp.objs.size + 1) :: us) _ _ (fun _ _ _ => False) (hr.make C us []) (I2.env0.make C us []) hbb r2 hq) fun r s' hq' => ?_))
  cases r with
  | error er => exact hx pins σ _ _ er s' I2 hq'
  | ok fl =>
    cases fl with
    | ret u =>
      obtain ⟨v, H2, os2, bare2, un2, hok2, rv, ev, d, fs, ea, ed, hd1, q2⟩ := hq'
      subst ev
      obtain ⟨h2, g2, d2, t2, os'⟩ := s'
      exact ⟨rv, mk_end (raises_own T.exC T.tyC) I1 (Nat.le_succ _) kk un2 hok2 os2 bare2 ea ed hd1 q2⟩
    | next => exact False.elim hq'
    | brk => exact False.elim hq'
    | cont => exact False.elim hq'
end
/-- __init__(self, v): one field -/
def sp_one (C : Addr) (f : PySem.Str) : Sp := fun vs H Q _ => ∃ (a : Addr) (v : V), vs = [.ref a, v] ∧ H a = some (exo a C none) ∧ ∀ dx, H dx = none → dx ≠ a → Q .non (upd (upd H dx (exd dx [(f, v)])) a (exo a C (some dx)))
end Xe
set_option Elab.async false
set_option linter.all false
set_option maxRecDepth 100000
set_option maxHeartbeats 4000000
/-! Xu: own exceptions as values (made by position or by name, fields read, isinstance), raised, caught by several clauses. -/
namespace PySem
namespace XuP
open Builtin Builtin.ObjectAttr HandSPX XeP PyProof.Rows
section
variable {M : Model} {A : Around} {E : Value → Shared → Prop} {h : Heap} {g : Array GenState} {d : Drawn} {t : Nat} {os : OsState}
variable {nm q : Str} {C N : Addr} {bs bm bmB : List Value} {hdct : Bool} {sn : List Str} {sub : List Value} {ab : Bool} {col : Option Bool} {dd : Option Addr} {k0 k1 k2 k3 k5 : Option Value} {B newId initId : String}
/-- the look at the arguments of __new__, keywords among them -/
theorem look_new (F : ExcBaseFacts B newId initId bmB) (hT : ∀ X : String, bm.contains (.type X) = bmB.contains (.type X)) {rest : List Value} {kw : List (Str × Value)} {Q : Unit → Shared → Prop}
    (hC : h.get? C = some (excClassObj nm q C N bs bm hdct sn sub ab col dd k0 k1 k2 k3 k5 newId)) (hq : Q () ⟨h, g, d, t, os⟩) : wpAny M A (checkBuiltinCall newId ⟨.ref C :: rest, kw⟩) Q E ⟨h, g, d, t, os⟩ := by
  have hcont : (Value.ref C :: bm).contains (.type B) = true := by rw [List.contains_cons, hT, F.hasB, Bool.or_true]
  have hstar := F.noStar
  simp only [checkBuiltinCall, F.newKind, F.newSplit, F.newRow]
  repeat (first | refine wpAny_loadPart_at hC ?_ | (refine wpAny_isSubtype_exc hC ?_; rw [hcont]) | refine wpAny_staticBase_exc hC ?_ | refine wpAny_madeBy_exc hC ?_ | simp only [bne_self_eq_false, Bool.false_eq_true, if_false] | wp_step)
  exact hq
end
section
variable {prog : Program} {w : World} {A : Around} {E : Value → Shared → Prop} {R : Result → Shared → Prop} {h : Heap} {g : Array GenState} {d : Drawn} {t : Nat} {os : OsState}
variable {nm q : Str} {C N : Addr} {bs bm bmB : List Value} {hdct : Bool} {sn : List Str} {sub : List Value} {ab : Bool} {col : Option Bool} {dd : Option Addr} {k0 k1 k2 k3 k5 : Option Value} {B newId initId : String}
theorem made_new (F : ExcBaseFacts B newId initId bmB) (hT : ∀ X : String, bm.contains (.type X) = bmB.contains (.type X)) {rest : List Value} {kw : List (Str × Value)}
    (hC : h.get? C = some (excClassObj nm q C N bs bm hdct sn sub ab col dd k0 k1 k2 k3 k5 newId))
    (hq : R (.ok (.ret (.ref (h.objs.size + 1)))) ⟨(h.push { cls := .type "tuple", data := .seq rest.toArray }).push
      { cls := .ref C, data := .fields #[.ref h.objs.size, .none, .none, .none, .bool false, .none] }, g, d, t, os⟩) (hrest : rest.length ≤ sizeLine) :
    codeAny (model prog w) A (.builtin newId ⟨.ref C :: rest, kw⟩) R ⟨h, g, d, t, os⟩ := by
  have hends := F.ends
  have hcB : (Value.ref C :: bm).contains (.type B) = true := by rw [List.contains_cons, hT, F.hasB, Bool.or_true]
  have hcA : (Value.ref C :: bm).contains (.type "AttributeError") = false := by rw [List.contains_cons, hT, F.noAttr]; rfl
  have hcN : (Value.ref C :: bm).contains (.type "NameError") = false := by rw [List.contains_cons, hT, F.noName]; rfl
  refine codeAny_builtinAt F.entry ?_
  unfold Builtin.«BaseException.__new__»
  refine wpAt_bind ?_
  show wpAt _ _ _ (stack >>= _) _ _ _
  refine wpAt_bind (wpAt_stack fun p below => wpAt_of_wpAny ?_)
  wp_walk
  refine wpAt_of_wpAny ?_
  rw [F.owner]
  repeat (first | with_reducible refine wpAny_madeHere_exc F.canon hC ?_ | with_reducible refine wpAny_loadPart_at hC ?_ | (with_reducible refine wpAny_isSubtype_exc hC ?_; first | rw [hcB] | rw [hcA] | rw [hcN]) | wp_step)
  show R _ _
  rw [Heap.size_push]
  exact hq
theorem made_type (F : ExcBaseFacts B newId initId bmB) (hT : ∀ X : String, bm.contains (.type X) = bmB.contains (.type X)) {rest : List Value} {kw : List (Str × Value)} {fI : Addr} {Q : Fin → Shared → Prop}
    (hC : h.get? C = some (excClassObj nm q C N bs bm hdct sn sub ab col dd k0 k1 k2 k3 k5 newId))
    (hi : W.Looks (model prog w) h (typeLookup (.ref C) "__init__") (some (.ref fI))) (hb : ∀ self, W.Looks (model prog w) h (bindSpecial (.ref fI) self) (.ref fI, [self])) (hrest : rest.length ≤ sizeLine)
    (hq : codeAny (model prog w) A (.call (.ref fI) ⟨.ref (h.objs.size + 1) :: rest, kw⟩)
      (fun r s' => match r with | .ok (.ret v) => v = .none ∧ Q (.done (.ret (.ref (h.objs.size + 1)))) s' | .ok _ => False | .error e => E e s')
      ⟨(h.push (W.kdv_tup rest)).push (excO C h.objs.size), g, d, t, os⟩) :
    wpAny (model prog w) A (Builtin.«type.__call__» ⟨.ref C :: rest, kw⟩) Q E ⟨h, g, d, t, os⟩ := by
  repeat (first | with_reducible refine wpAny_loadPart_at hC ?_ | with_reducible refine wpAny_madeBy_exc hC ?_ | wp_step)
  refine codeAny_call_builtin_code (Code.quiet_builtin _ F.quiet) (look_new F hT hC ?_)
  refine made_new F hT hC ?_ hrest
  show wpAny _ _ _ _ _ _
  have k : ∀ b o, h.get? b = some o → ((h.push (W.kdv_tup rest)).push (excO C h.objs.size)).get? b = some o := fun b o e => Heap.get?_push_of_some _ (Heap.get?_push_of_some _ e)
  have hC₁ := k _ _ hC
  have hget : ((h.push (W.kdv_tup rest)).push (excO C h.objs.size)).get? (h.objs.size + 1) = some (excO C h.objs.size) := by heap_get
  have hcC : (Value.ref C :: bm).contains (.ref C) = true := by simp
  have i1 := hi.keeps k
  have b1 := (hb (.ref (h.objs.size + 1))).keeps k
  unfold isInstance
  repeat (first | with_reducible refine wpAny_loadPart_at hget ?_ | (with_reducible refine wpAny_isSubtype_exc hC₁ ?_; rw [hcC]) | wp_step)
  show wpAny _ _ (typeLookup (.ref C) _) _ _ _
  refine i1.at ?_
  refine wpAny_holding (wpAny_bind (b1.at ?_))
  refine wpAny_bind (wpAny_call (codeAny_mono hq fun r s' z => ?_))
  rcases r with e | (v | _ | _ | _) <;> first | exact z | exact z.elim | skip
  obtain ⟨rfl, z⟩ := z
  first
    | exact wpAny_pure (wpAny_pure z)
    | (wp_walk; exact z)
theorem made_call (F : ExcBaseFacts B newId initId bmB) (hT : ∀ X : String, bm.contains (.type X) = bmB.contains (.type X)) {rest : List Value} {kw : List (Str × Value)} {fI : Addr}
    (hC : h.get? C = some (excClassObj nm q C N bs bm hdct sn sub ab col dd k0 k1 k2 k3 k5 newId))
    (hi : W.Looks (model prog w) h (typeLookup (.ref C) "__init__") (some (.ref fI))) (hb : ∀ self, W.Looks (model prog w) h (bindSpecial (.ref fI) self) (.ref fI, [self])) (hrest : rest.length ≤ sizeLine)
    (hq : codeAny (model prog w) (A.under (.builtin "type.__call__" ⟨.ref C :: rest, kw⟩)) (.call (.ref fI) ⟨.ref (h.objs.size + 1) :: rest, kw⟩) (W.InitBack (h.objs.size + 1) R)
      ⟨(h.push (W.kdv_tup rest)).push (excO C h.objs.size), g, d, t, os⟩) :
    codeAny (model prog w) A (.call (.ref C) ⟨rest, kw⟩) R ⟨h, g, d, t, os⟩ := by
  have f1 := tc_lookup
  have f2 := tc_bind (.ref C)
  have hTy : (⟨h, g, d, t, os⟩ : Shared).TypeIs (.ref C) "type" := ⟨_, hC, rfl⟩
  refine codeAny_of_tree ?_
  show wpAny _ _ (callAny (.ref C) _) _ _ _
  repeat (any_goals (first | assumption | with_reducible refine wpAny_loadPart_at hC ?_ | wp_step))
  refine ⟨rfl, ?_⟩
  refine codeAny_call_builtin_at (Code.quiet_builtin _ (by decide +kernel)) entry_typeCall (wpAny_check_type_call_sub hC (made_type F hT hC hi hb hrest ?_))
  refine codeAny_mono hq fun r s' z => ?_
  rcases r with e | (v | _ | _ | _) <;> exact z
end
section
variable {prog : Program} {w : World} {A : Around} {R : Result → Shared → Prop} {hp : Heap} {g : Array GenState} {d : Drawn} {t : Nat} {os : OsState}
/-- a further field -/
theorem further_field {K : W.Frag} {name : Str} {tk : Tok} {v : Value} {x C dx : Addr} {fv : Array Value} {cd : ClassData} {m0 : Str → Option Value} {nl : List Str}
    (X : K.In hp) (hx : hp.get? x = some { cls := .ref C, dict := some dx, data := .fields fv }) (hns : hp.Ns1 dx m0) (hw : Within m0 nl) (hz : nl.length ≤ 1000) (hcd : W.clsIn K C = some cd) (hm : refsE cd.mro = true) (hh : cd.hasDict = true)
    (ha : W.findIn K (.ref C) name = some none)
    (hq : ∀ h' tk', (∀ b o, b ≠ dx → hp.get? b = some o → h'.get? b = some o) → h'.Ns1 dx (fun y => if y = name then some v else m0 y) → R (.ok (.ret .none)) ⟨h', g, d, tk', os⟩) :
    codeAny (model prog w) A (.call (.builtin "object.__setattr__") ⟨[.ref x, .str name tk, v], []⟩) R ⟨hp, g, d, t, os⟩ := by
  obtain ⟨oD, esD, epD, hoD, hdD, _⟩ := hns.count hw
  have I : W.InstAt hp x { cls := .ref C, dict := some dx, data := .fields fv } C (some oD) := ⟨hx, rfl, rfl, hoD⟩
  have SF := F.store_object
  have o1 : cd.mro.contains (.type "object") = true := (refsE_has "object" _ hm).trans (by decide +kernel)
  have isO : W.Looks (model prog w) hp (isInstance (.ref x) (.type "object")) true := I.type.andThen (W.looks_mroIn X (by
    unfold W.mroIn
    rw [hcd, Option.bind_some, if_neg (by rw [refsE_some hm]; decide), o1]))
  refine codeAny_call_builtin SF.slot.plain SF.entry ?_
  refine @W.check_slot (model prog w) _ _ ⟨hp, g, d, t, os⟩ "object.__setattr__" "object" "__setattr__" (.ref x) [.str name tk, v] [] _ SF.kind SF.split isO (SF.args (.ref x) (.str name tk) v) ?_
  have M1 : W.Looks (model prog w) hp (mroOf (.ref C)) cd.mro := (W.looks_clsIn X hcd).andThen .now
  have M2 : W.Looks (model prog w) hp (storeTaker? none) none := .now
  have M3 : W.Looks (model prog w) hp (classData C) cd := W.looks_clsIn X hcd
  rw [W.osa_eq, refuse_eq]
  refine wpAny_bind (wpAny_bind (I.type.at (wpAny_bind (M1.at ?_))))
  rw [refsE_go _ _ hm]
  refine wpAny_pure (wpAny_bind (I.type.at (wpAny_bind ((W.looks_findIn X ha).at (wpAny_bind (M2.at ?_))))))
  show wpAny _ _ (storeInOwnDict (.ref x) (.ref C) (.str name tk) name v false) _ _ _
  obtain ⟨c1, c2, mro, c3, c4, c5, c6, c7, c8, c9, c10⟩ := cd
  dsimp only at hh
  subst hh
  unfold storeInOwnDict ownDictForStores
  repeat (first | with_reducible refine OEX.store_in_old hns hw hz ?_ | with_reducible refine wpAny_loadPart_at hx ?_ | with_reducible refine M3.at ?_ | wp_step)
  intro h' tk' hn' hs
  exact hq h' tk' (fun b o hb ho => (hs.2 b hb).trans ho) hn'
end
end XuP
end PySem
namespace Xu
open PySem PySem.Spec PyProof.Rows L2 Xe
/-- a new exception of the class at C stands at a, its dict at dx; all else is as it was -/
structure Made (H H' : Hp) (a dx C : Addr) (fs : List (PySem.Str × V)) : Prop where
  na : H a = none
  nd : H dx = none
  ne : dx ≠ a
  at_ : H' a = some (exo a C (some dx))
  dict : H' dx = some (exd dx fs)
  rest : ∀ b, b ≠ a → b ≠ dx → H' b = H b
theorem Made.same {H H' : Hp} {a dx C : Addr} {fs : List (PySem.Str × V)} (m : Made H H' a dx C fs) : ∀ b o, H b = some o → H' b = some o := fun b o e => by
  rw [m.rest b (fun z => by rw [z, m.na] at e; cases e) (fun z => by rw [z, m.nd] at e; cases e)]
  exact e
theorem Made.first {H : Hp} {a dx C : Addr} {f : PySem.Str} {y : V} (na : H a = some (exo a C none)) (nd : H dx = none) (ne : dx ≠ a) {H0 : Hp} (h0 : H0 a = none) (hr : ∀ b, b ≠ a → H b = H0 b) :
    Made H0 (upd (upd H dx (exd dx [(f, y)])) a (exo a C (some dx))) a dx C [(f, y)] :=
  ⟨h0, by rw [← hr dx ne]; exact nd, ne, upd_same, by rw [upd_ne ne]; exact upd_same, fun b h1 h2 => by rw [upd_ne h1, upd_ne h2]; exact hr b h1⟩
theorem Made.more {H H' : Hp} {a dx C : Addr} {fs gs : List (PySem.Str × V)} (m : Made H H' a dx C fs) : Made H (upd H' dx (exd dx gs)) a dx C gs :=
  ⟨m.na, m.nd, m.ne, by rw [upd_ne (Ne.symm m.ne)]; exact m.at_, upd_same, fun b h1 h2 => by rw [upd_ne h2]; exact m.rest b h1 h2⟩
section
variable {X : Cx} {pins : List (Addr × Obj)} {σ : L2.St} {H : Hp} {s : Shared} {a C dx : Addr} {f : PySem.Str} {fs : List (PySem.Str × V)} {y : V} {u : Value} {Q : Unit → Shared → Prop} {E : Value → Shared → Prop} {A : Around}
/-- self.f = y, a further field -/
theorem store_more (T : OxE X.K C) (I : Inv X pins σ H s) (e : H a = some (exo a C (some dx))) (ed : H dx = some (exd dx fs)) (hl : fs.length ≤ 900) (hno : PySem.W.findIn X.K (.ref C) f = some none) (ry : RelV y u)
    (h : ∀ s', Inv X pins σ (upd H dx (exd dx ((f, y) :: fs))) s' → Q () s') : wpAny (model X.prog X.w) A (setAttr (.ref a) f u) Q E s := by
  obtain ⟨nm, q, N, bs, bm, sn, sub, ab, col, dd, k0, k1, k2, k3, k5, hC, hbm⟩ := T.cls
  have hcl : PySem.W.clsIn X.K C = some { name := nm, bases := bs, mro := .ref C :: bm, ns := N, qualname := q, hasDict := true, slotNames := sn, subclasses := sub, abstract := ab, collection := col, hasDel := false } := by
    unfold PySem.W.clsIn
    rw [hC] <;> rfl
  obtain ⟨t1, ho⟩ := exo_at I.hok e
  obtain ⟨mA, hns, rel⟩ := exd_at I.hok ed
  have hw := within_of rel
  obtain ⟨hp, g, d, t, os⟩ := s
  obtain ⟨oD, _, _, hoD, _, _⟩ := hns.count hw
  refine PySem.W.set_plain I.kIn (ox := { cls := .ref C, dict := some dx, data := .fields #[.ref t1, .none, .none, .none, .bool false, .none] }) (od := some oD) ⟨ho, rfl, rfl, hoD⟩ T.sa ?_
  refine PySem.XuP.further_field I.kIn ho hns hw (by rw [List.length_map]; omega) hcl (show PySem.XeP.refsE (.ref C :: bm) = true from hbm) rfl hno (fun h' tk' k hn => ?_)
  obtain ⟨od, hod⟩ : ∃ o, h'.get? dx = some o := let ⟨o, _, _, e', _⟩ := hn; ⟨o, e'⟩
  exact h _ (I.write (t' := tk') (x := dx) (e := dx) (o := exd dx ((f, y) :: fs)) (by rw [ed]; exact True.intro) (.inl rfl) k ⟨od, hod⟩ (exd_ok hn (relO_put ry rel)))
end
/-- self.f = e in an exception's __init__ -/
def tPut (K : PySem.W.Frag) (f : PySem.Str) (to te : TE) : TS := fun D σ H => te σ H fun y H1 => to σ H1 fun x H2 => ∃ a C : Addr, x = .ref a ∧ OxE K C ∧ PySem.W.findIn K (.ref C) f = some none ∧
  ((H2 a = some (exo a C none) ∧ ∀ dx, H2 dx = none → dx ≠ a → D.nx σ (upd (upd H2 dx (exd dx [(f, y)])) a (exo a C (some dx)))) ∨
    ∃ (dx : Addr) (fs : List (PySem.Str × V)), H2 a = some (exo a C (some dx)) ∧ H2 dx = some (exd dx fs) ∧ fs.length ≤ 900 ∧ D.nx σ (upd H2 dx (exd dx ((f, y) :: fs))))
/-- the promise of an __init__ that stores its parameters in the fields gs -/
def spIni (C : Addr) (gs : List PySem.Str) : Sp := fun vs H Q _ => ∃ (a : Addr) (ws : List V) (H0 : Hp), vs = .ref a :: ws ∧ ws.length = gs.length ∧ H a = some (exo a C none) ∧ H0 a = none ∧ (∀ b, b ≠ a → H b = H0 b) ∧
  ∀ dx H', Made H0 H' a dx C (gs.zip ws).reverse → Q .non H'
section
variable {X : Cx} {o e : Expr} {es : List Expr} {to te : TE} {ta : TA} {f : PySem.Str} {p p' pos : Pos}
theorem ps_put (ho : PE X o to) (he : PE X e te) (hs : swapsWith e (some (.Attribute o f p')) pos.line X.env = pure false := by rfl) : PS X (.Assign [.Attribute o f p'] e pos) (tPut X.K f to te) := by
  refine ⟨fun pins s σ H D I h => plainObj_wpAny_Assign_Attribute (thn (he.run pins s σ H _ I h) fun v s1 ⟨y, H1, I1, r1, q1⟩ => thn (ho.run pins s1 σ H1 _ I1 q1) fun u s2 ⟨x, H2, I2, r2, a, C, ex, T, hno, q⟩ => ?_) hs⟩
  subst ex
  obtain rfl : u = Value.ref a := r2
  rcases q with ⟨ea, q⟩ | ⟨dx, fs, ea, ed, hl, q⟩
  · exact store_one T I2 ea hno r1 fun dx s' n ne J => ⟨σ, _, J, q dx n ne⟩
  · exact store_more T I2 ea ed hl hno r1 fun s' J => ⟨σ, _, J, q⟩
end
/-- what the walk of a class asks of it -/
structure ExT (K : PySem.W.Frag) (C : Addr) : Prop where
  ox : OxE K C
  xf : XfC K C
  xc : ExcC K C
/-- C(..) as a value -/
def tMkV (C : Addr) (gs : List PySem.Str) (sel : List V → List V) (ta : TA) : TE := fun σ H Q => ta σ H fun vs H1 => vs.length = gs.length ∧ ∀ a dx H2, Made H1 H2 a dx C (gs.zip (sel vs)).reverse → Q (.ref a) H2
/-- C(..) for a raise -/
def tMkR (C : Addr) (gs : List PySem.Str) (ta : TA) : L2.St → Hp → XK → Prop := fun σ H Q => ta σ H fun vs H1 => vs.length = gs.length ∧ ∀ d, H1 d = none → Q (.ref C) (some d) (upd H1 d (.xd (gs.zip vs).reverse))
section
variable {X : Cx} {CX : CXT} {C fI : Addr} {k : Nat} {fd : FuncData} {ps gs ks : List PySem.Str}
/-- the call of the class's object, by position and keywords -/
theorem run_make {pins : List (Addr × Obj)} {σ : L2.St} {H1 : Hp} {s1 : Shared} {us zs : List Value} {vs : List V} {kw : List (PySem.Str × Value)} {R : Value → Shared → Prop} (T : OxE X.K C) (iC : PySem.W.findIn X.K (.ref C) "__init__" = some (some (.ref fI))) (tI : PySem.W.typeIn X.K (.ref fI) = some (.type "function"))
    (F1 : FnOk X.prog X.w X.K X.mg X.base CX k fI fd ps (spIni C gs)) (hr : Room (k + 1) X.A) (hx : Passes CX X (fun _ _ _ => False)) (I1 : Inv X pins σ H1 s1) (hl : us.length ≤ 1000)
    (hb : ∀ (s : Shared) (self : Value), X.K.In s.heap → BindsTo s fd ⟨self :: us, kw⟩ (ps.zip (self :: zs))) (r1 : Vals vs zs) (hz : vs.length = gs.length)
    (h : ∀ a d H2 h2 g2 d2 t2 os2, (∀ b o, s1.heap.get? b = some o → ((s1.heap.push (PySem.W.kdv_tup us)).push (PySem.HandSPX.excO C s1.heap.objs.size)).get? b = some o) → a = s1.heap.objs.size + 1 → s1.heap.objs.size ≤ a →
      Un (frs X.stack) [] (upd H1 a (exo a C none)) H2 ((s1.heap.push (PySem.W.kdv_tup us)).push (PySem.HandSPX.excO C s1.heap.objs.size)) h2 → HOk X.prog X.w H2 h2 → os2 = s1.os → AllBare g2 →
      Made H1 H2 a d C (gs.zip vs).reverse → (Inv X pins σ H2 ⟨h2, g2, d2, t2, os2⟩) → R (.ref a) ⟨h2, g2, d2, t2, os2⟩) :
    wpAny (model X.prog X.w) X.A (call (.ref C) us kw) R X.xe s1 := by
  obtain ⟨nm, q, N, bs, bm, sn, sub, ab, col, dd, k0, k1, k2, k3, k5, hC, hbm⟩ := T.cls
  obtain ⟨hp, g, dr, tk, os⟩ := s1
  have n1 : H1 (hp.objs.size + 1) = none := I1.hok.fresh (Nat.le_succ _)
  have kk : ∀ b o, hp.get? b = some o → ((hp.push (PySem.W.kdv_tup us)).push (PySem.HandSPX.excO C hp.objs.size)).get? b = some o := fun b o e => Heap.get?_push_of_some _ (Heap.get?_push_of_some _ e)
  have at1 : ((hp.push (PySem.W.kdv_tup us)).push (PySem.HandSPX.excO C hp.objs.size)).get? (hp.objs.size + 1) = some (PySem.HandSPX.excO C hp.objs.size) := by heap_get
  have I2 : Inv X pins σ (upd H1 (hp.objs.size + 1) (exo (hp.objs.size + 1) C none)) ⟨(hp.push (PySem.W.kdv_tup us)).push (PySem.HandSPX.excO C hp.objs.size), g, dr, tk, os⟩ := I1.laid (t' := tk) kk (Nat.le_succ _) (exo_ok at1)
  have r2 : Vals (V.ref (hp.objs.size + 1) :: vs) (Value.ref (hp.objs.size + 1) :: zs) := .cons rfl r1
  have l3 : us.length ≤ sizeLine := by
    rw [sizeLine_eq]
    omega
  have hsp : spIni C gs (V.ref (hp.objs.size + 1) :: vs) (upd H1 (hp.objs.size + 1) (exo (hp.objs.size + 1) C none)) (fun v H2 => v = .non ∧ ∃ d, Made H1 H2 (hp.objs.size + 1) d C (gs.zip vs).reverse) (fun _ _ _ => False) :=
    ⟨_, vs, H1, rfl, hz, upd_same, n1, fun b hb => upd_ne hb, fun dx H' m => ⟨rfl, dx, m⟩⟩
  refine wpAny_call (PySem.XuP.made_call F.excBase_Exception (fun Y => PySem.XeP.refsE_has Y bm hbm) (I1.kIn _ _ hC) (PySem.W.looks_findIn I1.kIn iC) (fun self => PySem.W.bind_fn I1.kIn self tI) l3
    (codeAny_mono (F1.run _ X.stack _ _ ⟨Value.ref (hp.objs.size + 1) :: us, kw⟩ (Value.ref (hp.objs.size + 1) :: zs) _ _ (fun _ _ _ => False) (hr.make C us kw) (I2.env0.make C us kw) (hb _ _ I2.kIn) r2 hsp) fun r s' hq' => ?_))
  cases r with
  | error er => exact hx pins σ _ _ er s' I2 hq'
  | ok fl =>
    cases fl with
    | ret u =>
      have hq2 := hq'
      obtain ⟨v, H2, os2, bare2, un2, hok2, rv, ev, d, m⟩ := hq'
      subst ev
      obtain ⟨v', H', J, rv', ev', _⟩ := I2.after (Q := fun v H3 => v = V.non ∧ H3 = H2) ⟨_, H2, os2, bare2, un2, hok2, rv, rfl, rfl⟩
      obtain ⟨_, rfl⟩ := (show v' = V.non ∧ H' = H2 from ⟨ev', by assumption⟩)
      obtain ⟨h2, g2, d2, t2, os'⟩ := s'
      exact ⟨rv, h _ d _ h2 g2 d2 t2 os' kk rfl (Nat.le_succ _) un2 hok2 os2 bare2 m J⟩
    | next => exact False.elim hq'
    | brk => exact False.elim hq'
    | cont => exact False.elim hq'
end
end Xu
set_option Elab.async false
set_option linter.all false
set_option maxRecDepth 100000
set_option maxHeartbeats 4000000
/-! Xw: the rules: C(..) as a value and for a raise, e.f, isinstance of an exception (held, or caught). -/
namespace Xw
open PySem PySem.Spec PyProof.Rows L2 Xe Xu
/-- how C(k = v, ..) binds -/
structure KBE (K : PySem.W.Frag) (fd : FuncData) (ps ks : List PySem.Str) (gW : List Value → List Value) (gV : List V → List V) : Prop where
  to : ∀ (s : Shared) (self : Value) (ws : List Value), ws.length = ks.length → BindsTo s fd ⟨[self], ks.zip ws⟩ (ps.zip (self :: gW ws))
  rel : ∀ {zs : List V} {ws : List Value}, Vals zs ws → Vals (gV zs) (gW ws)
  len : ∀ zs : List V, zs.length = ks.length → (gV zs).length = ks.length
theorem kbE {K : PySem.W.Frag} {x qual : PySem.Str} {st : Stmt} {f : Addr} {fd : FuncData} {ps ks : List PySem.Str} {gW : List Value → List Value} {gV : List V → List V} (F : Fun K x qual st f fd)
    (h : ∀ (kV doc pm : Value) (an : Option Addr) (cdv ct self : Value) (ws : List Value), ws.length = ks.length → bindArgs (PySem.W.fnOf x qual (defArgs st) (defBody st) (defScope st) .none kV doc pm an cdv ct) ⟨[self], ks.zip ws⟩ = pure (ps.zip (self :: gW ws)))
    (r : ∀ {zs : List V} {ws : List Value}, Vals zs ws → Vals (gV zs) (gW ws)) (l : ∀ zs : List V, zs.length = ks.length → (gV zs).length = ks.length) : KBE K fd ps ks gW gV := by
  obtain ⟨oc, od, kV, doc, pm, an, cdv, ct, osl, rfl, lk, hcd⟩ := F.ex
  exact ⟨fun s self ws hl => .of_eq (h kV doc pm an cdv ct self ws hl), r, l⟩
section
variable {X : Cx} {CX : CXT} {x : PySem.Str} {C fI : Addr} {k : Nat} {fd : FuncData} {ps gs ks : List PySem.Str} {e : Expr} {es : List Expr} {kws : List Keyword} {ta tk : TA} {p pos : Pos} {gW : List Value → List Value} {gV : List V → List V}
/-- C(e, ..), a value -/
theorem pe_mkE (T : OxE X.K C) (iC : PySem.W.findIn X.K (.ref C) "__init__" = some (some (.ref fI))) (tI : PySem.W.typeIn X.K (.ref fI) = some (.type "function"))
    (F1 : FnOk X.prog X.w X.K X.mg X.base CX k fI fd ps (spIni C gs)) (hr : Room (k + 1) X.A) (hb : Binds X.K fd ps []) (hps : ps.length = gs.length + 1) (hx : Passes CX X (fun _ _ _ => False)) (hg : Gl X x) (hm : X.mg x = some (.ref C)) (ha : PA X (e :: es) ta)
    (hs : gs.length ≤ 900 := by decide) (hdb : (x == ("__debug__" : PySem.Str)) = false := by decide) (he : starEach (e :: es) X.env = (false, eval e X.env) :: starEach es X.env := by rfl) (hpl : (backTo pos (starEach es X.env)).any (·.1) = false := by rfl) :
    PE X (.Call (.Name x p) (e :: es) [] pos) (tMkV C gs id ta) := by
  refine ⟨fun pins s σ H Q I h => ?_⟩
  refine wpAny_Call_Name_kw (ld_glob I hg hm (PySem.W.callWith_K (h₀ := X.base) I.ok.mod.kin T.kC (thn (ha.run pos pins s σ H _ I h) fun us s1 ⟨vs, H1, I1, r1, hz, q1⟩ => ⟨I1.kIn, ?_⟩) he hpl) hdb)
  have hl : us.length = gs.length := by rw [← Paired.length r1]; exact hz
  refine run_make T iC tI F1 hr hx I1 (by show us.length ≤ 1000; omega) (fun s self k => ?_) r1 hz (fun a d H2 h2 g2 d2 t2 os2 _ _ _ _ _ _ _ m J => ⟨.ref a, H2, J, rfl, q1 a d H2 m⟩)
  have b := hb s (self :: us) k (by rw [List.append_nil, List.length_cons, hl, hps])
  rw [List.append_nil] at b
  exact b
/-- C(k = v, ..), a value -/
theorem pe_mkEK (T : OxE X.K C) (iC : PySem.W.findIn X.K (.ref C) "__init__" = some (some (.ref fI))) (tI : PySem.W.typeIn X.K (.ref fI) = some (.type "function"))
    (F1 : FnOk X.prog X.w X.K X.mg X.base CX k fI fd ps (spIni C gs)) (hr : Room (k + 1) X.A) (hb : KBE X.K fd ps ks gW gV) (hps : ks.length = gs.length) (hx : Passes CX X (fun _ _ _ => False)) (hg : Gl X x) (hm : X.mg x = some (.ref C)) (hkw : PK X kws tk)
    (hall : (backToKw pos (keywordEach kws X.env)).all (·.1.isSome) = true := by rfl) (hks : (backToKw pos (keywordEach kws X.env)).filterMap (·.1) = ks := by rfl)
    (hdb : (x == ("__debug__" : PySem.Str)) = false := by decide) (hpl : ((backTo pos (starEach [] X.env)).any (·.1) || (backToKw pos (keywordEach kws X.env)).any (·.1.isNone)) = false := by rfl) :
    PE X (.Call (.Name x p) [] kws pos) (tMkV C gs gV tk) := by
  refine ⟨fun pins s σ H Q I h => wpAny_Call_Name_kw (ld_glob I hg hm ?_ hdb)⟩
  refine PySem.W.callWith_KW0 (h₀ := X.base) I.ok.mod.kin T.kC hall ?_ hpl
  refine thn (hkw.run pos pins s σ H _ I h) fun ws s2 ⟨zs, H2, I2, rz, l2, q2⟩ => ⟨I2.kIn, ?_⟩
  rw [hks, List.append_nil]
  have l3 : zs.length = ks.length := by rw [l2, hps]
  have hw : ws.length = ks.length := by rw [← Paired.length rz]; exact l3
  exact run_make (us := []) T iC tI F1 hr hx I2 (Nat.zero_le _) (fun s self k => hb.to s self ws hw) (hb.rel rz) (by rw [hb.len zs l3, hps]) (fun a d H3 h2 g2 d2 t2 os2 _ _ _ _ _ _ _ m J => ⟨.ref a, H3, J, rfl, q2 a d H3 m⟩)
/-- C(e, ..), for a raise -/
theorem pmk_E (T : OxE X.K C) (iC : PySem.W.findIn X.K (.ref C) "__init__" = some (some (.ref fI))) (tI : PySem.W.typeIn X.K (.ref fI) = some (.type "function"))
    (F1 : FnOk X.prog X.w X.K X.mg X.base CX k fI fd ps (spIni C gs)) (hr : Room (k + 1) X.A) (hb : Binds X.K fd ps []) (hps : ps.length = gs.length + 1) (hx : Passes CX X (fun _ _ _ => False)) (hg : Gl X x) (hm : X.mg x = some (.ref C)) (ha : PA X (e :: es) ta)
    (hs : gs.length ≤ 900 := by decide) (hdb : (x == ("__debug__" : PySem.Str)) = false := by decide) (he : starEach (e :: es) X.env = (false, eval e X.env) :: starEach es X.env := by rfl) (hpl : (backTo pos (starEach es X.env)).any (·.1) = false := by rfl) :
    L2N.PMk X (.Call (.Name x p) (e :: es) [] pos) (tMkR C gs ta) := by
  intro pins s σ H Q I h
  refine wpAny_Call_Name_kw (ld_glob I hg hm (PySem.W.callWith_K (h₀ := X.base) I.ok.mod.kin T.kC (thn (ha.run pos pins s σ H _ I h) fun us s1 ⟨vs, H1, I1, r1, hz, q1⟩ => ⟨I1.kIn, ?_⟩) he hpl) hdb)
  have hl : us.length = gs.length := by rw [← Paired.length r1]; exact hz
  refine run_make T iC tI F1 hr hx I1 (by show us.length ≤ 1000; omega) (fun s self k => ?_) r1 hz (fun a d H2 h2 g2 d2 t2 os2 kk ea hle un hok ho hbare m J => ?_)
  · have b := hb s (self :: us) k (by rw [List.append_nil, List.length_cons, hl, hps])
    rw [List.append_nil] at b
    exact b
  · obtain ⟨hp, g, dr, tk0, os⟩ := s1
    obtain ⟨t0, G, J2, kG, ge, hoe, na⟩ := mk_end0 (d2 := d2) (t2 := t2) I1 hle kk un hok ho hbare m.at_ m.dict m.nd
    have eH : upd (del H2 a) d (.xd (gs.zip vs).reverse) = upd H1 d (.xd (gs.zip vs).reverse) := by
      funext b
      by_cases h1 : b = d
      · rw [h1, upd_same, upd_same]
      · rw [upd_ne h1, upd_ne h1]
        by_cases h2 : b = a
        · rw [h2, del_same, m.na]
        · rw [del_ne h2]
          exact m.rest b h2 h1
    rw [eH] at J2 na
    exact ⟨a, _, _, ⟨G, g2, d2, t2, os2⟩, _, .ref C, some d, rfl, J2, kG, ge, hoe, ⟨rfl, rfl, fun vs hv => by cases hv; rfl⟩, rfl, rfl, na, rfl, hbare, raises_own T.exC T.tyC, q1 d m.nd⟩
end
section
variable {X : Cx} {x : PySem.Str} {C : Addr} {p pos : Pos}
/-- C(), no own __init__: a value -/
theorem pe_mk0 (q : PySem.W.excIn X.K C PySem.XeP.tailE "Exception.__new__" = true) (kC : PySem.W.keepIn X.K (.ref C) = true) (hg : Gl X x) (hm : X.mg x = some (.ref C)) (hdb : (x == ("__debug__" : PySem.Str)) = false := by decide) :
    PE X (.Call (.Name x p) [] [] pos) (fun _ H Q => ∀ a, H a = none → Q (.ref a) (upd H a (exo a C none))) := by
  refine ⟨fun pins s σ H Q I h => wpAny_Call_Name_kw (ld_glob I hg hm (PySem.W.callWith_K0 I.kIn kC ?_) hdb)⟩
  obtain ⟨bm, N, nm, qn, bs, hdct, sn, sub, ab, col, dd, k0, k1, k2, k3, k5, mN, hC, hN, hni, T⟩ := exc_obj I.kIn q
  obtain ⟨hp, g, d, t, os⟩ := s
  refine wpAny_call_exc_subT F.excBase_Exception T hC hN hni (fun h' a hm => ?_) (Nat.zero_le _)
  have hn : H a = none := I.hok.gone hm.new
  obtain ⟨t1, ht, _, _⟩ := hm.there
  exact ⟨.ref a, upd H a (exo a C none), I.laidN hm.keeps hm.new hn (exo_ok ht), rfl, h a hn⟩
/-- .. for a raise -/
theorem pmk_0 (q : PySem.W.excIn X.K C PySem.XeP.tailE "Exception.__new__" = true) (kC : PySem.W.keepIn X.K (.ref C) = true) (r : Raises X (.ref C)) (hg : Gl X x) (hm : X.mg x = some (.ref C)) (hdb : (x == ("__debug__" : PySem.Str)) = false := by decide) :
    L2N.PMk X (.Call (.Name x p) [] [] pos) (fun _ H Q => Q (.ref C) none H) := by
  intro pins s σ H Q I h
  refine wpAny_Call_Name_kw (ld_glob I hg hm (PySem.W.callWith_K0 I.kIn kC ?_) hdb)
  obtain ⟨bm, N, nm, qn, bs, hdct, sn, sub, ab, col, dd, k0, k1, k2, k3, k5, mN, hC, hN, hni, T⟩ := exc_obj I.kIn q
  obtain ⟨hp, g, d, t, os⟩ := s
  refine wpAny_call_exc_subT F.excBase_Exception T hC hN hni (fun h' e hm => ?_) (Nat.zero_le _)
  exact L2N.mk_of I hm r h (I.hok.gone hm.new)
end
/-- e.f, e an exception that is held -/
def tXo (K : PySem.W.Frag) (f : PySem.Str) (te : TE) : TE := fun σ H Q => te σ H fun x H1 => ∃ (a C dx : Addr) (fs : List (PySem.Str × V)) (v : V), x = .ref a ∧ XfC K C ∧ PySem.W.findIn K (.ref C) f = some none ∧ H1 a = some (exo a C (some dx)) ∧ H1 dx = some (exd dx fs) ∧ fs.lookup f = some v ∧ Q v H1
theorem pe_xo {X : Cx} {e : Expr} {te : TE} {pos : Pos} {f : PySem.Str} (he : PE X e te) (hb : attributeBase e f X.env (eval e X.env) = eval e X.env := by rfl) : PE X (.Attribute e f pos) (tXo X.K f te) := by
  refine ⟨fun pins s σ H Q I h => attr_of hb (thn (he.run pins s σ H _ I h) fun u s1 ⟨x, H1, I1, rx, a, C, dx, fs, v, ex, T, hno, ea, ed, l, q⟩ => ?_)⟩
  subst ex
  obtain rfl : u = Value.ref a := rx
  obtain ⟨t1, ho⟩ := exo_at I1.hok ea
  obtain ⟨mA, hns, rel⟩ := exd_at I1.hok ed
  obtain ⟨od, hd, hl⟩ := lookIn_ns hns
  obtain ⟨u, hu, ru⟩ := RelO.some_of (v := v) (o := mA f) (by rw [← l]; exact rel f)
  have J : PySem.W.InstAt s1.heap a { cls := .ref C, dict := some dx, data := .fields #[.ref t1, .none, .none, .none, .bool false, .none] } C (some od) := ⟨ho, rfl, rfl, hd⟩
  exact PySem.HandSPX.exc_get I1.kIn J T.ga T.gg T.exC (PySem.W.findObj_own T.hdC hno rfl (by rw [hl, hu])) (handed_of ru) ⟨v, H1, I1.tok _, ru, q⟩
/-- at a stands an exception of the class at D -/
def HasE (X : Cx) (H : Hp) (a D : Addr) : Prop := ∀ pins σ s, Inv X pins σ H s → ∃ oe od, PySem.W.InstAt s.heap a oe D od
theorem hasE_0 {X : Cx} {H : Hp} {a D : Addr} (e : H a = some (exo a D none)) : HasE X H a D := fun pins σ s I => by
  obtain ⟨t1, ho⟩ := exo_at I.hok e
  exact ⟨_, none, ho, rfl, rfl, trivial⟩
theorem hasE_1 {X : Cx} {H : Hp} {a D dx : Addr} {fs : List (PySem.Str × V)} (e : H a = some (exo a D (some dx))) (ed : H dx = some (exd dx fs)) : HasE X H a D := fun pins σ s I => by
  obtain ⟨t1, ho⟩ := exo_at I.hok e
  obtain ⟨mA, hns, rel⟩ := exd_at I.hok ed
  obtain ⟨od, hd, hl⟩ := lookIn_ns hns
  exact ⟨_, some od, ho, rfl, rfl, hd⟩
/-- the exception that is caught, its dict tracked -/
theorem hasE_p {X : Cx} {H : Hp} {a D : Addr} {oe : Obj} {d : Option Addr} (hp : (a, oe) ∈ X.pn) (hz : Zc (.ref D) d oe) (hf : ∃ vs, oe.data = .fields vs) (hd : d = none ∨ ∃ dd fs, d = some dd ∧ H dd = some (.xd fs)) : HasE X H a D := fun pins σ s I => by
  obtain ⟨hget, _⟩ := I.pin (a, oe) (List.mem_append_left _ hp)
  obtain ⟨vs, hv⟩ := hf
  have nc : PySem.W.notCls oe = true := by unfold PySem.W.notCls; rw [hv] <;> rfl
  rcases hd with rfl | ⟨dd, fs, rfl, e⟩
  · exact ⟨oe, none, hget, hz.1, nc, by rw [hz.2]; trivial⟩
  · have hx : ObjOk X.prog X.w H s.heap dd (.xd fs) := I.hok dd _ e
    obtain ⟨mA, hns, hr⟩ := hx
    obtain ⟨od, ho, hl⟩ := lookIn_ns hns
    exact ⟨oe, some od, hget, hz.1, nc, by rw [hz.2]; exact ho⟩
section
variable {X : Cx}
/-- isinstance(e, c) -/
def rIsX (X : Cx) : List V → Hp → VK → Prop := fun xs H Q => ∃ (a D : Addr) (c : V) (u : Value) (b : Bool), xs = [.ref a, c] ∧ ExcC X.K D ∧ HasE X H a D ∧ ClsV c u ∧ PySem.W.kitOne X.K (.ref D) u = some b ∧ Q (.bl b) H
theorem call_isX : CallR X (.builtin "isinstance") (rIsX X) := by
  intro pins s σ H xs us Q I r h
  obtain ⟨a, D, c, u, b, rfl, C, hh, k, e, q⟩ := h
  obtain ⟨u1, u2, rfl, r1, r2⟩ := vals2 r
  have e2 := k.eq r2
  subst e2
  obtain rfl : u1 = Value.ref a := r1
  obtain ⟨oe, od, J⟩ := hh pins σ s I
  have hcl : (PySem.W.clsIn X.K D).isSome = true := by
    have := C.hd
    obtain ⟨cd, hc, _⟩ := PySem.W.any_some this
    rw [hc]
    rfl
  exact PySem.W.kia_one (PySem.W.kitx_exc hcl C.hg C.hk C.hs C.ha C.hn C.ht C.hm) I.kIn J e (fun z => nomatch z) fun tk => ⟨.bl b, H, I.tok tk, rfl, q⟩
/-- isinstance(e, (c1, c2, ..)) -/
def rIsXT (X : Cx) : List V → Hp → VK → Prop := fun xs H Q => ∃ (a D tp : Addr) (cs : List V) (us : List Value) (b : Bool), xs = [.ref a, .ref tp] ∧ ExcC X.K D ∧ HasE X H a D ∧ H tp = some (.tup cs) ∧ Paired ClsV cs us ∧ PySem.W.kitAny X.K (.ref D) us = some b ∧ Q (.bl b) H
theorem call_isXT : CallR X (.builtin "isinstance") (rIsXT X) := by
  intro pins s σ H xs us Q I r h
  obtain ⟨a, D, tp, cs, ws, b, rfl, C, hh, hT, k, e, q⟩ := h
  obtain ⟨u1, u2, rfl, r1, r2⟩ := vals2 r
  cases (show u2 = Value.ref tp from r2)
  obtain rfl : u1 = Value.ref a := r1
  obtain ⟨_, its, rv, o, h1, h2, n, h3⟩ := (show ObjOk X.prog X.w H s.heap tp (.tup cs) from I.hok tp _ hT)
  have e3 := ClsV.all k rv
  subst e3
  obtain ⟨oc, od', dt, sl⟩ := o
  simp only at h2 h3
  subst h2 h3
  obtain ⟨oe, od, J⟩ := hh pins σ s I
  have hcl : (PySem.W.clsIn X.K D).isSome = true := by
    have := C.hd
    obtain ⟨cd, hc, _⟩ := PySem.W.any_some this
    rw [hc]
    rfl
  exact PySem.W.kia_tup (PySem.W.kitx_exc hcl C.hg C.hk C.hs C.ha C.hn C.ht C.hm) I.kIn J h1 e (fun z => nomatch z) fun tk => ⟨.bl b, H, I.tok tk, rfl, q⟩
end
end Xw
set_option Elab.async false
set_option linter.all false
set_option maxRecDepth 100000
set_option maxHeartbeats 4000000
/-! Xv: what the written part says of an own exception class over another one that is over Exception; a def that may raise. -/
namespace Xv
open PySem PySem.Spec PyProof.Rows L2 Xe Xu Xw
section
variable {P : Program} {w : World} {K : PySem.W.Frag} {mg : PySem.Str → Option Value} {base : Heap}
/-- a def that may raise -/
theorem okXN {x qual : PySem.Str} {st : Stmt} {f : Addr} {fd : FuncData} {N ps : List PySem.Str} {k : Nat} {sp : Sp} (F : Fun K x qual st f fd) (S : FnScope N ps (defScope st)) (len : ∀ vs H Q E, sp vs H Q E → vs.length = ps.length)
    (hbody : ∀ (cdv : Value) (A : Around) (outer : List Env) (s : Shared) (H : Hp) (vs : List V) (Q : VK) (E : XK), Room k (A.deeper (envOfC qual (defScope st) s.heap.objs.size f cdv)) → sp vs H Q E →
      ∃ t, PSs (cxOf (L2N.CX P w) P w K mg base N qual (defScope st) f cdv A outer s H E) (defBody st) t ∧ t { nx := fun _ H' => Q .non H', rt := Q } (start N vs) H) : FnOk P w K mg base (L2N.CX P w) (k + 1) f fd ps sp := by
  obtain ⟨oc, od, kV, doc, pm, an, cdv, ct, osl, rfl, lk, hcd⟩ := F.ex
  exact fn_of lk hcd S len fun A outer s H vs Q E hr hsp => hbody cdv A outer s H vs Q E hr hsp
end
def mroE (C CF : Addr) : List Value := [.ref C, .ref CF, .type "Exception", .type "BaseException", .type "object"]
/-- all that is asked of such a class -/
def ecB (K : PySem.W.Frag) (C CF : Addr) (gs : List PySem.Str) : Bool :=
  (match K.lookup C with
    | some ⟨.type "type", _, .cls cd, sl⟩ => (match sl.toList with
      | [_, _, _, _, some (.builtin n), _] => n == "Exception.__new__" && (cd.mro == mroE C CF && (!cd.hasDel && cd.hasDict))
      | _ => false)
    | _ => false) &&
  (PySem.W.findIn K (.ref C) "__setattr__" == some (some (.builtin "object.__setattr__")) && (PySem.W.keepIn K (.ref C) &&
  (PySem.W.findIn K (.ref C) "__getattribute__" == some (some (.builtin "BaseException.__getattribute__")) && (PySem.W.findIn K (.ref C) "__getattr__" == some none &&
  (PySem.W.findIn K (.ref C) "__class__" == some (some (.builtin "object.__class__")) && (PySem.W.specialIn K (.builtin "object.__class__") "__get__" == some (some (.builtin "getset_descriptor.__get__")) && (PySem.W.takesIn K (.builtin "object.__class__") == some true &&
  gs.all fun f => PySem.W.findIn K (.ref C) f == some none)))))))
/-- the class at C, over the one at CF, whose instances have the fields gs -/
structure EC (K : PySem.W.Frag) (C CF : Addr) (gs : List PySem.Str) : Prop where
  ox : OxE K C
  xf : XfC K C
  xc : ExcC K C
  no : ∀ f ∈ gs, PySem.W.findIn K (.ref C) f = some none
  mro : ∃ cd, PySem.W.clsIn K C = some cd ∧ cd.mro = mroE C CF
theorem ec_of {K : PySem.W.Frag} {C CF : Addr} {gs : List PySem.Str} (h : ecB K C CF gs = true) : EC K C CF gs := by
  unfold ecB at h
  simp only [Bool.and_eq_true, beq_iff_eq, List.all_eq_true] at h
  obtain ⟨h1, h2, h3, h4, h5, h6, h7, h8, h9⟩ := h
  split at h1
  · rename_i dd cd sl ho
    split at h1
    · rename_i k0 k1 k2 k3 n k5 hs
      simp only [Bool.and_eq_true, beq_iff_eq, Bool.not_eq_true'] at h1
      obtain ⟨rfl, hm, hdel, hdct⟩ := h1
      obtain ⟨nm, bs, mro, ns, qn, hd, sn, sub, ab, col, del⟩ := cd
      dsimp only at hm hdel hdct
      subst hm hdel hdct
      have hsl : sl = #[k0, k1, k2, k3, some (.builtin "Exception.__new__"), k5] := by
        obtain ⟨l⟩ := sl
        simp only at hs
        rw [hs]
      subst hsl
      have hc : PySem.W.clsIn K C = some { name := nm, bases := bs, mro := mroE C CF, ns := ns, qualname := qn, hasDict := true, slotNames := sn, subclasses := sub, abstract := ab, collection := col, hasDel := false } := by
        unfold PySem.W.clsIn
        rw [ho] <;> rfl
      have hm : ∀ v, PySem.W.mroIn K C v = some ((mroE C CF).contains v) := fun v => by
        unfold PySem.W.mroIn
        rw [hc]
        rfl
      have eb : PySem.W.subIn K (.ref C) (.type "BaseException") = some true := (hm _).trans (by rfl)
      have ed : PySem.W.hasDictIn K C = true := by
        unfold PySem.W.hasDictIn
        rw [hc]
        rfl
      exact ⟨⟨⟨nm, qn, ns, bs, [.ref CF, .type "Exception", .type "BaseException", .type "object"], sn, sub, ab, col, dd, k0, k1, k2, k3, k5, ho, rfl⟩, h2, eb, by show (K.lookup C).map (·.cls) = _; rw [ho]; rfl, h3⟩, ⟨h4, h5, eb, ed⟩,
        ⟨h4, h5, eb, ed, h6, h7, h8, (hm _).trans (by rfl)⟩, h9, _, hc, rfl⟩
    · cases h1
  · cases h1
section
variable {K : PySem.W.Frag} {C D CF : Addr} {gs fs : List PySem.Str}
theorem EC.sub (E : EC K D CF gs) (v : Value) : PySem.W.subIn K (.ref D) v = some ((mroE D CF).contains v) := by
  obtain ⟨cd, hc, hm⟩ := E.mro
  show PySem.W.mroIn K D v = _
  unfold PySem.W.mroIn
  rw [hc, Option.bind_some, hm]
  rfl
theorem EC.cls (E : EC K D CF gs) : ((PySem.W.clsIn K D).isSome && PySem.W.typeIn K (.ref D) == some (.type "type")) = true := by
  obtain ⟨cd, hc, hm⟩ := E.mro
  rw [hc, E.ox.tyC]
  rfl
theorem EC.kit (E : EC K D CF gs) (F : EC K C CF fs) (n : C ≠ CF) : PySem.W.kitCls K (.ref D) (.ref C) = some (decide (D = C)) := by
  show (if ((PySem.W.clsIn K C).isSome && PySem.W.typeIn K (.ref C) == some (.type "type")) = true then PySem.W.subIn K (.ref D) (.ref C) else none) = _
  rw [if_pos F.cls, E.sub]
  have n2 : (Value.ref C == Value.ref CF) = false := beq_eq_false_iff_ne.mpr fun z => n (Value.ref.inj z)
  have r : ([Value.type "Exception", .type "BaseException", .type "object"]).contains (Value.ref C) = false := rfl
  congr 1
  show (Value.ref D :: Value.ref CF :: _).contains (Value.ref C) = _
  rw [List.contains_cons, List.contains_cons, n2, r, Bool.or_false, Bool.or_false]
  by_cases e : D = C
  · subst e
    simp
  · rw [decide_eq_false e]
    exact beq_eq_false_iff_ne.mpr fun z => e (Value.ref.inj z).symm
theorem EC.kitOne (E : EC K D CF gs) (F : EC K C CF fs) (n : C ≠ CF) : PySem.W.kitOne K (.ref D) (.ref C) = some (decide (D = C)) := by
  unfold PySem.W.kitOne
  by_cases e : D = C
  · subst e
    rw [if_pos (by simp)]
    simp
  · rw [if_neg (by simpa using e)]
    exact E.kit F n
theorem EC.exm (E : EC K D CF gs) (F : EC K C CF fs) (n : C ≠ CF) : PySem.W.exmOne K (.ref D) (.ref C) = some (decide (D = C)) := by
  unfold PySem.W.exmOne
  rw [if_pos (by rw [F.xf.exC]; rfl)]
  exact E.kit F n
/-- the class at CF itself -/
def cfB (K : PySem.W.Frag) (CF : Addr) : Bool := ((PySem.W.clsIn K CF).isSome && PySem.W.typeIn K (.ref CF) == some (.type "type")) && PySem.W.subIn K (.ref CF) (.type "BaseException") == some true
theorem EC.kitF (E : EC K D CF gs) (h : cfB K CF = true) : PySem.W.kitCls K (.ref D) (.ref CF) = some true := by
  unfold cfB at h
  rw [Bool.and_eq_true] at h
  show (if ((PySem.W.clsIn K CF).isSome && PySem.W.typeIn K (.ref CF) == some (.type "type")) = true then PySem.W.subIn K (.ref D) (.ref CF) else none) = _
  rw [if_pos h.1, E.sub]
  congr 1
  show (Value.ref D :: Value.ref CF :: _).contains (Value.ref CF) = true
  rw [List.contains_cons, List.contains_cons]
  simp
theorem EC.kitOneF (E : EC K D CF gs) (h : cfB K CF = true) : PySem.W.kitOne K (.ref D) (.ref CF) = some true := by
  unfold PySem.W.kitOne
  split
  · rfl
  · exact E.kitF h
theorem EC.exmF (E : EC K D CF gs) (h : cfB K CF = true) : PySem.W.exmOne K (.ref D) (.ref CF) = some true := by
  have h' := h
  unfold cfB at h'
  rw [Bool.and_eq_true] at h'
  unfold PySem.W.exmOne
  rw [if_pos h'.2]
  exact E.kitF h
theorem EC.kitT (E : EC K D CF gs) {T : String} (h : PySem.W.kitMeta T = true) : PySem.W.kitOne K (.ref D) (.type T) = some (([Value.type "Exception", .type "BaseException", .type "object"]).contains (.type T)) := by
  unfold PySem.W.kitOne
  rw [if_neg (by simp)]
  show (if PySem.W.kitMeta T = true then PySem.W.subIn K (.ref D) (.type T) else none) = _
  rw [if_pos h, E.sub]
  unfold mroE
  rw [List.contains_cons, List.contains_cons]
  rfl
end
end Xv
set_option Elab.async false
set_option linter.all false
set_option maxRecDepth 100000
set_option maxHeartbeats 4000000
/-! Xt: try with several except clauses, with and without a name; a def called in an except suite with the exception that is caught. -/
namespace Xt
open PySem PySem.Spec PyProof.Rows L2 L2H
abbrev HdT := Value × Option Nat × (Addr → Value → Option Addr → TS)
/-- the ends of a suite whose name goes -/
def endsA (D : Ends) (i : Nat) : Ends := { nx := fun σ' H' => D.nx (σ'.set i none) H', rt := D.rt, bk := fun σ' H' => D.bk (σ'.set i none) H', ct := fun σ' H' => D.ct (σ'.set i none) H' }
/-- what the clauses wish of an exception of the body, one after the other -/
def wMix (K : PySem.W.Frag) (Wout : WX) (D : Ends) : List HdT → WX
  | [] => Wout
  | (c, none, ts) :: r => fun cls d σ H => ∃ b, PySem.W.exmOne K cls c = some b ∧ (b = true → ∀ a, H a = none → ts a cls d D σ H) ∧ (b = false → wMix K Wout D r cls d σ H)
  | (c, some i, ts) :: r => fun cls d σ H => ∃ b, PySem.W.exmOne K cls c = some b ∧ (b = true → ∀ a, H a = none → ts a cls d (endsA D i) (σ.set i (some (.ref a))) H) ∧ (b = false → wMix K Wout D r cls d σ H)
inductive HdsX (X : Cx) : List ExceptHandler → List HdT → Prop
  | nil : HdsX X [] []
  | bare {x : PySem.Str} {c : Value} {ts : Addr → Value → Option Addr → TS} {b₀ : Stmt} {suite : List Stmt} {np pos' : Pos} {hds : List ExceptHandler} {l : List HdT} (hc : Names X x c)
      (hsu : ∀ (a : Addr) (oe : Obj) (cls : Value) (d : Option Addr) (pn : List (Addr × Obj)), L2N.Zn cls d oe → (∃ vs, oe.data = .fields vs) → PSs (X.suite a ((a, oe) :: pn)) (b₀ :: suite) (ts a cls d)) (r : HdsX X hds l) :
      HdsX X (.ExceptHandler (some (.Name x np)) none (b₀ :: suite) pos' :: hds) ((c, none, ts) :: l)
  | named {x n : PySem.Str} {i : Nat} {c : Value} {ts : Addr → Value → Option Addr → TS} {b₀ : Stmt} {suite : List Stmt} {np pos' : Pos} {hds : List ExceptHandler} {l : List HdT} (hc : Names X x c) (hi : X.N[i]? = some n) (hln : X.env.kindOf n = some .local)
      (hsu : ∀ (a : Addr) (oe : Obj) (cls : Value) (d : Option Addr) (pn : List (Addr × Obj)), L2N.Zn cls d oe → (∃ vs, oe.data = .fields vs) → PSs (X.suite a ((a, oe) :: pn)) (b₀ :: suite) (ts a cls d)) (r : HdsX X hds l) :
      HdsX X (.ExceptHandler (some (.Name x np)) (some n) (b₀ :: suite) pos' :: hds) ((c, some i, ts) :: l)
section
variable {X : Cx} {body : List Stmt} {h₀ : ExceptHandler} {hds : List ExceptHandler} {l : List HdT} {pos : Pos} {tb : WX → TS} {Wout : WX}
theorem ps_try_mix (hs : X.stack = X.env :: X.outer) (hf : X.env.frame = some X.env.locals) (hN : X.N.Nodup) (tk : L2N.Takes X Wout)
    (hb : ∀ (W : WX) (pn : List (Addr × Obj)) (xe : Value → Shared → Prop), L2N.Takes (X.tr pn xe) W → PassesOwn (model X.prog X.w) X.A X.env xe → PSs (X.tr pn xe) body (tb W))
    (hh : HdsX X (h₀ :: hds) l) : PS X (.Try body (h₀ :: hds) [] [] pos) (fun D σ H => tb (wMix X.K Wout D l) D σ H) := by
  refine ⟨fun pins s σ H D I h => ?_⟩
  have ok := I.ok
  have hfr : X.A.frames = some (X.env :: X.outer) := by rw [ok.frames, hs]
  refine wpAny_Try_except (wpAny_mono ((hb (wMix X.K Wout D l) (X.pn ++ pins) (fun e s₁ => wpAny (model X.prog X.w) X.A (noteFrame e X.env) (fun _ s₂ => wpAny (model X.prog X.w) X.A (setFlight e none) (fun _ s₃ =>
    wpAny (model X.prog X.w) X.A (handleBy e X.env (h₀ :: hds)) (SP X pins D) X.xe s₃) X.xe s₂) X.xe s₁) (fun u s' xx => ?_) PassesOwn.looking).run [] s σ H D (I.toTry _) h) (fun f s1 hsp => ?_) (fun e s1 he => he))
  · obtain ⟨a, B, sI, pins', σ', H', cls, d, rfl, J', nb, up, sky, na, os, ag, w⟩ := xx
    have J : Inv X pins σ' H' sI := J'.ofTry ok
    have sky' : Sky B (X.env :: X.outer) a (L2N.Zn cls d) X.env.locals s'.heap := by rw [← hs]; exact sky
    show wpAny (model X.prog X.w) X.A (noteFrame (.ref a) X.env) _ _ _
    refine L2N.Sky.land L2N.Zn.steady hfr hf sky' fun h3 fl3 up3 => ?_
    have J3 : Inv X pins σ' H' { s' with heap := h3 } := J.landed nb fl3.1 (up.trans up3) os ag
    obtain ⟨oe3, vs3, he3, hz3, hd3⟩ := fl3.there
    have nfr : a ∉ frs (X.env :: X.outer) := fun hm => by
      obtain ⟨_, o', e', hnf⟩ := fl3.2.2.1.mem hm
      rw [he3] at e'
      cases e'
      exact hnf _ hd3
    have nL : a ≠ X.env.locals := fun z => nfr (List.mem_filterMap.mpr ⟨X.env, List.mem_cons_self, by rw [hf, z]⟩)
    have nF : a ∉ X.fs := fun hm => by
      obtain ⟨e, he, q⟩ := List.mem_filterMap.mp hm
      exact nfr (List.mem_filterMap.mpr ⟨e, List.mem_cons_of_mem _ he, q⟩)
    have S3 := J3.suite he3 hd3 na nL nF
    have LT : PySem.W.Looks (model X.prog X.w) h3 (typeOf (.ref a)) cls := fun A Q E s k q => wpAny_typeOf_ref (k _ _ he3) (by rw [hz3.1]; exact q)
    have test : ∀ {x : PySem.Str} {c : Value} {np : Pos}, Names X x c → ∀ {Q : Value → Shared → Prop} {E : Value → Shared → Prop}, Q c { s' with heap := h3 } → wpAny (model X.prog X.w) (X.A.mark (some (.ref a))) (eval (.Name x np) X.env) Q E { s' with heap := h3 } := fun {x c np} hc {Q E} q => by
      obtain ⟨hg, hdbg, hm | ⟨hm, hv, hnn⟩⟩ := hc
      · exact ld_glob (X := X.suite a ((a, oe3) :: (X.pn ++ pins))) S3 hg hm q hdbg
      · exact ld_blt (X := X.suite a ((a, oe3) :: (X.pn ++ pins))) S3 hg hm hv q hnn hdbg
    have go : ∀ {hds' : List ExceptHandler} {l' : List HdT}, HdsX X hds' l' → wMix X.K Wout D l' cls d σ' H' →
        wpAny (model X.prog X.w) X.A (handleBy (.ref a) X.env hds') (SP X pins D) X.xe { s' with heap := h3 } := by
      intro hds' l' hk
      induction hk with
      | nil =>
        intro w
        refine wpAny_handleBy_nil ?_
        obtain ⟨k1, k2, k3, oe, vs, T, oT, ts', he, hz, hd, h1, hr⟩ := id fl3
        unfold PySem.passOn
        refine wpAny_bind (wpAny_field he hd h1 ?_)
        rw [if_neg (show ¬ ((Value.ref T == Value.none) = true) from by simp)]
        have fin : wpAny (model X.prog X.w) X.A (setFlight (.ref a) X.env.frame) (fun _ s4 => wpAny (model X.prog X.w) X.A (throw (.ref a) : Sem Flow) (SP X pins D) X.xe s4) X.xe { s' with heap := h3 } := by
          rw [hf]
          exact HandSPX.setFlight_upZ fl3 fun h4 hh4 up4 => wpAny_throw (tk _ _ ⟨a, B, sI, pins, σ', H', cls, d, rfl, J, nb, (up.trans up3).trans up4, .inr (.inr (by rw [hs]; exact hh4)), na, os, ag, w⟩)
        first
          | exact wpAny_bind (wpAny_pure (wpAny_bind fin))
          | exact wpAny_bind fin
      | @bare x c ts b₀ suite np pos' hds2 l2 hc hsu r ih =>
        intro w
        obtain ⟨b, hb1, hyes, hno⟩ := w
        refine wpAny_handleBy_cons (codeAny_handlers_test (test hc ((PySem.W.exm_one (M := model X.prog X.w) J3.kIn LT hb1).here ?_))) (by intro q; cases q)
        cases b with
        | false => exact ih (hno rfl)
        | true =>
          refine codeAny_handlers_suite (HandSPX.lands_againZ fl3 fun h4 fl4 up4 => ?_)
          have J4 : Inv X pins σ' H' { s' with heap := h4 } := J.landed nb fl4.1 ((up.trans up3).trans up4) os ag
          obtain ⟨oe4, vs4, he4, hz4, hd4⟩ := fl4.there
          have S4 := J4.suite he4 hd4 na nL nF
          refine wpAny_mono ((hsu a oe4 cls d (X.pn ++ pins) hz4 ⟨_, hd4⟩).run [] _ _ H' _ S4 (hyes rfl a na)) (fun f s6 hsp => ?_) (fun _ _ z => False.elim z)
          cases f with
          | next => exact let ⟨σ6, H6, S6, q6⟩ := hsp; ⟨_, _, S6.unsuite ok, q6⟩
          | brk => exact let ⟨σ6, H6, S6, q6⟩ := hsp; ⟨_, _, S6.unsuite ok, q6⟩
          | cont => exact let ⟨σ6, H6, S6, q6⟩ := hsp; ⟨_, _, S6.unsuite ok, q6⟩
          | ret u => exact let ⟨v6, σ6, H6, S6, r6, q6⟩ := hsp; ⟨_, _, _, S6.unsuite ok, r6, q6⟩
      | @named x n i c ts b₀ suite np pos' hds2 l2 hc hi hln hsu r ih =>
        intro w
        obtain ⟨b, hb1, hyes, hno⟩ := w
        refine wpAny_handleBy_cons (codeAny_handlers_test (test hc ((PySem.W.exm_one (M := model X.prog X.w) J3.kIn LT hb1).here ?_))) (by intro q; cases q)
        cases b with
        | false => exact ih (hno rfl)
        | true =>
          refine codeAny_handlers_suite_as (HandSPX.lands_againZ fl3 fun h4 fl4 up4 => ?_)
          have J4 : Inv X pins σ' H' { s' with heap := h4 } := J.landed nb fl4.1 ((up.trans up3).trans up4) os ag
          obtain ⟨oe4, vs4, he4, hz4, hd4⟩ := fl4.there
          have S4 := J4.suite he4 hd4 na nL nF
          have hloc : Loc X.env.scope n := .inl hln
          refine store_ok (X := X.suite a ((a, oe4) :: (X.pn ++ pins))) (v := .ref a) S4 hN hi hloc rfl (fun s5 S5 => ?_) (.inr hln)
          refine wpAny_mono ((hsu a oe4 cls d (X.pn ++ pins) hz4 ⟨_, hd4⟩).run [] s5 _ H' _ S5 (hyes rfl a na)) (fun f s6 hsp => ?_) (fun _ _ z => False.elim z)
          have end_ : ∀ {σ6 : L2.St} {H6 : Hp} {Q : Shared → Prop}, Inv (X.suite a ((a, oe4) :: (X.pn ++ pins))) [] σ6 H6 s6 → (∀ s7, Inv X pins (σ6.set i none) H6 s7 → Q s7) →
              wpAny (model X.prog X.w) X.A (do bindName X.env n .none; unbindBehindTheSuite X.env n pos') (fun _ s7 => Q s7) X.xe s6 := fun {σ6 H6 Q} S6 hq => gone_ok (S6.unsuite ok) hN hi hln hq
          cases f with
          | next => exact let ⟨σ6, H6, S6, q6⟩ := hsp; end_ S6 fun s7 J7 => ⟨_, _, J7, q6⟩
          | brk => exact let ⟨σ6, H6, S6, q6⟩ := hsp; end_ S6 fun s7 J7 => ⟨_, _, J7, q6⟩
          | cont => exact let ⟨σ6, H6, S6, q6⟩ := hsp; end_ S6 fun s7 J7 => ⟨_, _, J7, q6⟩
          | ret u => exact let ⟨v6, σ6, H6, S6, r6, q6⟩ := hsp; end_ S6 fun s7 J7 => ⟨_, _, _, J7, r6, q6⟩
    exact go hh w
  · cases f with
    | next => exact let ⟨σ', H', J', q⟩ := hsp; wpAny_execs_nil ⟨σ', H', J'.ofTry ok, q⟩
    | brk => exact let ⟨σ', H', J', q⟩ := hsp; ⟨σ', H', J'.ofTry ok, q⟩
    | cont => exact let ⟨σ', H', J', q⟩ := hsp; ⟨σ', H', J'.ofTry ok, q⟩
    | ret u => exact let ⟨v, σ', H', J', r, q⟩ := hsp; ⟨v, σ', H', J'.ofTry ok, r, q⟩
end
/-- what is known of the exception that is caught -/
def CtP (p : Addr × Obj) (cls : Value) (d : Option Addr) : Prop := L2N.Zn cls d p.2 ∧ ∃ vs, p.2.data = .fields vs
/-- a def's promise in an except suite; a, cls, d: the exception that is caught, its class, its dict -/
structure FnP (P : Program) (w : World) (K : PySem.W.Frag) (mg : PySem.Str → Option Value) (base : Heap) (k : Nat) (f : Addr) (fd : FuncData) (ps : List PySem.Str) (sp : Addr → Value → Option Addr → Sp) : Prop where
  len : ∀ a c d vs H Q E, sp a c d vs H Q E → vs.length = ps.length
  run : ∀ (A : Around) (outer : List Env) (s : Shared) (H : Hp) (args : Args) (us : List Value) (vs : List V) (Q : VK) (p : Addr × Obj) (c : Value) (d : Option Addr), CtP p c d → RoomH k A → Hot1 A p → PinOk outer H s p → Env0 P w K mg base A outer s H → BindsTo s fd args (ps.zip us) → Vals vs us → sp p.1 c d vs H Q E0 →
    codeAny (model P w) A (.call (.ref f) args) (CR CX0 outer P w H s Q E0) s
section
variable {P : Program} {w : World} {K : PySem.W.Frag} {mg : PySem.Str → Option Value} {base : Heap}
theorem okP {x qual : PySem.Str} {st : Stmt} {f : Addr} {fd : FuncData} {N ps : List PySem.Str} {k : Nat} {sp : Addr → Value → Option Addr → Sp} (F : Fun K x qual st f fd) (S : FnScope N ps (defScope st))
    (len : ∀ a c d vs H Q E, sp a c d vs H Q E → vs.length = ps.length)
    (hbody : ∀ (cdv : Value) (A : Around) (outer : List Env) (s : Shared) (H : Hp) (vs : List V) (Q : VK) (p : Addr × Obj) (c : Value) (d : Option Addr), CtP p c d → Hot1 A p → RoomH k (A.deeper (envOfC qual (defScope st) s.heap.objs.size f cdv)) → sp p.1 c d vs H Q E0 →
      ∃ t, PSs (cxH CX0 P w K mg base N qual (defScope st) f cdv A outer s H E0 p) (defBody st) t ∧ t { nx := fun _ H' => Q .non H', rt := Q } (L2.start N vs) H) :
    FnP P w K mg base (k + 1) f fd ps sp := by
  obtain ⟨oc, od, kV, doc, pm, an, cdv, ct, osl, rfl, lk, hcd⟩ := F.ex
  refine ⟨len, fun A outer s H args us vs Q p c d hz hr hot hpin e0 hb r hsp => ?_⟩
  have hl := len _ _ _ _ _ _ _ hsp
  have kept : ∀ b o, base.get? b = some o → s.heap.get? b = some o := fun b o e => (e0.bs b o e).1
  have known : ∀ y ∈ ps.zip us, (defScope st).names.lookup y.1 = some .local ∨
      ((defScope st).names.lookup y.1 = some .cell ∧ ((cellsFrom (s.heap.objs.size + 1) (defScope st).names []).lookup y.1).isSome = true) := fun ⟨n, v⟩ hy =>
    (S.par n (List.of_mem_zip hy).1).elim .inl fun q => .inr ⟨q, PySem.W.cellsFrom_some _ _ _ (.inl q)⟩
  refine codeAny_call_function hr.depth (e0.mod.kin.keeps kept _ _ lk) rfl S.co S.gen rfl (PySem.W.codeRec_of (e0.mod.kin.keeps kept) hcd) (hb _ _ _ _ ?_)
  refine wpAny_newFunctionEnv_cells S.kind known fun env he s1 x => ?_
  subst he
  refine ⟨(e0.mod.nolimit.keeps kept).keeps x.toInCall.keep, codeAny_func ?_⟩
  obtain ⟨t, ht, hq⟩ := hbody cdv A outer s H vs Q p c d hz hot (hr.deeper _) hsp
  refine wpAny_mono (ht.run [] s1 (L2.start N vs) H _ (inv_startH S hpin e0 hl r x) hq) (fun fl s' hs => ?_) fun e s' hs => hs
  cases fl with
  | ret u =>
    obtain ⟨v, σ', H', J, rv, q⟩ := hs
    exact ⟨v, H', J.os, J.bare, J.base, J.hok, rv, q⟩
  | next =>
    obtain ⟨σ', H', J, q⟩ := hs
    exact ⟨V.non, H', J.os, J.bare, J.base, J.hok, rfl, q⟩
  | brk => exact hs.elim fun _ z => z.elim fun _ z => z.2.elim
  | cont => exact hs.elim fun _ z => z.elim fun _ z => z.2.elim
end
section
variable {X : Cx} {k : Nat} {f : Addr} {fd : FuncData} {ps : List PySem.Str} {sp : Addr → Value → Option Addr → Sp} {x : PySem.Str} {q pos : Pos} {e : Expr} {es : List Expr} {t : TA} {a : Addr} {oe : Obj} {cls : Value} {d : Option Addr}
theorem pe_callP (F : FnP X.prog X.w X.K X.mg X.base k f fd ps sp) (hr : RoomH k X.A) (hz : L2N.Zn cls d oe) (hf : ∃ vs, oe.data = .fields vs) (hh : X.A.handled = some (.ref a)) (hp : (a, oe) ∈ X.pn) (hg : Gl X x) (hm : X.mg x = some (.ref f)) (hk : PySem.W.keepIn X.K (.ref f) = true) (hb : Binds X.K fd ps [])
    (ha : PA X (e :: es) t) (hdb : (x == ("__debug__" : PySem.Str)) = false := by decide) (he : starEach (e :: es) X.env = (false, eval e X.env) :: starEach es X.env := by rfl) (hpl : (backTo pos (starEach es X.env)).any (·.1) = false := by rfl) :
    PE X (.Call (.Name x q) (e :: es) [] pos) (fun σ H Q => t σ H fun vs H1 => sp a cls d vs H1 Q E0) := by
  refine ⟨fun pins s σ H Q I h => wpAny_Call_Name_kw (ld_glob I hg hm ?_ hdb)⟩
  refine PySem.W.callWith_K (h₀ := X.base) I.ok.mod.kin hk (thn (ha.run pos pins s σ H _ I h) fun us s1 ⟨vs, H1, I1, r, q⟩ => ⟨I1.kIn, ?_⟩) he hpl
  have hl : us.length = ps.length := by rw [← r.length]; exact F.len _ _ _ _ _ _ _ q
  have b := hb s1 us I1.kIn (by rw [List.append_nil]; exact hl)
  rw [List.append_nil] at b
  have P1 := I1.pin (a, oe) (List.mem_append_left _ hp)
  have hpin : PinOk X.stack H1 s1 (a, oe) := ⟨P1.1, P1.2.1, fun hm => (List.mem_cons.mp (I1.stkSub a hm)).elim P1.2.2.1 P1.2.2.2.1, P1.2.2.2.2⟩
  obtain ⟨vs0, hv0⟩ := hf
  refine wpAny_call (codeAny_mono (F.run X.A X.stack s1 H1 ⟨us, []⟩ us vs Q (a, oe) cls d ⟨hz, vs0, hv0⟩ hr ⟨hh, vs0, hv0, hz.2.2 vs0 hv0⟩ hpin I1.env0 b r q) fun r s' hq => ?_)
  cases r with
  | error e => exact hq.elim
  | ok fl =>
    cases fl with
    | ret u => exact I1.after hq
    | next => exact hq.elim
    | brk => exact hq.elim
    | cont => exact hq.elim
end
/-- room for a def in a suite -/
theorem room_suite {k : Nat} {A : Around} (r : Room k A) (h : Option Value) : RoomH k (A.mark h) := ⟨r.dp, r.un⟩
theorem takes0 {X : Cx} : L2N.Takes X (fun _ _ _ _ => False) := fun _ _ ⟨_, _, _, _, _, _, _, _, _, _, _, _, _, _, _, _, z⟩ => z.elim
end Xt
set_option Elab.async false
set_option linter.all false
set_option maxRecDepth 100000
set_option maxHeartbeats 4000000
/-! Xo: x == y and y in x by an own __eq__, __contains__ of x, any answer; isinstance(x, C) of any value. -/
namespace Xo
open PySem PySem.Spec PyProof.Rows L2 Zv
/-- what is asked of the class -/
def insB (K : PySem.W.Frag) (C : Addr) : Bool :=
  PySem.W.findIn K (.ref C) "__class__" == some (some (.builtin "object.__class__")) && (PySem.W.specialIn K (.builtin "object.__class__") "__get__" == some (some (.builtin "getset_descriptor.__get__")) && (PySem.W.takesIn K (.builtin "object.__class__") == some true &&
  (PySem.W.mroIn K C (.type "object") == some true && ((PySem.W.clsIn K C).isSome && PySem.W.typeIn K (.ref C) == some (.type "type")))))
section
variable {K : PySem.W.Frag} {C : Addr}
theorem ins_ty (h : insB K C = true) {H : Hp} {a dx : Addr} {fs : List (PySem.Str × V)} (cl : Cls K C) (e : H a = some (.ins C dx fs)) : TyX K H (.ref a) (.ref C) := by
  unfold insB at h
  simp only [Bool.and_eq_true, beq_iff_eq] at h
  obtain ⟨h1, h2, h3, h4, h5⟩ := h
  exact .base (.ins e cl h1 h2 h3 h4)
theorem kit_me (K : PySem.W.Frag) (C : Addr) : PySem.W.kitOne K (.ref C) (.ref C) = some true := by
  unfold PySem.W.kitOne
  rw [if_pos (by simp)]
theorem sub_ty (K : PySem.W.Frag) (C : Addr) : ∀ t ∈ TYS, PySem.W.subIn K (.type t) (.ref C) = some false := by
  intro t ht
  simp only [TYS, List.mem_cons, List.not_mem_nil, or_false] at ht
  rcases ht with rfl | rfl | rfl | rfl | rfl | rfl | rfl <;> rfl
theorem kit_no (h : insB K C = true) : ∀ t ∈ TYS, PySem.W.kitOne K (.type t) (.ref C) = some false := by
  intro t ht
  unfold insB at h
  simp only [Bool.and_eq_true, beq_iff_eq] at h
  obtain ⟨_, _, _, _, h5, h6⟩ := h
  unfold PySem.W.kitOne
  rw [if_neg (by simp)]
  show (if ((PySem.W.clsIn K C).isSome && PySem.W.typeIn K (.ref C) == some (.type "type")) = true then PySem.W.subIn K (.type t) (.ref C) else none) = some false
  rw [if_pos (by rw [h5, h6]; rfl)]
  exact sub_ty K C t ht
theorem not_first (K : PySem.W.Frag) (C : Addr) : ∀ t ∈ TYS, PySem.W.notFirst K C (.type t) = true := by
  intro t ht
  unfold PySem.W.notFirst
  rw [sub_ty K C t ht]
  rfl
theorem not_first_me (K : PySem.W.Frag) (C : Addr) : PySem.W.notFirst K C (.ref C) = true := by
  unfold PySem.W.notFirst
  simp
end
section
variable {X : Cx} {k : Nat} {C f : Addr} {fd : FuncData} {ps : List PySem.Str} {sp : Sp}
/-- x == y, x an instance of the class at C -/
def rEqO (K : PySem.W.Frag) (C : Addr) (sp : Sp) : R2 := fun x y H Q => ∃ (a dx : Addr) (fs : List (PySem.Str × V)) (tb : Value), x = .ref a ∧ H a = some (.ins C dx fs) ∧ TyX K H y tb ∧ PySem.W.notFirst K C tb = true ∧ sp [x, y] H (fun v H' => ∃ b, v = .bl b ∧ Q (.bl b) H') E0
theorem run_own {pins : List (Addr × Obj)} {σ : L2.St} {H : Hp} {s : Shared} {x y : V} {u v : Value} {Q : VK} {R : Value → Shared → Prop} (F : FnOk X.prog X.w X.K X.mg X.base CX0 k f fd ps sp) (hr : Room k X.A) (hb : Binds X.K fd ps []) (I : Inv X pins σ H s) (rx : RelV x u) (ry : RelV y v)
    (h : sp [x, y] H (fun v H' => ∃ b, v = .bl b ∧ Q (.bl b) H') E0) (q : ∀ b H' s', Inv X pins σ H' s' → Q (.bl b) H' → R (.bool b) s') : wpAny (model X.prog X.w) X.A (call (.ref f) [u, v]) R X.xe s := by
  have hl := F.len _ _ _ _ h
  have r2 : Vals [x, y] [u, v] := .cons rx (.cons ry .nil)
  refine wpAny_call (codeAny_mono (F.run X.A X.stack s H ⟨[u, v], []⟩ [u, v] [x, y] _ E0 hr I.env0 (by
    have := hb s [u, v] I.kIn (by simpa using hl)
    simpa using this) r2 h) fun r s' hq => ?_)
  cases r with
  | error e => exact hq.elim
  | ok fl =>
    cases fl with
    | ret w =>
      obtain ⟨z, H', I', rz, b, ez, q'⟩ := I.after hq
      subst ez
      cases rz
      exact q b H' s' I' q'
    | next => exact hq.elim
    | brk => exact hq.elim
    | cont => exact hq.elim
theorem op_eqO (F : FnOk X.prog X.w X.K X.mg X.base CX0 k f fd ps sp) (hr : Room k X.A) (hb : Binds X.K fd ps []) (hs : PySem.W.findIn X.K (.ref C) "__eq__" = some (some (.ref f))) (hf : PySem.W.isFn X.K (.ref f) = true) : OpR X (compareOp .Eq) (rEqO X.K C sp) := by
  intro pins s σ H x y u v Q I rx ry h
  obtain ⟨a, dx, fs, tb, rfl, ha, ty, nf, hsp⟩ := h
  cases rx
  obtain ⟨mA, J, _⟩ := ins_get I.hok ha
  obtain ⟨od, J, _⟩ := J.look
  obtain ⟨Pz, Z, p, _⟩ := kit_of I ry ty
  obtain ⟨m, hF⟩ := I.fr
  show wpAny (model X.prog X.w) X.A (richCompare .Eq (.ref a) v) (EP X pins σ Q) X.xe s
  refine PySem.W.cmp_K (op := .Eq) (tb := tb) (by have := hr.un; omega) hF I.ok.mod.kin J (Z.ty _ _ I.kIn p) nf hs hf ?_
  exact run_own (x := .ref a) F hr hb I rfl ry hsp fun b H' s' I' q => ⟨.bl b, H', I', rfl, q⟩
/-- y in x, x an instance of the class at C -/
def rInO (C : Addr) (sp : Sp) : R2 := fun y x H Q => ∃ (a dx : Addr) (fs : List (PySem.Str × V)), x = .ref a ∧ H a = some (.ins C dx fs) ∧ sp [x, y] H (fun v H' => ∃ b, v = .bl b ∧ Q (.bl b) H') E0
theorem op_inO (F : FnOk X.prog X.w X.K X.mg X.base CX0 k f fd ps sp) (hr : Room k X.A) (hb : Binds X.K fd ps []) (hs : PySem.W.findIn X.K (.ref C) "__contains__" = some (some (.ref f))) (hf : PySem.W.isFn X.K (.ref f) = true) : OpR X (compareOp .In) (rInO C sp) := by
  intro pins s σ H y x v u Q I ry rx h
  obtain ⟨a, dx, fs, rfl, ha, hsp⟩ := h
  cases rx
  obtain ⟨mA, J, _⟩ := ins_get I.hok ha
  obtain ⟨od, J, _⟩ := J.look
  obtain ⟨m, hF⟩ := I.fr
  refine PySem.W.in_K hF I.ok.mod.kin J hs hf ?_
  exact run_own (x := .ref a) F hr hb I rfl ry hsp fun b H' s' I' q => wpAny_truthy_bool ⟨.bl b, H', I', rfl, q⟩
end
end Xo
set_option Elab.async false
set_option linter.all false
set_option maxRecDepth 100000
set_option maxHeartbeats 4000000
/-! Xn: for k, x in enumerate(t), t a tuple. -/
namespace PySem
namespace XnP
open AutoSeq1 (wpAny_loadPart')
theorem meets_newT (l : Addr) (items : Array Value) (n : Nat) (dct : Option Addr) (sl : Array (Option Value)) :
    Meets (Builtin.«enumerate.__new__» ⟨[.type "enumerate", .ref l], []⟩) (fun _ R s => s.heap.get? l = some { cls := .type "tuple", dict := dct, data := .seq items n, slots := sl } ∧
      R (.ok (.ret (.ref (s.heap.push { cls := .type "tuple_iterator", data := .fields #[.ref l, .int 0 0] }).objs.size)))
        { s with heap := (s.heap.push { cls := .type "tuple_iterator", data := .fields #[.ref l, .int 0 0] }).push { cls := .type "enumerate", data := .fields #[.none, .bool false, .ref s.heap.objs.size, rawInt 0, .none, .none] } }) :=
  .of_wp fun prog w A R s h => by
    obtain ⟨hp, g, d, tk, os⟩ := s
    obtain ⟨hl, h⟩ := h
    have hsub := sub_enumerate
    have hT : Heap.IsTuple (Shared.heap ⟨hp, g, d, tk, os⟩) l items := ⟨_, hl, rfl, n, rfl⟩
    wp_walk using wpAny_loadPart' hl
    refine wpAny_stack_any fun st => wpAny_pure ?_
    split
    · rename_i c _ _ _ _ _
      cases (c == Value.type "enumerate")
      · wp_walk using wpAny_loadPart' hl, wpAny_pyIter_tuple hT
        exact ⟨_, rfl, h⟩
      · wp_walk using wpAny_loadPart' hl, wpAny_pyIter_tuple hT
        exact ⟨_, rfl, h⟩
    · wp_walk using wpAny_loadPart' hl, wpAny_pyIter_tuple hT
      exact ⟨_, rfl, h⟩
section
variable {prog : Program} {w : World} {A : Around} {E : Value → Shared → Prop} {s : Shared}
theorem call_enumT {l : Addr} {items : Array Value} {Q : Value → Shared → Prop} (hL : s.heap.IsTuple l items)
    (h : ∀ h', IsEnum h' (s.heap.objs.size + 1) s.heap.objs.size 0 .none → h'.IsTupleIter s.heap.objs.size l 0 → h'.objs.size = s.heap.objs.size + 2 →
      (∀ b o, s.heap.get? b = some o → h'.get? b = some o) → Q (.ref (s.heap.objs.size + 1)) { s with heap := h' }) :
    wpAny (model prog w) A (call (.type "enumerate") [.ref l]) Q E s := by
  obtain ⟨⟨c, dct, dt, sl⟩, hl, hc, n, hd⟩ := hL
  replace hc : c = .type "tuple" := hc
  replace hd : dt = .seq items n := hd
  subst hc hd
  refine callType_new F.called_enumerate (by decide) (F.typeCall_enumerate_1 _) (F.newCall_enumerate_1 _) (fun obj => F.args_object_init_2 obj _) F.entry_enumerate_new
    (meets_newT l items n dct sl) ⟨hl, ?_⟩
  have hz : (s.heap.push { cls := .type "tuple_iterator", data := .fields #[.ref l, .int 0 0] }).objs.size = s.heap.objs.size + 1 := Heap.size_push ..
  show _ ∧ _
  rw [hz]
  have he : IsEnum ((s.heap.push { cls := .type "tuple_iterator", data := .fields #[.ref l, .int 0 0] }).push
      { cls := .type "enumerate", data := .fields #[.none, .bool false, .ref s.heap.objs.size, rawInt 0, .none, .none] }) (s.heap.objs.size + 1) s.heap.objs.size 0 .none := by
    have := Heap.get?_push_size (s.heap.push { cls := .type "tuple_iterator", data := .fields #[.ref l, .int 0 0] })
      (o := { cls := .type "enumerate", data := .fields #[.none, .bool false, .ref s.heap.objs.size, rawInt 0, .none, .none] }) rfl
    rw [hz] at this
    exact this
  exact ⟨⟨_, he, rfl⟩, h _ he ⟨_, Heap.get?_push_of_some _ (Heap.get?_push_size _ rfl), rfl, rfl⟩ (by rw [Heap.size_push, hz]) fun b o x => Heap.get?_push_of_some _ (Heap.get?_push_of_some _ x)⟩
end
end XnP
end PySem
namespace Xn
open PySem PySem.Spec PyProof.Rows L2
/-- the tuple at a, each item in a new pair -/
def IteT (K : PySem.W.Frag) (a : Addr) : It :=
  ⟨fun i H => ∃ (xs : List V) (x : V), SqT K H a xs ∧ xs[i]? = some x, fun i H v H' => ∃ T x, v = .ref T ∧ H T = none ∧ H' = upd H T (.tup [.int (i : Nat), x]) ∧ ∀ xs, SqT K H a xs → xs[i]? = some x, fun i H => ∃ xs : List V, SqT K H a xs ∧ xs.length ≤ i⟩
theorem turn_enumT {P : Program} {w : World} {K : PySem.W.Frag} {elts : List Expr} {kk : Nat} {tpos : Pos} (a e it : Addr) :
    Turn P w K (.Tuple elts kk tpos) (IteT K a) [e, it] e (fun i h => (∃ old, IsEnum h e it ((i : Nat) : Int) old) ∧ h.IsTupleIter it a i ∧ e ≠ it ∧ a ≠ it ∧ a ≠ e) where
  mem := by simp
  obj := fun i h st b hb => by
    obtain ⟨⟨old, he⟩, ⟨o, ho, hc, hd⟩, _⟩ := st
    have e' : b = e ∨ b = it := by simpa using hb
    rcases e' with z | z
    · rw [z]; exact ⟨_, he, fun v q => nomatch q⟩
    · rw [z]; exact ⟨o, ho, fun v q => by rw [hd] at q; cases q⟩
  keep := fun i h h' st k => let ⟨⟨old, he⟩, hi, hne⟩ := st; ⟨⟨old, k e (by simp) _ he⟩, hi.at fun o q => k it (by simp) o q, hne⟩
  item := by
    intro X hP hw hK hc i pins s σ H E I hf st hg
    subst hP hw hK
    obtain ⟨⟨old, he⟩, hit, hne, hai, hae⟩ := st
    obtain ⟨xs, x, hq, hx⟩ := hg
    obtain ⟨its, rv, p, hz⟩ := I.tuple hq
    obtain ⟨u, hu, ru⟩ := rv.get hx
    have hel : e < s.heap.objs.size := Heap.lt_size he
    have hil : it < s.heap.objs.size := by obtain ⟨_, q, _⟩ := hit; exact Heap.lt_size q
    have hlt : i < its.toArray.size := by
      have := (List.getElem?_eq_some_iff.mp hu).1
      simpa using this
    have D := Draws.tuple (prog := X.prog) (w := X.w) (A := X.A.in1) (by exact I.ok.hd hc) it a hai its.toArray
    refine wpAny_pyNext_enum_itemD D he ⟨hit, show s.heap.IsTuple a its.toArray from p⟩ hlt hne (by simp only [List.mem_cons, List.not_mem_nil, or_false, not_or]; exact ⟨hne, Ne.symm hae⟩) fun y h' tk hy ho hit' hT hsz hk => ?_
    obtain rfl : y = u := by
      have hu' : its.toArray[i]? = some u := by simpa using hu
      rw [hu'] at hy
      exact (Option.some.inj hy).symm
    refine ⟨_, rfl, wpAny_letOwnedTupleGo_enum (s := { s with heap := h', toks := tk + 1 }) ho fun h'' he' sb => ?_⟩
    have hT2 : h''.get? s.heap.objs.size = some { cls := .type "tuple", data := .seq #[.int i tk, y] } := (sb.2 _ (Nat.ne_of_gt hel)).trans hT
    have new : ObjOk X.prog X.w (upd H s.heap.objs.size (.tup [.int (i : Nat), x])) h'' s.heap.objs.size (.tup [.int (i : Nat), x]) :=
      ⟨by show 2 ≤ sizeLine; decide, [.int i tk, y], .cons ⟨_, rfl⟩ (.cons ru .nil), ⟨_, hT2, rfl, _, rfl⟩⟩
    have I1 : Inv X pins σ (upd H s.heap.objs.size (.tup [.int (i : Nat), x])) { s with heap := h'', toks := tk + 1 } :=
      I.turnedNew (ch := [e, it]) (fun b ob hb q => (sb.2 b (fun z => hb (by simp [z]))).trans (hk b ob (fun z => hb (by simp [z])) (fun z => hb (by simp [z])) q)) hf (Nat.le_refl _) new
    refine ⟨.ref s.heap.objs.size, _, I1, rfl, ⟨_, x, rfl, I.hok.fresh (Nat.le_refl _), rfl, fun ys hy => by rw [I.tuple_inj hy hq]; exact hx⟩, ⟨⟨y, ?_⟩, hit'.1.at fun o q => (sb.2 it (Ne.symm hne)).trans q, hne, hai, hae⟩, fun b hb => ?_⟩
    · have e1 : ((i + 1 : Nat) : Int) = (i : Int) + 1 := by omega
      rw [e1]; exact he'
    · have hb' : b < s.heap.objs.size := by
        have e' : b = e ∨ b = it := by simpa using hb
        rcases e' with z | z
        · rw [z]; exact hel
        · rw [z]; exact hil
      rw [upd_ne (Nat.ne_of_lt hb')]
      exact (hf b hb).1
  done := by
    intro X hP hw hK hc i pins s σ H E I hf st hg
    subst hP hw hK
    obtain ⟨⟨old, he⟩, hit, hne, hai, hae⟩ := st
    obtain ⟨xs, hq, hx⟩ := hg
    obtain ⟨its, rv, p, hz⟩ := I.tuple hq
    obtain ⟨f0, f1, f2, f3, f4, f5⟩ := hf it (by simp)
    have hl := rv.length
    have hT : Shared.TypeIs s (.ref e) "enumerate" := ⟨_, he, rfl⟩
    unfold pyNext
    refine wpAny_bind (wpAny_attempt (wpAny_callSpecial?_slot (name := Str.ofString "__next__") hT F.slot_enumerate_next
      (wpAny_call_entry F.slot_enumerate_next hT F.entry_enumerate_next ?_ (F.args_enumerate_next_1 _))))
    show wpAny _ _ (field (.ref e) 2 >>= _) _ _ _
    refine wpAny_bind (wpAny_field he rfl (x := .ref it) rfl ?_)
    refine wpAny_bind (wpAny_nextOf_tuple_end (by exact I.ok.hd hc) hit (show s.heap.IsTuple a its.toArray from p) (by simp; omega) fun h' x he' hx' => ?_)
    obtain ⟨o, ho, hc'⟩ := hx'
    refine wpAny_bind (wpAny_isInstance (T := "StopIteration") (b := true) ⟨o, ho, hc'⟩ isSubtype_stop ?_)
    exact wpAny_pure ⟨rfl, I.turned (t' := s.toks) (fun b o hb q => he' b o hb q) f0 f1 f3 f4 f5⟩
  self := fun A i s Q E st h => let ⟨⟨_, he⟩, _⟩ := st; wpAny_pyIter_enum he h
def iEnumT (K : PySem.W.Frag) (ta : TA) : TI := fun σ H R => ta σ H fun vs H1 => ∃ a xs, vs = [.ref a] ∧ SqT K H1 a xs ∧ R (IteT K a) H1
theorem pi_enumT {X : Cx} {e : Expr} {ta : TA} {p pos tpos : Pos} {elts : List Expr} {kk : Nat} (hg : Gl X "enumerate") (hm : X.mg "enumerate" = none) (ha : PA X [e] ta) (hs : starEach [e] X.env = [(false, eval e X.env)] := by rfl) :
    PI X (.Tuple elts kk tpos) (.Call (.Name "enumerate" p) [e] [] pos) (iEnumT X.K ta) := by
  refine ⟨fun pins s σ H R I h => ?_⟩
  refine Call_ (ld_blt I hg hm boot_enumerate (PyProof.Rows.callWith_type1 (thn (ha.run pos pins s σ H _ I h) fun us s1 ⟨vs, H1, I1, r1, q1⟩ => ?_) hs rfl))
  obtain ⟨a, xs, ex, hq, q⟩ := q1
  subst ex
  cases r1 with
  | cons r rr =>
    cases rr
    cases r
    obtain ⟨its, rv, p', hz⟩ := I1.tuple hq
    have hal : a < s1.heap.objs.size := by obtain ⟨o, ho, _⟩ := p'; exact Heap.lt_size ho
    refine PySem.XnP.call_enumT (show s1.heap.IsTuple a its.toArray from p') fun h' he hit hsz hk => wpAny_pyIter_enum he ?_
    have I2 : Inv X pins σ H1 { s1 with heap := h' } := I1.kept (t' := s1.toks) hk
    refine ⟨s1.heap.objs.size + 1, [s1.heap.objs.size + 1, s1.heap.objs.size], _, _, H1, rfl, I2, turn_enumT a (s1.heap.objs.size + 1) s1.heap.objs.size, ⟨⟨.none, he⟩, hit, Nat.succ_ne_self _, Nat.ne_of_lt hal, Nat.ne_of_lt (Nat.lt_succ_of_lt hal)⟩, fun b hb => ?_, q⟩
    have e' : b = s1.heap.objs.size + 1 ∨ b = s1.heap.objs.size := by simpa using hb
    have hle : s1.heap.objs.size ≤ b := by
      rcases e' with z | z
      · rw [z]; exact Nat.le_add_right _ _
      · rw [z]; exact Nat.le_refl _
    exact I1.fpOk hle (I1.hok.fresh hle)
theorem walk_enumT {K : PySem.W.Frag} {a : Addr} {xs : List V} : Walk (IteT K a) xs.length (fun H => SqT K H a xs) (YPair (fun i => some (.int (i : Nat))) (fun i => xs[i]?)) := by
  refine ⟨fun i _ hi q => ⟨xs, xs[i], q, by simp [hi]⟩, fun _ q => ⟨xs, q, Nat.le_refl _⟩, fun i H v H' _ q y => ?_⟩
  obtain ⟨T, x, h1, h2, h3, h4⟩ := y
  exact ⟨T, .int (i : Nat), x, h1, h2, h3, rfl, h4 xs q⟩
end Xn
set_option Elab.async false
set_option linter.all false
set_option maxRecDepth 100000
set_option maxHeartbeats 4000000
/-! Xc: a class's method called where what is wished of a raise hangs on the names (in a try); C(..) by the module's name of a class whose __init__ has a star and keyword-only parameters, some of which may lack. -/
namespace Xc
open PySem PySem.Spec PyProof.Rows L2 ClX
section
variable {X : Cx} {pins : List (Addr × Obj)} {σ : L2.St} {H : Hp} {s : Shared} {C g : Addr}
theorem run_cmS {CX : CXT} {k : Nat} {q : Addr} {fd : FuncData} {ps : List PySem.Str} {sp : Sp} {E : XK} {Q : VK} {us : List Value} {vs : List V} (F : FnOk X.prog X.w X.K X.mg X.base CX k g fd ps sp) (hr : Room k X.A) (hb : Binds X.K fd ps []) (hx : PassesAt CX X σ E)
    (I : Inv X ((q, PySem.W.methodObj (.ref g) (.ref C)) :: pins) σ H s) (r : Vals vs us) (h : sp (.ref C :: vs) H Q E) : wpAny (model X.prog X.w) X.A (call (.ref q) us) (EP X pins σ Q) X.xe s := by
  have hl : (Value.ref C :: us).length = ps.length := by
    rw [List.length_cons, ← r.length]
    exact F.len _ _ _ _ h
  have b := hb s (.ref C :: us) I.kIn (by rw [List.append_nil]; exact hl)
  rw [List.append_nil] at b
  have z : wpAny (model X.prog X.w) X.A (call (.ref q) us) (EP X ((q, PySem.W.methodObj (.ref g) (.ref C)) :: pins) σ Q) X.xe s := by
    refine wpAny_call (PySem.W.method_call (pin_at I) (codeAny_mono (F.run X.A X.stack s H ⟨.ref C :: us, []⟩ (.ref C :: us) (.ref C :: vs) Q E hr I.env0 b (.cons rfl r) h) fun r s' hq => ?_))
    cases r with
    | error e => exact hx _ H s e s' I hq
    | ok fl =>
      cases fl with
      | ret u => exact I.after hq
      | next => exact False.elim hq
      | brk => exact False.elim hq
      | cont => exact False.elim hq
  exact thn z fun _ _ y => unpinE y
end
/-- C.m(e, ..), C a class, m its method: what is wished of a raise may hang on the names -/
def tCMethS (C : Addr) (sp : Sp) (E : L2.St → XK) (ta : TE) (t : TA) : TE := fun σ H Q => ta σ H fun x H1 => x = .ref C ∧ t σ H1 fun vs H2 => sp (.ref C :: vs) H2 Q (E σ)
section
variable {X : Cx} {CX : CXT} {k : Nat} {C p g : Addr} {fd : FuncData} {ps : List PySem.Str} {mc : Value} {sp : Sp} {E : L2.St → XK} {o e : Expr} {es : List Expr} {m : PySem.Str} {pos apos : Pos} {ta : TE} {t : TA} {pl : Sem Bool}
theorem pe_cmethS (he : PE X o ta) (r : CRead X.K C mc) (c : CMet X.K C mc m p g) (F : FnOk X.prog X.w X.K X.mg X.base CX k g fd ps sp) (hb : Binds X.K fd ps []) (hr : Room k X.A) (hx : ∀ σ, PassesAt CX X σ (E σ)) (ha : PA X (e :: es) t)
    (hst : starEach (e :: es) X.env = (false, eval e X.env) :: starEach es X.env := by rfl) (hpl : (backTo pos (starEach es X.env)).any (·.1) = false := by rfl)
    (ht : eval (.Call (.Attribute o m apos) (e :: es) [] pos) X.env = (do
      let ov ← eval o X.env
      standAt apos.atName
      let (f, first) ← holding [ov] (getMethod ov m pl)
      callWith pos f first (backTo pos (starEach (e :: es) X.env)) (backToKw pos (keywordEach [] X.env))) := by rfl) :
    PE X (.Call (.Attribute o m apos) (e :: es) [] pos) (tCMethS C sp E ta t) := by
  refine ⟨fun pins s σ H Q I h => ?_⟩
  refine PySem.W.methodCall_KW (pl := pl) (thn (he.run pins s σ H _ I h) fun u s1 ⟨x, H1, I1, rx, ex, q⟩ => ?_) ht
  subst ex
  obtain rfl : u = Value.ref C := rx
  refine getmethcm_ok I1 r c fun s2 I2 => ?_
  refine callwith_cm I2 (base_none I1 (Nat.le_refl _)) c.fi (thn (ha.run pos _ s2 σ H1 _ I2 q) fun us s3 ⟨vs, H2, I3, rv, q2⟩ => ⟨⟨pin_at I3, I3.kIn⟩, ?_⟩) hst hpl
  exact run_cmS F hr hb (hx σ) I3 rv q2
end
/-! ### C(..) by the module's name, its __init__ with a star and keyword-only parameters -/
def tClsP (C : Addr) (sp : List V → Sp) (E : XK) (t : TA) : TE := fun σ H Q => t σ H fun vs H1 =>
  ∀ x dx, H1 x = Option.none → H1 dx = Option.none → dx ≠ x → sp [] (V.ref x :: vs) (upd (upd H1 dx (.own x)) x (.ins C dx [])) (fun v H3 => v = .non ∧ Q (.ref x) H3) E
def tClsPK (C : Addr) (m : Nat) (sp : List V → Sp) (E : XK) (t tk : TA) : TE := fun σ H Q => t σ H fun vs H1 => tk σ H1 fun zs H2 => zs.length = m ∧
  ∀ x dx, H2 x = Option.none → H2 dx = Option.none → dx ≠ x → sp zs (V.ref x :: vs) (upd (upd H2 dx (.own x)) x (.ins C dx [])) (fun v H3 => v = .non ∧ Q (.ref x) H3) E
def tCls0K (C : Addr) (m : Nat) (sp : List V → Sp) (E : XK) (tk : TA) : TE := fun σ H Q => tk σ H fun zs H2 => zs.length = m ∧
  ∀ x dx, H2 x = Option.none → H2 dx = Option.none → dx ≠ x → sp zs [V.ref x] (upd (upd H2 dx (.own x)) x (.ins C dx [])) (fun v H3 => v = .non ∧ Q (.ref x) H3) E
section
variable {X : Cx} {CX : CXT} {k : Nat} {f C : Addr} {ks : List PySem.Str} {sp : List V → Sp} {E : XK} {x : PySem.Str} {p pos : Pos} {e : Expr} {es : List Expr} {kws : List Keyword} {t tk : TA}
theorem run_clsG {pins : List (Addr × Obj)} {σ : L2.St} {H : Hp} {s : Shared} {Q : VK} {us ws : List Value} {vs zs : List V} (M : Mk X.K C f) (F : Sk.FnK X.prog X.w X.K X.mg X.base CX k f ks sp) (hr : Room (k + 1) X.A) (hx : Passes CX X E) (I : Inv X pins σ H s) (r : Vals vs us) (rz : Vals zs ws) (l2 : zs.length = ks.length)
    (h : ∀ x dx, H x = Option.none → H dx = Option.none → dx ≠ x → sp zs (V.ref x :: vs) (upd (upd H dx (.own x)) x (.ins C dx [])) (fun v H3 => v = .non ∧ Q (.ref x) H3) E) :
    wpAny (model X.prog X.w) X.A (call (.ref C) us (ks.zip ws)) (EP X pins σ Q) X.xe s := by
  have hq := h (s.heap.objs.size + 1) s.heap.objs.size (I.hok.fresh (Nat.le_succ _)) (I.hok.fresh (Nat.le_refl _)) (Nat.ne_of_lt (Nat.lt_succ_self _))
  have I4 := Inv.made (C := C) I
  refine wpAny_call (make_map (f := f) I.kIn M.makes M.init (beq_iff_eq.mp M.fn) (codeAny_mono (F _ X.stack _ _ (Value.ref (s.heap.objs.size + 1) :: us) ws (V.ref (s.heap.objs.size + 1) :: vs) zs _ E (hr.make C us (ks.zip ws))
    (I4.env0.make C us (ks.zip ws)) (.cons rfl r) rz l2 hq) fun r s' hq' => ?_))
  cases r with
  | error e => exact hx pins σ _ _ e s' I4 hq'
  | ok fl =>
    cases fl with
    | ret u =>
      obtain ⟨v, H', I5, rv, ev, q5⟩ := I4.after hq'
      subst ev
      exact ⟨rv, ⟨V.ref (s.heap.objs.size + 1), H', I5, rfl, q5⟩⟩
    | next => exact False.elim hq'
    | brk => exact False.elim hq'
    | cont => exact False.elim hq'
theorem pe_clsP (M : Mk X.K C f) (F : Sk.FnK X.prog X.w X.K X.mg X.base CX k f [] sp) (hr : Room (k + 1) X.A) (hg : Gl X x) (hm : X.mg x = some (.ref C)) (hx : Passes CX X E) (ha : PA X (e :: es) t)
    (hdb : (x == ("__debug__" : PySem.Str)) = false := by decide) (he : starEach (e :: es) X.env = (false, eval e X.env) :: starEach es X.env := by rfl) (hpl : (backTo pos (starEach es X.env)).any (·.1) = false := by rfl) :
    PE X (.Call (.Name x p) (e :: es) [] pos) (tClsP C sp E t) := by
  refine ⟨fun pins s σ H Q I h => ?_⟩
  refine wpAny_Call_Name_kw (ld_glob I hg hm ?_ hdb)
  refine PySem.W.callWith_K (h₀ := X.base) I.ok.mod.kin M.kp (thn (ha.run pos pins s σ H _ I h) fun us s1 ⟨vs, H1, I1, r, q⟩ => ⟨I1.kIn, ?_⟩) he hpl
  exact run_clsG (ws := []) M F hr hx I1 r .nil rfl q
theorem pe_clsPK (M : Mk X.K C f) (F : Sk.FnK X.prog X.w X.K X.mg X.base CX k f ks sp) (hr : Room (k + 1) X.A) (hg : Gl X x) (hm : X.mg x = some (.ref C)) (hx : Passes CX X E) (ha : PA X (e :: es) t) (hkw : PK X kws tk)
    (hall : (backToKw pos (keywordEach kws X.env)).all (·.1.isSome) = true := by rfl) (hks : (backToKw pos (keywordEach kws X.env)).filterMap (·.1) = ks := by rfl)
    (hdb : (x == ("__debug__" : PySem.Str)) = false := by decide) (he : starEach (e :: es) X.env = (false, eval e X.env) :: starEach es X.env := by rfl)
    (hpl : ((backTo pos (starEach (e :: es) X.env)).any (·.1) || (backToKw pos (keywordEach kws X.env)).any (·.1.isNone)) = false := by rfl) :
    PE X (.Call (.Name x p) (e :: es) kws pos) (tClsPK C ks.length sp E t tk) := by
  refine ⟨fun pins s σ H Q I h => ?_⟩
  refine wpAny_Call_Name_kw (ld_glob I hg hm ?_ hdb)
  refine PySem.W.callWith_KW (h₀ := X.base) I.ok.mod.kin M.kp hall (thn (ha.run pos pins s σ H _ I h) fun us s1 ⟨vs, H1, I1, r, q⟩ => ?_) hpl he
  refine thn (hkw.run pos pins s1 σ H1 _ I1 q) fun ws s2 ⟨zs, H2, I2, rz, l2, q2⟩ => ⟨I2.kIn, ?_⟩
  rw [hks]
  exact run_clsG M F hr hx I2 r rz l2 q2
theorem pe_cls0K (M : Mk X.K C f) (F : Sk.FnK X.prog X.w X.K X.mg X.base CX k f ks sp) (hr : Room (k + 1) X.A) (hg : Gl X x) (hm : X.mg x = some (.ref C)) (hx : Passes CX X E) (hkw : PK X kws tk)
    (hall : (backToKw pos (keywordEach kws X.env)).all (·.1.isSome) = true := by rfl) (hks : (backToKw pos (keywordEach kws X.env)).filterMap (·.1) = ks := by rfl)
    (hdb : (x == ("__debug__" : PySem.Str)) = false := by decide) (hpl : ((backTo pos (starEach [] X.env)).any (·.1) || (backToKw pos (keywordEach kws X.env)).any (·.1.isNone)) = false := by rfl) :
    PE X (.Call (.Name x p) [] kws pos) (tCls0K C ks.length sp E tk) := by
  refine ⟨fun pins s σ H Q I h => wpAny_Call_Name_kw (ld_glob I hg hm ?_ hdb)⟩
  refine PySem.W.callWith_KW0 (h₀ := X.base) I.ok.mod.kin M.kp hall ?_ hpl
  refine thn (hkw.run pos pins s σ H _ I h) fun ws s2 ⟨zs, H2, I2, rz, l2, q2⟩ => ⟨I2.kIn, ?_⟩
  rw [hks, List.append_nil]
  exact run_clsG (us := []) M F hr hx I2 .nil rz l2 q2
end
/-! ### such a def, called in any way -/
section
variable {CX : CXT} {P : Program} {w : World} {K : PySem.W.Frag} {mg : PySem.Str → Option Value} {base : Heap} {k n : Nat} {f : Addr} {name qual : PySem.Str} {st : Stmt} {fd : FuncData} {N ks pb : List PySem.Str} {pv : PySem.Str} {sp : List V → Sp} {Rr : Nat → Prop}
/-- n positional values, the keywords ks; g puts them (and what stands for a parameter that lacks) in the order of the parameters pb; what is left over is a new tuple -/
theorem fn_starG (g : List Value → List Value → List Value) (gV : List V → List V → List V) (F : Fun K name qual st f fd) (S : FnScope N (pb ++ [pv]) (defScope st)) (hCX : StX.CXUp CX)
    (hg : ∀ (vs zs : List V) (us ws : List Value), vs.length = n → zs.length = ks.length → Vals vs us → Vals zs ws → Vals (gV vs zs) (g us ws) ∧ (gV vs zs).length = pb.length)
    (hb : ∀ (kV doc pm : Value) (an : Option Addr) (cdv ct : Value) (us rest ws : List Value) (s : Shared) (A : Around) (Q : List (PySem.Str × Value) → Shared → Prop) (E : Value → Shared → Prop), fd = PySem.W.fnOf name qual (defArgs st) (defBody st) (defScope st) .none kV doc pm an cdv ct → us.length = n → ws.length = ks.length → Rr rest.length → K.In s.heap →
      wpAny (model P w) A (newTuple rest >>= fun t => pure (pb.zip (g us ws) ++ [(pv, t)])) Q E s → wpAny (model P w) A (bindArgs fd ⟨us ++ rest, ks.zip ws⟩) Q E s)
    (hbody : ∀ (cdv : Value) (A : Around) (outer : List Env) (s : Shared) (H : Hp) (vs rest zs : List V) (Q : VK) (E : XK), Room k (A.deeper (envOfC qual (defScope st) s.heap.objs.size f cdv)) → vs.length = n → zs.length = ks.length → sp zs (vs ++ rest) H Q E → ∀ p, H p = none →
      ∃ t, PSs (cxOf CX P w K mg base N qual (defScope st) f cdv A outer s (upd H p (.tup rest)) E) (defBody st) t ∧ t { nx := fun _ H' => Q .non H', rt := Q } (start N (gV vs zs ++ [V.ref p])) (upd H p (.tup rest)))
    (hlen : ∀ zs vs H Q E, sp zs vs H Q E → n ≤ vs.length ∧ vs.length ≤ sizeLine ∧ Rr (vs.length - n)) :
    Sk.FnK P w K mg base CX (k + 1) f ks sp := by
  obtain ⟨oc, od, kV, doc, pm, an, cdv, ct, osl, efd, lk, hcd⟩ := F.ex
  intro A outer s H us ws vs zs Q E hr e0 r rz hz hsp
  obtain ⟨hl0, hl1, hl2⟩ := hlen _ _ _ _ _ hsp
  obtain ⟨v1, v2, ev, hv1⟩ : ∃ v1 v2, vs = v1 ++ v2 ∧ v1.length = n := ⟨vs.take n, vs.drop n, (List.take_append_drop _ _).symm, by rw [List.length_take]; omega⟩
  subst ev
  obtain ⟨u1, u2, eu, r1, r2⟩ := StX.vals_split r
  subst eu
  have hn : H s.heap.objs.size = Option.none := e0.hok.fresh (Nat.le_refl _)
  have h1 : u1.length = n := by rw [← r1.length]; exact hv1
  have h2 : v2.length ≤ sizeLine := by
    rw [List.length_append] at hl1
    omega
  have h3 : u2.length ≤ sizeLine := by rw [← r2.length]; exact h2
  have h4 : ws.length = ks.length := by rw [← rz.length]; exact hz
  have h5 : Rr u2.length := by
    rw [List.length_append, hv1] at hl2
    rw [← r2.length]
    have : n + v2.length - n = v2.length := by omega
    rwa [this] at hl2
  obtain ⟨rg, lg⟩ := hg v1 zs u1 ws hv1 hz r1 rz
  have efd' := efd
  subst efd
  refine StX.run_bnd lk hcd S hr e0 (G := fun xs H2 => ∃ p, H p = Option.none ∧ xs = gV v1 zs ++ [V.ref p] ∧ H2 = upd H p (.tup v2)) (fun A' Ex Q' h => ?_) fun s2 H2 xs ⟨p, hp, ex, eH⟩ hr' => ?_
  · refine hb kV doc pm an cdv ct u1 u2 ws s _ _ _ rfl h1 h4 h5 (e0.mod.kin.keeps fun b o e => (e0.bs b o e).1) ?_
    refine wpAny_bind (wpAny_newTuple (wpAny_pure ?_) h3)
    have new : ObjOk P w (upd H s.heap.objs.size (.tup v2)) (s.heap.push ({ cls := .type "tuple", data := .seq u2.toArray } : Obj)) s.heap.objs.size (.tup v2) := ⟨h2, u2, r2, ⟨_, Heap.get?_push_size _ rfl, rfl, _, rfl⟩⟩
    have un := StX.un_laid (fs := frs outer) (s := s) (o := ({ cls := .type "tuple", data := .seq u2.toArray } : Obj)) (u := .tup v2) hn
    have z := h _ _ (gV v1 zs ++ [V.ref s.heap.objs.size]) (g u1 ws ++ [Value.ref s.heap.objs.size]) (StX.env0_laid e0 new) un rfl (fun e s' => hCX outer s H _ _ E e s' un (fun b o q => Heap.get?_push_of_some _ q) rfl) (rg.append (.cons rfl .nil))
      (by simp only [List.length_append, lg, List.length_cons, List.length_nil]) ⟨_, hn, rfl, rfl⟩
    rw [List.zip_append (by rw [← rg.length, lg])] at z
    exact z
  · subst ex eH
    exact hbody cdv A outer s2 H v1 v2 zs Q E hr' hv1 hz hsp p hp
end
/-- the look for one keyword-only default, three binds deep -/
def KwTo {α : Type} (D : Addr) (x : PySem.Str) (u : Value) (t t' : Sem α) : Prop := ∃ (β γ : Type) (k1 : Option Value → Sem β) (k2 : β → Sem γ) (k3 : γ → Sem α) (a : β), t = ((nsGet D x >>= k1) >>= k2) >>= k3 ∧ k1 (some u) = pure a ∧ t' = k2 a >>= k3
theorem KwTo.run {α : Type} {K : PySem.W.Frag} {M : Model} {A : Around} {Q : α → Shared → Prop} {E : Value → Shared → Prop} {s : Shared} {D : Addr} {x : PySem.Str} {u : Value} {t t' : Sem α} (X : K.In s.heap) (hl : PySem.W.nsIn K D x = some (some u)) (h : KwTo D x u t t') (q : wpAny M A t' Q E s) : wpAny M A t Q E s := by
  obtain ⟨β, γ, k1, k2, k3, a, e1, e2, rfl⟩ := h
  have l1 : PySem.W.Looks M s.heap (nsGet D x >>= k1) a := (PySem.W.looks_nsIn X hl).andThen (PySem.W.Looks.of_pure e2)
  rw [e1, bind_assoc]
  exact wpAny_bind (l1.here q)
end Xc
set_option Elab.async false
set_option linter.all false
set_option maxRecDepth 100000
set_option maxHeartbeats 4000000
/-! Xk: a def that may raise, called where it does not; C.m(k = v, ..), m a classmethod, by keywords alone. -/
namespace Xk
open PySem PySem.Spec PyProof.Rows L2 ClX
section
variable {P : Program} {w : World} {K : PySem.W.Frag} {mg : PySem.Str → Option Value} {base : Heap} {k : Nat} {f : Addr} {fd : FuncData} {ps : List PySem.Str} {sp : Sp}
/-- what is promised where no raise is wished -/
theorem calm (F : FnOk P w K mg base (L2N.CX P w) k f fd ps sp) : FnOk P w K mg base CX0 k f fd ps (fun vs H Q _ => sp vs H Q E0) :=
  ⟨fun vs H Q E h => F.len vs H Q E0 h, fun A outer s H args us vs Q E hr e0 hb hv hs => codeAny_mono (F.run A outer s H args us vs Q E0 hr e0 hb hv hs) fun r s' hq => by
    cases r with
    | error e =>
      obtain ⟨a, B, H', cls, d, _, _, _, _, _, _, _, h⟩ := hq
      exact h.elim
    | ok fl => cases fl <;> exact hq⟩
end
/-- C.m(k = v, ..) -/
def tCMethKw (C : Addr) (n : Nat) (sp : Sp) (gV : List V → List V → List V) (E : XK) (ta : TE) (tk : TA) : TE := fun σ H Q => ta σ H fun x H1 => x = .ref C ∧ tk σ H1 fun zs H2 => zs.length = n ∧ sp (gV [.ref C] zs) H2 Q E
section
variable {X : Cx} {CX : CXT} {k : Nat} {C p g : Addr} {fd : FuncData} {ps ks : List PySem.Str} {mc : Value} {sp : Sp} {E : XK} {o : Expr} {kws : List Keyword} {m : PySem.Str} {pos apos : Pos} {ta : TE} {tk : TA} {gg : List Value → List Value → List Value} {gV : List V → List V → List V} {pl : Sem Bool}
theorem run_cmKw {pins : List (Addr × Obj)} {σ : L2.St} {H : Hp} {s : Shared} {q : Addr} {Q : VK} {ws : List Value} {zs : List V} (F : FnOk X.prog X.w X.K X.mg X.base CX k g fd ps sp) (hr : Room k X.A) (hb : KBn X.K fd ps 1 ks gg gV) (hx : Passes CX X E)
    (I : Inv X ((q, PySem.W.methodObj (.ref g) (.ref C)) :: pins) σ H s) (rz : Vals zs ws) (l2 : zs.length = ks.length) (h : sp (gV [.ref C] zs) H Q E) : wpAny (model X.prog X.w) X.A (call (.ref q) [] (ks.zip ws)) (EP X pins σ Q) X.xe s := by
  have r1 : Vals [V.ref C] [Value.ref C] := .cons rfl .nil
  have z : wpAny (model X.prog X.w) X.A (call (.ref q) [] (ks.zip ws)) (EP X ((q, PySem.W.methodObj (.ref g) (.ref C)) :: pins) σ Q) X.xe s := by
    refine wpAny_call (PySem.W.method_call (pin_at I) (codeAny_mono (F.run X.A X.stack s H ⟨[.ref C], ks.zip ws⟩ (gg [.ref C] ws) (gV [.ref C] zs) Q E hr I.env0 (hb.to s [.ref C] ws I.kIn rfl (rz.length.symm.trans l2)) (hb.rel r1 rz) h) fun r s' hq => ?_))
    cases r with
    | error e => exact hx _ σ H s e s' I hq
    | ok fl =>
      cases fl with
      | ret u => exact I.after hq
      | next => exact False.elim hq
      | brk => exact False.elim hq
      | cont => exact False.elim hq
  exact thn z fun _ _ y => unpinE y
theorem pe_cmethKw (he : PE X o ta) (r : CRead X.K C mc) (c : CMet X.K C mc m p g) (F : FnOk X.prog X.w X.K X.mg X.base CX k g fd ps sp) (hr : Room k X.A) (hb : KBn X.K fd ps 1 ks gg gV) (hx : Passes CX X E) (hkw : PK X kws tk)
    (hall : (backToKw pos (keywordEach kws X.env)).all (·.1.isSome) = true := by rfl) (hks : (backToKw pos (keywordEach kws X.env)).filterMap (·.1) = ks := by rfl)
    (hpl : ((backTo pos (starEach [] X.env)).any (·.1) || (backToKw pos (keywordEach kws X.env)).any (·.1.isNone)) = false := by rfl)
    (ht : eval (.Call (.Attribute o m apos) [] kws pos) X.env = (do
      let ov ← eval o X.env
      standAt apos.atName
      let (f, first) ← holding [ov] (getMethod ov m pl)
      callWith pos f first (backTo pos (starEach [] X.env)) (backToKw pos (keywordEach kws X.env))) := by rfl) :
    PE X (.Call (.Attribute o m apos) [] kws pos) (tCMethKw C ks.length sp gV E ta tk) := by
  refine ⟨fun pins s σ H Q I h => ?_⟩
  refine PySem.W.methodCall_KW (pl := pl) (thn (he.run pins s σ H _ I h) fun u s1 ⟨x, H1, I1, rx, ex, q⟩ => ?_) ht
  subst ex
  obtain rfl : u = Value.ref C := rx
  refine getmethcm_ok I1 r c fun s2 I2 => ?_
  refine PySem.W.callWith_of hpl (PySem.W.keeps_M c.fi) (PyProof.Rows.evalArgs_kw2_nil hall (thn (hkw.run pos _ s2 σ H1 _ I2 q) fun ws s3 ⟨zs, H2, I3, rz, l2, q2⟩ => ⟨⟨pin_at I3, I3.kIn⟩, ?_⟩))
  rw [hks]
  exact run_cmKw F hr hb hx I3 rz l2 q2
end
end Xk
set_option Elab.async false
set_option linter.all false
set_option maxRecDepth 100000
set_option maxHeartbeats 4000000
/-! Xg: x, *r = list; e.replace(..) as the last of a list whose first begins with a written text. -/
namespace Xg
open PySem PySem.Spec PyProof.Rows L2
section
variable {prog : Program} {w : World} {A : Around} {E : Value → Shared → Prop} {s : Shared}
/-- the items of a list for x, *r -/
theorem star_items {l : Addr} {x : Value} {items : Array Value} {Q : List Value → Shared → Prop} (hl : s.heap.IsList l items) (hh : A.handled = none) (h0 : items[0]? = some x) (hz : items.size ≤ 16384)
    (h : ∀ (h1 : Heap) (tk : Nat), (∀ b o, s.heap.get? b = some o → h1.get? b = some o) → Q [x, .ref h1.objs.size] { s with heap := h1.push { cls := .type "list", data := .seq (items.toList.drop 1).toArray }, toks := tk }) :
    wpAny (model prog w) A (unpackItems (.ref l) 2 (some 1)) Q E s := by
  have hll : l < s.heap.objs.size := by
    obtain ⟨o, ho, _⟩ := hl
    exact Heap.lt_size ho
  have hne : l ≠ s.heap.objs.size := Nat.ne_of_lt hll
  have hp : 0 < items.size := (Array.getElem?_eq_some_iff.mp h0).1
  unfold unpackItems
  refine wpAny_bind ?_
  unfold notIterableAtAll
  refine wpAny_bind (wpAny_specialOf hl.typeIs slot_list_iter.lookup (wpAny_pure ?_))
  simp only [Bool.false_eq_true, if_false]
  refine wpAny_bind (wpAny_holding (wpAny_pyIter_list hl (wpAny_bind (wpAny_holding (PySem.W.kun_draw hne 1 0 _ _ ⟨_, Heap.get?_push_size _ rfl, rfl, rfl⟩ (hl.push _) (by omega) fun g1 it1 sb1 => ?_)))))
  have hlg : g1.IsList l items := (hl.push _).extBut sb1.extBut hne
  have ef : (items.toList.drop 0).take 1 = [x] := by
    rw [List.drop_zero]
    cases e : items.toList with
    | nil =>
      have h1 : items.toList[0]? = some x := by rw [Array.getElem?_toList]; exact h0
      rw [e] at h1
      cases h1
    | cons y ys =>
      have h1 : items.toList[0]? = some x := by rw [Array.getElem?_toList]; exact h0
      rw [e] at h1
      cases h1
      rfl
  rw [ef, Nat.zero_add] at *
  obtain ⟨oi, hoi, hor⟩ := id it1
  obtain ⟨ol, hol, hos⟩ := id hlg
  rw [if_neg (show ¬ ([x].length < 1) from Nat.lt_irrefl 1)]
  refine wpAny_bind (wpAny_holding (PySem.W.kun_collect (s := { s with heap := g1 }) (T := "list_iterator") (.inr (.inr (.inl rfl))) (Walks.list (A := A.in1) hh s.heap.objs.size l hne items) (fun j u st => st.1.typeIs) (k := 1) hp ⟨it1, hlg⟩ (Heap.lt_size hoi) (Heap.lt_size hol) (fun g2 tk hk => ?_) (by rw [sizeLine_eq]; omega)))
  have hdl : (items.toList.drop 1).length = items.size - 1 := by rw [List.length_drop, Array.length_toList]
  show wpAny _ _ (if (items.toList.drop 1).length < 2 - 1 - 1 then _ else _) _ _ _
  rw [if_neg (by omega)]
  refine wpAny_bind (wpAny_newList (wpAny_pure ?_) (by rw [List.length_take, sizeLine_eq]; omega))
  have kp : ∀ b o, s.heap.get? b = some o → g2.get? b = some o := fun b o e => hk b o (Nat.ne_of_lt (Heap.lt_size e)) (sb1.extBut b o (Nat.ne_of_lt (Heap.lt_size e)) (Heap.get?_push_of_some _ e))
  have q := h g2 tk kp
  have e2 : (items.toList.drop 1).length - (2 - 1 - 1) = (items.toList.drop 1).length := by omega
  rw [e2, List.take_length, List.drop_length]
  exact q
end
/-- x, *r = a list -/
def gStar (K : PySem.W.Frag) (g1 g2 : TG) : TG := fun v σ H Q => ∃ a x xs, v = .ref a ∧ SqL K H a (x :: xs) ∧ xs.length ≤ 16000 ∧ ∀ D, H D = none → g1 x σ (upd H D (.lst xs)) fun σ' H' => g2 (.ref D) σ' H' Q
section
variable {X : Cx} {t1 t2 : Expr} {g1 g2 : TG} {p pos : Pos} {k : Nat}
theorem pg_starL (hc : X.calm = true) (h1 : PG X t1 g1) (h2 : PG X t2 g2)
    (hs : assignEach [t1, .Starred t2 p] X.env = [(false, assign t1 X.env), (true, assign t2 X.env)] := by rfl) : PG X (.Tuple [t1, .Starred t2 p] k pos) (gStar X.K g1 g2) := by
  refine ⟨fun pins s σ H v u Q I r hw => ?_⟩
  obtain ⟨a, x, xs, rfl, hq, hl, hw⟩ := hw
  cases r
  obtain ⟨its, rv, pl, hz⟩ := I.list hq
  obtain ⟨y, its', ei, rx, rr⟩ : ∃ y its', its = y :: its' ∧ RelV x y ∧ Vals xs its' := by
    cases rv with
    | cons rx rr => exact ⟨_, _, rfl, rx, rr⟩
  subst ei
  have hlen := rr.length
  rw [PyProof.Rows.assign_Tuple]
  refine wpAny_bind (wpAny_standAt ?_)
  unfold unpack
  rw [hs]
  refine wpAny_bind (wpAny_holding (star_items (x := y) pl.isList (I.ok.hd hc) (by simp) (by simp; omega) fun g tk kp => ?_))
  have I1 : Inv X pins σ H { s with heap := g, toks := tk } := I.kept (t' := tk) kp
  have new : ObjOk X.prog X.w (upd H g.objs.size (.lst xs)) (g.push { cls := .type "list", data := .seq its'.toArray }) g.objs.size (.lst xs) := ⟨by rw [sizeLine_eq]; omega, its', 0, rr, Heap.get?_push_size _ rfl⟩
  have I2 : Inv X pins σ (upd H g.objs.size (.lst xs)) { s with heap := g.push { cls := .type "list", data := .seq its'.toArray }, toks := tk } :=
    I1.laid (t' := tk) (fun b o e => Heap.get?_push_of_some _ e) (Nat.le_refl _) new
  refine assignInOrder_cons (thn (h1.run pins _ σ _ _ _ _ I2 rx (hw _ (I1.hok.fresh (Nat.le_refl _)))) fun _ s1 ⟨σ1, H1, I3, q1⟩ => ?_)
  refine assignInOrder_cons (thn (h2.run pins s1 σ1 H1 (.ref g.objs.size) _ _ I3 rfl q1) fun _ s2 ⟨σ2, H2, I4, q2⟩ => ?_)
  exact assignInOrder_nil ⟨σ2, H2, I4, q2⟩
end
/-! ### e.replace as the last of a written list that begins with a written text -/
section
variable {X : Cx} {y : PySem.Str} {j : Nat} {c p : Pos} {b : Expr} {tb : TE} {r : R2} {es : List Expr} {ta : TA}
/-- behind 'y' + b a token is out -/
theorem pa_text (ho : OpR X (binaryOp .Add) r) (hb : PE X b tb) (hr : PAT X es ta) (hs : starEach (.BinOp (.Constant (.str y) j c) .Add b p :: es) X.env = (false, eval (.BinOp (.Constant (.str y) j c) .Add b p) X.env) :: starEach es X.env := by rfl) :
    PA X (.BinOp (.Constant (.str y) j c) .Add b p :: es) (tCons (tOp r (tC (.str y)) tb) ta) := by
  refine ⟨fun pos pins s σ H Q I h => ?_⟩
  rw [hs]
  show wpAny _ _ (spliced ((false, eval (.BinOp (.Constant (.str y) j c) .Add b p) X.env) :: backTo pos (starEach es X.env))) _ _ s
  refine Calls.spliced_cons (wpAny_BinOp (Calls.Constant_str ?_))
  have I1 : Inv X pins σ H { s with toks := s.toks + 1 } := I.tok _
  refine wpAny_mono (wpAny_toks_of (n := 1) (by show 1 ≤ s.toks + 1; omega) (hb.run pins _ σ H _ I1 h)) (fun u s2 q => ?_) fun _ _ z => z.2
  obtain ⟨h2, x2, H2, I2, r2, q2⟩ := q
  refine wpAny_mono (wpAny_toks_of h2 (ho pins s2 σ H2 (.str y) x2 (.str y s.toks) u _ I2 ⟨_, rfl⟩ r2 q2)) (fun v s3 q => ?_) fun _ _ z => z.2
  obtain ⟨h3, x3, H3, I3, r3, q3⟩ := q
  exact thn (hr pos pins s3 σ H3 _ h3 I3 q3) fun us s4 ⟨xs, H4, I4, r4, q4⟩ => ⟨x3 :: xs, H4, I4, .cons r3 r4, q4⟩
end
end Xg
set_option Elab.async false
set_option linter.all false
set_option maxRecDepth 100000
set_option maxHeartbeats 4000000
/-! Xh: for k, x in enumerate(l, start = c), l a list. -/
namespace Xh
open PySem PySem.Spec PyProof.Rows L2
/-- the list at a, each item in a new pair, counted from c -/
def IteS (K : PySem.W.Frag) (a : Addr) (c : Nat) : It :=
  ⟨fun i H => ∃ (xs : List V) (x : V), SqL K H a xs ∧ xs[i]? = some x, fun i H v H' => ∃ T x, v = .ref T ∧ H T = none ∧ H' = upd H T (.tup [.int ((c + i : Nat) : Int), x]) ∧ ∀ xs, SqL K H a xs → xs[i]? = some x, fun i H => ∃ xs : List V, SqL K H a xs ∧ xs.length ≤ i⟩
theorem turn_enumS {P : Program} {w : World} {K : PySem.W.Frag} {elts : List Expr} {kk : Nat} {tpos : Pos} (a e it : Addr) (c : Nat) :
    Turn P w K (.Tuple elts kk tpos) (IteS K a c) [e, it] e (fun i h => (∃ old, IsEnum h e it ((c + i : Nat) : Int) old) ∧ h.IsListIter it a i ∧ e ≠ it ∧ a ≠ it ∧ a ≠ e) where
  mem := by simp
  obj := fun i h st b hb => by
    obtain ⟨⟨old, he⟩, ⟨o, ho, hc, hd⟩, _⟩ := st
    have e' : b = e ∨ b = it := by simpa using hb
    rcases e' with z | z
    · rw [z]; exact ⟨_, he, fun v q => nomatch q⟩
    · rw [z]; exact ⟨o, ho, fun v q => by rw [hd] at q; cases q⟩
  keep := fun i h h' st k => let ⟨⟨old, he⟩, hi, hne⟩ := st; ⟨⟨old, k e (by simp) _ he⟩, hi.at fun o q => k it (by simp) o q, hne⟩
  item := by
    intro X hP hw hK hc i pins s σ H E I hf st hg
    subst hP hw hK
    obtain ⟨⟨old, he⟩, hit, hne, hai, hae⟩ := st
    obtain ⟨xs, x, hq, hx⟩ := hg
    obtain ⟨its, rv, p, hz⟩ := I.list hq
    obtain ⟨u, hu, ru⟩ := rv.get hx
    have hel : e < s.heap.objs.size := Heap.lt_size he
    have hil : it < s.heap.objs.size := by obtain ⟨_, q, _⟩ := hit; exact Heap.lt_size q
    have hlt : i < its.toArray.size := by
      have := (List.getElem?_eq_some_iff.mp hu).1
      simpa using this
    have D := Draws.list (prog := X.prog) (w := X.w) (A := X.A.in1) (by exact I.ok.hd hc) it a hai its.toArray
    refine wpAny_pyNext_enum_itemC D he ⟨hit, p.isList⟩ hlt hne (by simp only [List.mem_cons, List.not_mem_nil, or_false, not_or]; exact ⟨hne, Ne.symm hae⟩) fun y h' tk hy ho hit' hT hsz hk => ?_
    obtain rfl : y = u := by
      have hu' : its.toArray[i]? = some u := by simpa using hu
      rw [hu'] at hy
      exact (Option.some.inj hy).symm
    refine ⟨_, rfl, wpAny_letOwnedTupleGo_enum (s := { s with heap := h', toks := tk + 1 }) ho fun h'' he' sb => ?_⟩
    have hT2 : h''.get? s.heap.objs.size = some { cls := .type "tuple", data := .seq #[.int ((c + i : Nat) : Int) tk, y] } := (sb.2 _ (Nat.ne_of_gt hel)).trans hT
    have new : ObjOk X.prog X.w (upd H s.heap.objs.size (.tup [.int ((c + i : Nat) : Int), x])) h'' s.heap.objs.size (.tup [.int ((c + i : Nat) : Int), x]) :=
      ⟨by show 2 ≤ sizeLine; decide, [.int ((c + i : Nat) : Int) tk, y], .cons ⟨_, rfl⟩ (.cons ru .nil), ⟨_, hT2, rfl, _, rfl⟩⟩
    have I1 : Inv X pins σ (upd H s.heap.objs.size (.tup [.int ((c + i : Nat) : Int), x])) { s with heap := h'', toks := tk + 1 } :=
      I.turnedNew (ch := [e, it]) (fun b ob hb q => (sb.2 b (fun z => hb (by simp [z]))).trans (hk b ob (fun z => hb (by simp [z])) (fun z => hb (by simp [z])) q)) hf (Nat.le_refl _) new
    refine ⟨.ref s.heap.objs.size, _, I1, rfl, ⟨_, x, rfl, I.hok.fresh (Nat.le_refl _), rfl, fun ys hy => by rw [I.list_inj hy hq]; exact hx⟩, ⟨⟨y, ?_⟩, hit'.1.at fun o q => (sb.2 it (Ne.symm hne)).trans q, hne, hai, hae⟩, fun b hb => ?_⟩
    · have e1 : ((c + (i + 1) : Nat) : Int) = ((c + i : Nat) : Int) + 1 := by omega
      rw [e1]; exact he'
    · have hb' : b < s.heap.objs.size := by
        have e' : b = e ∨ b = it := by simpa using hb
        rcases e' with z | z
        · rw [z]; exact hel
        · rw [z]; exact hil
      rw [upd_ne (Nat.ne_of_lt hb')]
      exact (hf b hb).1
  done := by
    intro X hP hw hK hc i pins s σ H E I hf st hg
    subst hP hw hK
    obtain ⟨⟨old, he⟩, hit, hne, hai, hae⟩ := st
    obtain ⟨xs, hq, hx⟩ := hg
    obtain ⟨its, rv, p, hz⟩ := I.list hq
    obtain ⟨f0, f1, f2, f3, f4, f5⟩ := hf it (by simp)
    have hl := rv.length
    have hT : Shared.TypeIs s (.ref e) "enumerate" := ⟨_, he, rfl⟩
    unfold pyNext
    refine wpAny_bind (wpAny_attempt (wpAny_callSpecial?_slot (name := Str.ofString "__next__") hT F.slot_enumerate_next
      (wpAny_call_entry F.slot_enumerate_next hT F.entry_enumerate_next ?_ (F.args_enumerate_next_1 _))))
    show wpAny _ _ (field (.ref e) 2 >>= _) _ _ _
    refine wpAny_bind (wpAny_field he rfl (x := .ref it) rfl ?_)
    refine wpAny_bind (wpAny_nextOf_list_end (by exact I.ok.hd hc) hit p.isList (by simp; omega) fun h' x he' hx' => ?_)
    obtain ⟨o, ho, hc'⟩ := hx'
    refine wpAny_bind (wpAny_isInstance (T := "StopIteration") (b := true) ⟨o, ho, hc'⟩ isSubtype_stop ?_)
    exact wpAny_pure ⟨rfl, I.turned (t' := s.toks) (fun b o hb q => he' b o hb q) f0 f1 f3 f4 f5⟩
  self := fun A i s Q E st h => let ⟨⟨_, he⟩, _⟩ := st; wpAny_pyIter_enum he h
section
variable {M : Model} {A : Around} {E : Value → Shared → Prop} {s : Shared} {env : Env}
/-- T(e, k = v), T a built-in class -/
theorem callWith_tyKw {pos : Pos} {T : String} {e : Expr} {rest : List Expr} {kws : List Keyword} {Q : Value → Shared → Prop}
    (h : wpAny M A (spliced (backTo pos (starEach (e :: rest) env))) (fun vs s₁ => wpAny M A (evalAll ((backToKw pos (keywordEach kws env)).map (·.2)))
      (fun kvs s₂ => wpAny M A (call (.type T) vs (((backToKw pos (keywordEach kws env)).filterMap (·.1)).zip kvs)) Q E s₂) E s₁) E s)
    (he : starEach (e :: rest) env = (false, eval e env) :: starEach rest env := by rfl) (hpl : (backTo pos (starEach (e :: rest) env)).any (·.1) = false := by rfl)
    (hall : (backToKw pos (keywordEach kws env)).all (·.1.isSome) = true := by rfl) (hkw : (backToKw pos (keywordEach kws env)).any (·.1.isNone) = false := by rfl) :
    wpAny M A (callWith pos (.type T) [] (backTo pos (starEach (e :: rest) env)) (backToKw pos (keywordEach kws env))) Q E s := by
  unfold callWith
  refine wpAny_bind (wpAny_holding (wpAny_mono (evalArgs_kw2 (Q := fun a s₁ => wpAny M A (call (.type T) ([] ++ a.pos) a.kw) Q E s₁) hall (wpAny_mono h (fun vs s₁ h₁ => wpAny_mono h₁ (fun kvs s₂ h₂ => h₂) fun _ _ x => x) fun _ _ x => x) he) (fun a s₁ h₁ => wpAny_bind (wpAny_standAt ?_)) fun _ _ x => x))
  simp only [hpl, hkw, Bool.or_false]
  refine wpAny_bind (wpAny_pure ?_)
  exact wpAny_bind (wpAny_mono h₁ (fun r s₂ hr => wpAny_bind (wpAny_holding (wpAny_point (wpAny_pure hr)))) fun _ _ x => x)
end
def iEnumS (K : PySem.W.Frag) (ta tk : TA) : TI := fun σ H R => ta σ H fun vs H1 => tk σ H1 fun zs H2 => ∃ a xs c, vs = [.ref a] ∧ zs = [.int ((c : Nat) : Int)] ∧ c < 1000000 ∧ SqL K H2 a xs ∧ R (IteS K a c) H2
theorem pi_enumS {X : Cx} {e : Expr} {kws : List Keyword} {ta tk : TA} {p pos tpos : Pos} {elts : List Expr} {kk : Nat} (hg : Gl X "enumerate") (hm : X.mg "enumerate" = none) (ha : PA X [e] ta) (hkw : PK X kws tk) (hs : starEach [e] X.env = (false, eval e X.env) :: starEach [] X.env := by rfl)
    (hall : (backToKw pos (keywordEach kws X.env)).all (·.1.isSome) = true := by rfl) (hks : (backToKw pos (keywordEach kws X.env)).filterMap (·.1) = [Str.ofString "start"] := by rfl) (hpl : (backTo pos (starEach [e] X.env)).any (·.1) = false := by rfl) (hno : (backToKw pos (keywordEach kws X.env)).any (·.1.isNone) = false := by rfl) :
    PI X (.Tuple elts kk tpos) (.Call (.Name "enumerate" p) [e] kws pos) (iEnumS X.K ta tk) := by
  refine ⟨fun pins s σ H R I h => ?_⟩
  refine wpAny_Call_Name_kw (ld_blt I hg hm boot_enumerate (callWith_tyKw (thn (ha.run pos pins s σ H _ I h) fun us s0 ⟨vs, H0, I0, r0, q0⟩ => thn (hkw.run pos pins s0 σ H0 _ I0 q0) fun ws s1 ⟨zs, H1, I1, r1, q1⟩ => ?_) hs hpl hall hno))
  obtain ⟨a, xs, c, rfl, rfl, hc, hq, q⟩ := q1
  obtain ⟨u, rfl, ru⟩ := vals1 r0
  obtain rfl : u = Value.ref a := ru
  obtain ⟨v, rfl, t, rfl⟩ := vals1 r1
  rw [hks]
  obtain ⟨its, rv, p', hz⟩ := I1.list hq
  have hal : a < s1.heap.objs.size := by obtain ⟨o, ho, _⟩ := p'.isList; exact Heap.lt_size ho
  refine enum_begins_start (begins_list a its.toArray) p'.isList (by omega) (by omega) fun h' he hit hsz hk => wpAny_pyIter_enum he ?_
  have I2 : Inv X pins σ H1 { s1 with heap := h' } := I1.kept (t' := s1.toks) hk
  refine ⟨s1.heap.objs.size + 1, [s1.heap.objs.size + 1, s1.heap.objs.size], _, _, H1, rfl, I2, turn_enumS a (s1.heap.objs.size + 1) s1.heap.objs.size c, ⟨⟨.none, he⟩, ⟨_, hit, rfl, rfl⟩, Nat.succ_ne_self _, Nat.ne_of_lt hal, Nat.ne_of_lt (Nat.lt_succ_of_lt hal)⟩, fun b hb => ?_, q⟩
  have e' : b = s1.heap.objs.size + 1 ∨ b = s1.heap.objs.size := by simpa using hb
  have hle : s1.heap.objs.size ≤ b := by
    rcases e' with z | z
    · rw [z]; exact Nat.le_add_right _ _
    · rw [z]; exact Nat.le_refl _
  exact I1.fpOk hle (I1.hok.fresh hle)
theorem walk_enumS {K : PySem.W.Frag} {a : Addr} {xs : List V} {c : Nat} : Walk (IteS K a c) xs.length (fun H => SqL K H a xs) (YPair (fun i => some (.int ((c + i : Nat) : Int))) (fun i => xs[i]?)) := by
  refine ⟨fun i _ hi q => ⟨xs, xs[i], q, by simp [hi]⟩, fun _ q => ⟨xs, q, Nat.le_refl _⟩, fun i H v H' _ q y => ?_⟩
  obtain ⟨T, x, h1, h2, h3, h4⟩ := y
  exact ⟨T, .int ((c + i : Nat) : Int), x, h1, h2, h3, rfl, h4 xs q⟩
end Xh
set_option Elab.async false
set_option linter.all false
set_option maxRecDepth 100000
set_option maxHeartbeats 4000000
/-! Xl: == and != of lists of texts, whatever signs. -/
namespace Xl
open PySem PySem.Spec PyProof.Rows L2
def eAt (xs ys : List PySem.Str) (j : Nat) : Bool := match xs[j]?, ys[j]? with
  | some a, some b => a == b
  | _, _ => true
theorem all_eAt (xs ys : List PySem.Str) (hl : xs.length = ys.length) : ((List.range xs.length).all (eAt xs ys)) = decide (xs = ys) := by
  rw [Bool.eq_iff_iff, List.all_eq_true, decide_eq_true_iff]
  constructor
  · intro h
    refine List.ext_getElem hl fun j h1 h2 => ?_
    have := h j (List.mem_range.mpr h1)
    unfold eAt at this
    rw [List.getElem?_eq_getElem h1, List.getElem?_eq_getElem h2] at this
    simpa using this
  · rintro rfl j hj
    have h1 := List.mem_range.mp hj
    unfold eAt
    rw [List.getElem?_eq_getElem h1]
    simp
section
variable {X : Cx}
def rEqS (K : PySem.W.Frag) (neg : Bool) : R2 := fun x y H Q => ∃ (a b : Addr) (xs ys : List PySem.Str), x = .ref a ∧ y = .ref b ∧ SqL K H a (xs.map V.str) ∧ SqL K H b (ys.map V.str) ∧ Q (.bl (if neg then !decide (xs = ys) else decide (xs = ys))) H
theorem items {A : Around} {s : Shared} {xs ys : List PySem.Str} {us ws : List Value} (r1 : Vals (xs.map V.str) us) (r2 : Vals (ys.map V.str) ws) : ∀ j (h1 : j < us.toArray.size) (h2 : j < ws.toArray.size), SeqAt.EqAt A s us.toArray[j] ws.toArray[j] (eAt xs ys j) := by
  intro j h1 h2
  have h1' : j < us.length := by simpa using h1
  have h2' : j < ws.length := by simpa using h2
  have l1 : j < xs.length := by
    have := r1.length
    rw [List.length_map] at this
    omega
  have l2 : j < ys.length := by
    have := r2.length
    rw [List.length_map] at this
    omega
  obtain ⟨u, hu, ru⟩ := r1.get (i := j) (x := .str xs[j]) (by rw [List.getElem?_map, List.getElem?_eq_getElem l1]; rfl)
  obtain ⟨w, hw, rw'⟩ := r2.get (i := j) (x := .str ys[j]) (by rw [List.getElem?_map, List.getElem?_eq_getElem l2]; rfl)
  obtain ⟨t, rfl⟩ := ru
  obtain ⟨t', rfl⟩ := rw'
  have e1 : us.toArray[j] = .str xs[j] t := by
    rw [List.getElem?_eq_getElem h1'] at hu
    simpa using hu
  have e2 : ws.toArray[j] = .str ys[j] t' := by
    rw [List.getElem?_eq_getElem h2'] at hw
    simpa using hw
  rw [e1, e2]
  have e3 : eAt xs ys j = (xs[j] == ys[j]) := by
    unfold eAt
    rw [List.getElem?_eq_getElem l1, List.getElem?_eq_getElem l2]
  rw [e3]
  exact SeqAt.EqAt.str_str _ _ _ _
theorem op_eqS (hu : X.A.units < cLine) : OpR X (compareOp .Eq) (rEqS X.K false) := by
  intro pins s σ H x y v u Q I rx ry h
  obtain ⟨a, b, xs, ys, rfl, rfl, ha, hb, q⟩ := h
  cases rx
  cases ry
  have q' : Q (.bl (decide (xs = ys))) H := q
  obtain ⟨us, r1, p1, _⟩ := I.list ha
  obtain ⟨ws, r2, p2, _⟩ := I.list hb
  have n1 : us.toArray.size = xs.length := by rw [List.size_toArray, ← r1.length, List.length_map]
  have n2 : ws.toArray.size = ys.length := by rw [List.size_toArray, ← r2.length, List.length_map]
  by_cases hl : xs.length = ys.length
  · refine SeqAt.eq_listAt (e := eAt xs ys) p1.isList p2.isList (by rw [n1, n2, hl]) hu (items r1 r2) ?_
    rw [n1, all_eAt xs ys hl]
    exact ⟨.bl _, H, I, rfl, q'⟩
  · rw [decide_eq_false (fun e => hl (by rw [e]))] at q'
    exact SeqAt.eq_list_lengthsAt p1.isList p2.isList (by rw [n1, n2]; simpa using hl) hu ⟨.bl false, H, I, rfl, q'⟩
theorem op_neS (hu : X.A.units < cLine) : OpR X (compareOp .NotEq) (rEqS X.K true) := by
  intro pins s σ H x y v u Q I rx ry h
  obtain ⟨a, b, xs, ys, rfl, rfl, ha, hb, q⟩ := h
  cases rx
  cases ry
  have q' : Q (.bl (!decide (xs = ys))) H := q
  obtain ⟨us, r1, p1, _⟩ := I.list ha
  obtain ⟨ws, r2, p2, _⟩ := I.list hb
  have n1 : us.toArray.size = xs.length := by rw [List.size_toArray, ← r1.length, List.length_map]
  have n2 : ws.toArray.size = ys.length := by rw [List.size_toArray, ← r2.length, List.length_map]
  by_cases hl : xs.length = ys.length
  · refine SeqAt.RcNeAt.lists (e := eAt xs ys) p1.isList p2.isList (by rw [n1, n2, hl]) hu (items r1 r2) _ _ _ _ ?_
    rw [n1, all_eAt xs ys hl]
    exact ⟨.bl _, H, I, rfl, q'⟩
  · rw [decide_eq_false (fun e => hl (by rw [e]))] at q'
    exact SeqAt.RcNeAt.lists_lengths p1.isList p2.isList (by rw [n1, n2]; simpa using hl) hu _ _ _ _ ⟨.bl true, H, I, rfl, q'⟩
end
end Xl
set_option Elab.async false
set_option linter.all false
set_option maxRecDepth 100000
set_option maxHeartbeats 4000000
/-! k04: the text, the draws. -/
namespace K04
open PySem PySem.Spec PyProof.Rows L2 Zg Zr Zd Zv
/-! ### the orders of keywords -/
def pm0 {α : Type} (l : List α) : List α := l
theorem pm0_rel {zs : List V} {ws : List Value} (r : Vals zs ws) : Vals (pm0 zs) (pm0 ws) := r
theorem pm0_len (n : Nat) (zs : List V) (h : zs.length = n) : (pm0 zs).length = n := h
/-- two keywords in the other order -/
def pm10 {α : Type} : List α → List α
  | [a, b] => [b, a]
  | l => l
theorem pm10_rel {zs : List V} {ws : List Value} (r : Vals zs ws) : Vals (pm10 zs) (pm10 ws) := by
  match zs, ws, r with
  | _, _, .nil => exact .nil
  | _, _, .cons a .nil => exact .cons a .nil
  | _, _, .cons a (.cons b .nil) => exact .cons b (.cons a .nil)
  | _, _, .cons a (.cons b (.cons c r)) => exact .cons a (.cons b (.cons c r))
theorem pm10_len (n : Nat) (zs : List V) (h : zs.length = n) : (pm10 zs).length = n := by
  match zs, h with
  | [], h => exact h
  | [_], h => exact h
  | [_, _], h => exact h
  | _ :: _ :: _ :: _, h => exact h
/-! ### the text -/
def topS (i : Nat) : Stmt := PySem.Challenge.pw_plugcaller_k04_texts_of_stores.main.body.getD i (.Pass ⟨0, 0, 0, 0⟩)
abbrev s__wall : Stmt := topS 0
abbrev N__wall : List PySem.Str := ["k"]
abbrev P__wall : List PySem.Str := ["k"]
theorem sc__wall : FnScope N__wall P__wall (defScope s__wall) := ⟨rfl, rfl, rfl, by decide +kernel, rfl, by decide +kernel, by decide +kernel⟩
abbrev s_BadStore_init : Stmt := inClass (topS 3) 0
abbrev N_BadStore_init : List PySem.Str := ["self", "part"]
abbrev P_BadStore_init : List PySem.Str := ["self", "part"]
theorem sc_BadStore_init : FnScope N_BadStore_init P_BadStore_init (defScope s_BadStore_init) := ⟨rfl, rfl, rfl, by decide +kernel, rfl, by decide +kernel, by decide +kernel⟩
abbrev s_InvalidText_init : Stmt := inClass (topS 4) 0
abbrev N_InvalidText_init : List PySem.Str := ["self", "line"]
abbrev P_InvalidText_init : List PySem.Str := ["self", "line"]
theorem sc_InvalidText_init : FnScope N_InvalidText_init P_InvalidText_init (defScope s_InvalidText_init) := ⟨rfl, rfl, rfl, by decide +kernel, rfl, by decide +kernel, by decide +kernel⟩
abbrev s_is_integer : Stmt := topS 12
abbrev N_is_integer : List PySem.Str := ["thing"]
abbrev P_is_integer : List PySem.Str := ["thing"]
theorem sc_is_integer : FnScope N_is_integer P_is_integer (defScope s_is_integer) := ⟨rfl, rfl, rfl, by decide +kernel, rfl, by decide +kernel, by decide +kernel⟩
abbrev s_is_name : Stmt := topS 13
abbrev N_is_name : List PySem.Str := ["thing", "letter"]
abbrev P_is_name : List PySem.Str := ["thing"]
theorem sc_is_name : FnScope N_is_name P_is_name (defScope s_is_name) := ⟨rfl, rfl, rfl, by decide +kernel, rfl, by decide +kernel, by decide +kernel⟩
abbrev s_are_ascending : Stmt := topS 14
abbrev N_are_ascending : List PySem.Str := ["thing", "one", "other"]
abbrev P_are_ascending : List PySem.Str := ["thing"]
theorem sc_are_ascending : FnScope N_are_ascending P_are_ascending (defScope s_are_ascending) := ⟨rfl, rfl, rfl, by decide +kernel, rfl, by decide +kernel, by decide +kernel⟩
abbrev s_is_state : Stmt := topS 15
abbrev N_is_state : List PySem.Str := ["size", "thing"]
abbrev P_is_state : List PySem.Str := ["size", "thing"]
theorem sc_is_state : FnScope N_is_state P_is_state (defScope s_is_state) := ⟨rfl, rfl, rfl, by decide +kernel, rfl, by decide +kernel, by decide +kernel⟩
abbrev s_are_states : Stmt := topS 16
abbrev N_are_states : List PySem.Str := ["size", "thing", "one"]
abbrev P_are_states : List PySem.Str := ["size", "thing"]
theorem sc_are_states : FnScope N_are_states P_are_states (defScope s_are_states) := ⟨rfl, rfl, rfl, by decide +kernel, rfl, by decide +kernel, by decide +kernel⟩
abbrev s_is_size : Stmt := topS 17
abbrev N_is_size : List PySem.Str := ["thing"]
abbrev P_is_size : List PySem.Str := ["thing"]
theorem sc_is_size : FnScope N_is_size P_is_size (defScope s_is_size) := ⟨rfl, rfl, rfl, by decide +kernel, rfl, by decide +kernel, by decide +kernel⟩
abbrev s_is_action : Stmt := topS 18
abbrev N_is_action : List PySem.Str := ["size", "thing", "then"]
abbrev P_is_action : List PySem.Str := ["size", "thing"]
theorem sc_is_action : FnScope N_is_action P_is_action (defScope s_is_action) := ⟨rfl, rfl, rfl, by decide +kernel, rfl, by decide +kernel, by decide +kernel⟩
abbrev s_check_store : Stmt := topS 19
abbrev N_check_store : List PySem.Str := ["size", "actions", "resting", "names", "action"]
abbrev P_check_store : List PySem.Str := ["size", "actions", "resting"]
theorem sc_check_store : FnScope N_check_store P_check_store (defScope s_check_store) := ⟨rfl, rfl, rfl, by decide +kernel, rfl, by decide +kernel, by decide +kernel⟩
abbrev s_ways_from : Stmt := topS 20
abbrev N_ways_from : List PySem.Str := ["actions", "state", "found", "waiting", "at", "here", "name", "moves", "then"]
abbrev P_ways_from : List PySem.Str := ["actions", "state"]
theorem sc_ways_from : FnScope N_ways_from P_ways_from (defScope s_ways_from) := ⟨rfl, rfl, rfl, by decide +kernel, rfl, by decide +kernel, by decide +kernel⟩
abbrev s_shown_states : Stmt := topS 21
abbrev N_shown_states : List PySem.Str := ["states", "state"]
abbrev P_shown_states : List PySem.Str := ["states"]
theorem sc_shown_states : FnScope N_shown_states P_shown_states (defScope s_shown_states) := ⟨rfl, rfl, rfl, by decide +kernel, rfl, by decide +kernel, by decide +kernel⟩
abbrev s_integer_in : Stmt := topS 22
abbrev N_integer_in : List PySem.Str := ["word", "sign"]
abbrev P_integer_in : List PySem.Str := ["word"]
theorem sc_integer_in : FnScope N_integer_in P_integer_in (defScope s_integer_in) := ⟨rfl, rfl, rfl, by decide +kernel, rfl, by decide +kernel, by decide +kernel⟩
abbrev s_states_in : Stmt := topS 23
abbrev N_states_in : List PySem.Str := ["word", "found", "part"]
abbrev P_states_in : List PySem.Str := ["word"]
theorem sc_states_in : FnScope N_states_in P_states_in (defScope s_states_in) := ⟨rfl, rfl, rfl, by decide +kernel, rfl, by decide +kernel, by decide +kernel⟩
abbrev s_moves_in : Stmt := topS 24
abbrev N_moves_in : List PySem.Str := ["word", "parts", "part"]
abbrev P_moves_in : List PySem.Str := ["word"]
theorem sc_moves_in : FnScope N_moves_in P_moves_in (defScope s_moves_in) := ⟨rfl, rfl, rfl, by decide +kernel, rfl, by decide +kernel, by decide +kernel⟩
abbrev s_size_in : Stmt := topS 25
abbrev N_size_in : List PySem.Str := ["line", "words"]
abbrev P_size_in : List PySem.Str := ["line"]
theorem sc_size_in : FnScope N_size_in P_size_in (defScope s_size_in) := ⟨rfl, rfl, rfl, by decide +kernel, rfl, by decide +kernel, by decide +kernel⟩
abbrev s_resting_in : Stmt := topS 26
abbrev N_resting_in : List PySem.Str := ["line", "size", "words"]
abbrev P_resting_in : List PySem.Str := ["line", "size"]
theorem sc_resting_in : FnScope N_resting_in P_resting_in (defScope s_resting_in) := ⟨rfl, rfl, rfl, by decide +kernel, rfl, by decide +kernel, by decide +kernel⟩
abbrev s_action_in : Stmt := topS 27
abbrev N_action_in : List PySem.Str := ["line", "size", "word", "parts", "action"]
abbrev P_action_in : List PySem.Str := ["line", "size"]
theorem sc_action_in : FnScope N_action_in P_action_in (defScope s_action_in) := ⟨rfl, rfl, rfl, by decide +kernel, rfl, by decide +kernel, by decide +kernel⟩
abbrev s_actions_in : Stmt := topS 28
abbrev N_actions_in : List PySem.Str := ["lines", "size", "first", "found", "number", "line", "action"]
abbrev P_actions_in : List PySem.Str := ["lines", "size", "first"]
theorem sc_actions_in : FnScope N_actions_in P_actions_in (defScope s_actions_in) := ⟨rfl, rfl, rfl, by decide +kernel, rfl, by decide +kernel, by decide +kernel⟩
abbrev s_store_of_lines : Stmt := topS 29
abbrev N_store_of_lines : List PySem.Str := ["lines", "size", "resting"]
abbrev P_store_of_lines : List PySem.Str := ["lines"]
theorem sc_store_of_lines : FnScope N_store_of_lines P_store_of_lines (defScope s_store_of_lines) := ⟨rfl, rfl, rfl, by decide +kernel, rfl, by decide +kernel, by decide +kernel⟩
abbrev s_Store_init : Stmt := inClass (topS 30) 0
abbrev N_Store_init : List PySem.Str := ["self", "size", "resting", "actions", "state"]
abbrev P_Store_init : List PySem.Str := ["self", "size", "resting", "actions"]
theorem sc_Store_init : FnScope N_Store_init P_Store_init (defScope s_Store_init) := ⟨rfl, rfl, rfl, by decide +kernel, rfl, by decide +kernel, by decide +kernel⟩
abbrev s_Store_of : Stmt := inClass (topS 30) 1
abbrev N_Store_of : List PySem.Str := ["cls", "size", "actions", "resting"]
abbrev P_Store_of : List PySem.Str := ["cls", "size", "actions", "resting"]
theorem sc_Store_of : FnScope N_Store_of P_Store_of (defScope s_Store_of) := ⟨rfl, rfl, rfl, by decide +kernel, rfl, by decide +kernel, by decide +kernel⟩
abbrev s_Store_read : Stmt := inClass (topS 30) 2
abbrev N_Store_read : List PySem.Str := ["cls", "text"]
abbrev P_Store_read : List PySem.Str := ["cls", "text"]
theorem sc_Store_read : FnScope N_Store_read P_Store_read (defScope s_Store_read) := ⟨rfl, rfl, rfl, by decide +kernel, rfl, by decide +kernel, by decide +kernel⟩
abbrev s_Store_text : Stmt := inClass (topS 30) 4
abbrev N_Store_text : List PySem.Str := ["self", "lines", "name", "moves"]
abbrev P_Store_text : List PySem.Str := ["self"]
theorem sc_Store_text : FnScope N_Store_text P_Store_text (defScope s_Store_text) := ⟨rfl, rfl, rfl, by decide +kernel, rfl, by decide +kernel, by decide +kernel⟩
abbrev s_Store_eq : Stmt := inClass (topS 30) 5
abbrev N_Store_eq : List PySem.Str := ["self", "other"]
abbrev P_Store_eq : List PySem.Str := ["self", "other"]
theorem sc_Store_eq : FnScope N_Store_eq P_Store_eq (defScope s_Store_eq) := ⟨rfl, rfl, rfl, by decide +kernel, rfl, by decide +kernel, by decide +kernel⟩
abbrev s_well : Stmt := topS 32
abbrev N_well : List PySem.Str := ["script", "told", "blend", "number"]
abbrev P_well : List PySem.Str := ["script"]
theorem sc_well : FnScope N_well P_well (defScope s_well) := ⟨rfl, rfl, rfl, by decide +kernel, rfl, by decide +kernel, by decide +kernel⟩
abbrev s_drawn : Stmt := topS 33
abbrev N_drawn : List PySem.Str := ["well", "many", "seed", "number"]
abbrev P_drawn : List PySem.Str := ["well", "many"]
theorem sc_drawn : FnScope N_drawn P_drawn (defScope s_drawn) := ⟨rfl, rfl, rfl, by decide +kernel, rfl, by decide +kernel, by decide +kernel⟩
abbrev s_one_of : Stmt := topS 34
abbrev N_one_of : List PySem.Str := ["well", "some"]
abbrev P_one_of : List PySem.Str := ["well", "some"]
theorem sc_one_of : FnScope N_one_of P_one_of (defScope s_one_of) := ⟨rfl, rfl, rfl, by decide +kernel, rfl, by decide +kernel, by decide +kernel⟩
abbrev s_name : Stmt := topS 35
abbrev N_name : List PySem.Str := ["well", "many", "k"]
abbrev P_name : List PySem.Str := ["well"]
theorem sc_name : FnScope N_name P_name (defScope s_name) := ⟨rfl, rfl, rfl, by decide +kernel, rfl, by decide +kernel, by decide +kernel⟩
abbrev s_store : Stmt := topS 36
abbrev N_store : List PySem.Str := ["well", "size", "rows", "k", "moves", "state", "then", "resting", "name"]
abbrev P_store : List PySem.Str := ["well"]
theorem sc_store : FnScope N_store P_store (defScope s_store) := ⟨rfl, rfl, rfl, by decide +kernel, rfl, by decide +kernel, by decide +kernel⟩
abbrev s_lines : Stmt := topS 37
abbrev N_lines : List PySem.Str := ["size", "rows", "resting", "lines", "state", "name", "moves", "then"]
abbrev P_lines : List PySem.Str := ["size", "rows", "resting"]
theorem sc_lines : FnScope N_lines P_lines (defScope s_lines) := ⟨rfl, rfl, rfl, by decide +kernel, rfl, by decide +kernel, by decide +kernel⟩
abbrev s_word : Stmt := topS 38
abbrev N_word : List PySem.Str := ["well", "some"]
abbrev P_word : List PySem.Str := ["well"]
theorem sc_word : FnScope N_word P_word (defScope s_word) := ⟨rfl, rfl, rfl, by decide +kernel, rfl, by decide +kernel, by decide +kernel⟩
abbrev s_line_bent : Stmt := topS 39
abbrev N_line_bent : List PySem.Str := ["well", "line", "words", "at", "way"]
abbrev P_line_bent : List PySem.Str := ["well", "line"]
theorem sc_line_bent : FnScope N_line_bent P_line_bent (defScope s_line_bent) := ⟨rfl, rfl, rfl, by decide +kernel, rfl, by decide +kernel, by decide +kernel⟩
abbrev s_bent : Stmt := topS 40
abbrev N_bent : List PySem.Str := ["well", "lines", "at", "way", "more"]
abbrev P_bent : List PySem.Str := ["well", "lines"]
theorem sc_bent : FnScope N_bent P_bent (defScope s_bent) := ⟨rfl, rfl, rfl, by decide +kernel, rfl, by decide +kernel, by decide +kernel⟩
abbrev s_number : Stmt := topS 41
abbrev N_number : List PySem.Str := ["word", "sign"]
abbrev P_number : List PySem.Str := ["word"]
theorem sc_number : FnScope N_number P_number (defScope s_number) := ⟨rfl, rfl, rfl, by decide +kernel, rfl, by decide +kernel, by decide +kernel⟩
abbrev s_states : Stmt := topS 42
abbrev N_states : List PySem.Str := ["word", "size", "found", "part", "state"]
abbrev P_states : List PySem.Str := ["word", "size"]
theorem sc_states : FnScope N_states P_states (defScope s_states) := ⟨rfl, rfl, rfl, by decide +kernel, rfl, by decide +kernel, by decide +kernel⟩
abbrev s_moves : Stmt := topS 43
abbrev N_moves : List PySem.Str := ["word", "size", "parts", "found", "part", "then"]
abbrev P_moves : List PySem.Str := ["word", "size"]
theorem sc_moves : FnScope N_moves P_moves (defScope s_moves) := ⟨rfl, rfl, rfl, by decide +kernel, rfl, by decide +kernel, by decide +kernel⟩
abbrev s_w_is_name : Stmt := topS 44
abbrev N_w_is_name : List PySem.Str := ["word", "sign"]
abbrev P_w_is_name : List PySem.Str := ["word"]
theorem sc_w_is_name : FnScope N_w_is_name P_w_is_name (defScope s_w_is_name) := ⟨rfl, rfl, rfl, by decide +kernel, rfl, by decide +kernel, by decide +kernel⟩
abbrev s_read : Stmt := topS 45
abbrev N_read : List PySem.Str := ["said", "lines", "rows", "size", "resting", "number", "line", "words", "found", "k", "moves"]
abbrev P_read : List PySem.Str := ["said"]
theorem sc_read : FnScope N_read P_read (defScope s_read) := ⟨rfl, rfl, rfl, by decide +kernel, rfl, by decide +kernel, by decide +kernel⟩
abbrev s_told : Stmt := topS 46
abbrev N_told : List PySem.Str := ["said", "found", "store", "e"]
abbrev P_told : List PySem.Str := ["said"]
theorem sc_told : FnScope N_told P_told (defScope s_told) := ⟨rfl, rfl, rfl, by decide +kernel, rfl, by decide +kernel, by decide +kernel⟩
abbrev s_law : Stmt := topS 47
abbrev N_law : List PySem.Str := ["script", "well", "some", "turn", "size", "rows", "resting", "lines", "store", "said", "again", "due"]
abbrev P_law : List PySem.Str := ["script"]
theorem sc_law : FnScope N_law P_law (defScope s_law) := ⟨rfl, rfl, rfl, by decide +kernel, rfl, by decide +kernel, by decide +kernel⟩
structure Txt (K : PySem.W.Frag) (mg : PySem.Str → Option Value) : Type where
  a_BadStore_init : Addr
  d_BadStore_init : FuncData
  F_BadStore_init : Fun K "__init__" "BadStore.__init__" s_BadStore_init a_BadStore_init d_BadStore_init
  b_BadStore_init : Binds K d_BadStore_init P_BadStore_init []
  a_InvalidText_init : Addr
  d_InvalidText_init : FuncData
  F_InvalidText_init : Fun K "__init__" "InvalidText.__init__" s_InvalidText_init a_InvalidText_init d_InvalidText_init
  b_InvalidText_init : Binds K d_InvalidText_init P_InvalidText_init []
  a_is_integer : Addr
  d_is_integer : FuncData
  F_is_integer : Fun K "is_integer" "is_integer" s_is_integer a_is_integer d_is_integer
  g_is_integer : mg "is_integer" = some (.ref a_is_integer)
  b_is_integer : Binds K d_is_integer P_is_integer []
  a_is_name : Addr
  d_is_name : FuncData
  F_is_name : Fun K "is_name" "is_name" s_is_name a_is_name d_is_name
  g_is_name : mg "is_name" = some (.ref a_is_name)
  b_is_name : Binds K d_is_name P_is_name []
  a_are_ascending : Addr
  d_are_ascending : FuncData
  F_are_ascending : Fun K "are_ascending" "are_ascending" s_are_ascending a_are_ascending d_are_ascending
  g_are_ascending : mg "are_ascending" = some (.ref a_are_ascending)
  b_are_ascending : Binds K d_are_ascending P_are_ascending []
  a_is_state : Addr
  d_is_state : FuncData
  F_is_state : Fun K "is_state" "is_state" s_is_state a_is_state d_is_state
  g_is_state : mg "is_state" = some (.ref a_is_state)
  b_is_state : Binds K d_is_state P_is_state []
  a_are_states : Addr
  d_are_states : FuncData
  F_are_states : Fun K "are_states" "are_states" s_are_states a_are_states d_are_states
  g_are_states : mg "are_states" = some (.ref a_are_states)
  b_are_states : Binds K d_are_states P_are_states []
  a_is_size : Addr
  d_is_size : FuncData
  F_is_size : Fun K "is_size" "is_size" s_is_size a_is_size d_is_size
  g_is_size : mg "is_size" = some (.ref a_is_size)
  b_is_size : Binds K d_is_size P_is_size []
  a_is_action : Addr
  d_is_action : FuncData
  F_is_action : Fun K "is_action" "is_action" s_is_action a_is_action d_is_action
  g_is_action : mg "is_action" = some (.ref a_is_action)
  b_is_action : Binds K d_is_action P_is_action []
  a_check_store : Addr
  d_check_store : FuncData
  F_check_store : Fun K "check_store" "check_store" s_check_store a_check_store d_check_store
  g_check_store : mg "check_store" = some (.ref a_check_store)
  b_check_store : Binds K d_check_store P_check_store []
  a_ways_from : Addr
  d_ways_from : FuncData
  F_ways_from : Fun K "ways_from" "ways_from" s_ways_from a_ways_from d_ways_from
  g_ways_from : mg "ways_from" = some (.ref a_ways_from)
  b_ways_from : Binds K d_ways_from P_ways_from []
  a_shown_states : Addr
  d_shown_states : FuncData
  F_shown_states : Fun K "shown_states" "shown_states" s_shown_states a_shown_states d_shown_states
  g_shown_states : mg "shown_states" = some (.ref a_shown_states)
  b_shown_states : Binds K d_shown_states P_shown_states []
  a_integer_in : Addr
  d_integer_in : FuncData
  F_integer_in : Fun K "integer_in" "integer_in" s_integer_in a_integer_in d_integer_in
  g_integer_in : mg "integer_in" = some (.ref a_integer_in)
  b_integer_in : Binds K d_integer_in P_integer_in []
  a_states_in : Addr
  d_states_in : FuncData
  F_states_in : Fun K "states_in" "states_in" s_states_in a_states_in d_states_in
  g_states_in : mg "states_in" = some (.ref a_states_in)
  b_states_in : Binds K d_states_in P_states_in []
  a_moves_in : Addr
  d_moves_in : FuncData
  F_moves_in : Fun K "moves_in" "moves_in" s_moves_in a_moves_in d_moves_in
  g_moves_in : mg "moves_in" = some (.ref a_moves_in)
  b_moves_in : Binds K d_moves_in P_moves_in []
  a_size_in : Addr
  d_size_in : FuncData
  F_size_in : Fun K "size_in" "size_in" s_size_in a_size_in d_size_in
  g_size_in : mg "size_in" = some (.ref a_size_in)
  b_size_in : Binds K d_size_in P_size_in []
  a_resting_in : Addr
  d_resting_in : FuncData
  F_resting_in : Fun K "resting_in" "resting_in" s_resting_in a_resting_in d_resting_in
  g_resting_in : mg "resting_in" = some (.ref a_resting_in)
  b_resting_in : Binds K d_resting_in P_resting_in []
  a_action_in : Addr
  d_action_in : FuncData
  F_action_in : Fun K "action_in" "action_in" s_action_in a_action_in d_action_in
  g_action_in : mg "action_in" = some (.ref a_action_in)
  b_action_in : Binds K d_action_in P_action_in []
  a_actions_in : Addr
  d_actions_in : FuncData
  F_actions_in : Fun K "actions_in" "actions_in" s_actions_in a_actions_in d_actions_in
  g_actions_in : mg "actions_in" = some (.ref a_actions_in)
  b_actions_in : Binds K d_actions_in P_actions_in []
  a_store_of_lines : Addr
  d_store_of_lines : FuncData
  F_store_of_lines : Fun K "store_of_lines" "store_of_lines" s_store_of_lines a_store_of_lines d_store_of_lines
  g_store_of_lines : mg "store_of_lines" = some (.ref a_store_of_lines)
  b_store_of_lines : Binds K d_store_of_lines P_store_of_lines []
  a_Store_init : Addr
  d_Store_init : FuncData
  F_Store_init : Fun K "__init__" "Store.__init__" s_Store_init a_Store_init d_Store_init
  a_Store_of : Addr
  d_Store_of : FuncData
  F_Store_of : Fun K "of" "Store.of" s_Store_of a_Store_of d_Store_of
  b_Store_of : Binds K d_Store_of P_Store_of []
  a_Store_read : Addr
  d_Store_read : FuncData
  F_Store_read : Fun K "read" "Store.read" s_Store_read a_Store_read d_Store_read
  b_Store_read : Binds K d_Store_read P_Store_read []
  a_Store_text : Addr
  d_Store_text : FuncData
  F_Store_text : Fun K "text" "Store.text" s_Store_text a_Store_text d_Store_text
  b_Store_text : Binds K d_Store_text P_Store_text []
  a_Store_eq : Addr
  d_Store_eq : FuncData
  F_Store_eq : Fun K "__eq__" "Store.__eq__" s_Store_eq a_Store_eq d_Store_eq
  b_Store_eq : Binds K d_Store_eq P_Store_eq []
  a_well : Addr
  d_well : FuncData
  F_well : Fun K "_law_well" "_law_well" s_well a_well d_well
  g_well : mg "_law_well" = some (.ref a_well)
  b_well : Binds K d_well P_well []
  a_drawn : Addr
  d_drawn : FuncData
  F_drawn : Fun K "_law_drawn" "_law_drawn" s_drawn a_drawn d_drawn
  g_drawn : mg "_law_drawn" = some (.ref a_drawn)
  b_drawn : Binds K d_drawn P_drawn []
  a_one_of : Addr
  d_one_of : FuncData
  F_one_of : Fun K "_law_one_of" "_law_one_of" s_one_of a_one_of d_one_of
  g_one_of : mg "_law_one_of" = some (.ref a_one_of)
  b_one_of : Binds K d_one_of P_one_of []
  a_name : Addr
  d_name : FuncData
  F_name : Fun K "_law_name" "_law_name" s_name a_name d_name
  g_name : mg "_law_name" = some (.ref a_name)
  b_name : Binds K d_name P_name []
  a_store : Addr
  d_store : FuncData
  F_store : Fun K "_law_store" "_law_store" s_store a_store d_store
  g_store : mg "_law_store" = some (.ref a_store)
  b_store : Binds K d_store P_store []
  a_lines : Addr
  d_lines : FuncData
  F_lines : Fun K "_law_lines" "_law_lines" s_lines a_lines d_lines
  g_lines : mg "_law_lines" = some (.ref a_lines)
  b_lines : Binds K d_lines P_lines []
  a_word : Addr
  d_word : FuncData
  F_word : Fun K "_law_word" "_law_word" s_word a_word d_word
  g_word : mg "_law_word" = some (.ref a_word)
  b_word : Binds K d_word P_word []
  a_line_bent : Addr
  d_line_bent : FuncData
  F_line_bent : Fun K "_law_line_bent" "_law_line_bent" s_line_bent a_line_bent d_line_bent
  g_line_bent : mg "_law_line_bent" = some (.ref a_line_bent)
  b_line_bent : Binds K d_line_bent P_line_bent []
  a_bent : Addr
  d_bent : FuncData
  F_bent : Fun K "_law_bent" "_law_bent" s_bent a_bent d_bent
  g_bent : mg "_law_bent" = some (.ref a_bent)
  b_bent : Binds K d_bent P_bent []
  a_number : Addr
  d_number : FuncData
  F_number : Fun K "_law_number" "_law_number" s_number a_number d_number
  g_number : mg "_law_number" = some (.ref a_number)
  b_number : Binds K d_number P_number []
  a_states : Addr
  d_states : FuncData
  F_states : Fun K "_law_states" "_law_states" s_states a_states d_states
  g_states : mg "_law_states" = some (.ref a_states)
  b_states : Binds K d_states P_states []
  a_moves : Addr
  d_moves : FuncData
  F_moves : Fun K "_law_moves" "_law_moves" s_moves a_moves d_moves
  g_moves : mg "_law_moves" = some (.ref a_moves)
  b_moves : Binds K d_moves P_moves []
  a_w_is_name : Addr
  d_w_is_name : FuncData
  F_w_is_name : Fun K "_law_is_name" "_law_is_name" s_w_is_name a_w_is_name d_w_is_name
  g_w_is_name : mg "_law_is_name" = some (.ref a_w_is_name)
  b_w_is_name : Binds K d_w_is_name P_w_is_name []
  a_read : Addr
  d_read : FuncData
  F_read : Fun K "_law_read" "_law_read" s_read a_read d_read
  g_read : mg "_law_read" = some (.ref a_read)
  b_read : Binds K d_read P_read []
  a_told : Addr
  d_told : FuncData
  F_told : Fun K "_law_told" "_law_told" s_told a_told d_told
  g_told : mg "_law_told" = some (.ref a_told)
  b_told : Binds K d_told P_told []
  a_law : Addr
  d_law : FuncData
  F_law : Fun K "law" "law" s_law a_law d_law
  g_law : mg "law" = some (.ref a_law)
  b_law : Binds K d_law P_law []
  C_Store : Addr
  g_Store : mg "Store" = some (.ref C_Store)
  cl_Store : Cls K C_Store
  no_Store_size : NoAttr K C_Store "size"
  no_Store_actions : NoAttr K C_Store "actions"
  no_Store_resting : NoAttr K C_Store "resting"
  no_Store_moves_by_name : NoAttr K C_Store "moves_by_name"
  no_Store_ways_by_state : NoAttr K C_Store "ways_by_state"
  mk_Store : Mk K C_Store a_Store_init
  p_Store_of : Addr
  me_Store_of : ClX.CMet K C_Store (.type "type") "of" p_Store_of a_Store_of
  p_Store_read : Addr
  me_Store_read : ClX.CMet K C_Store (.type "type") "read" p_Store_read a_Store_read
  p_Store_text : Addr
  me_Store_text : PropOf K C_Store "text" p_Store_text a_Store_text
  rd_Store : ClX.CRead K C_Store (.type "type")
  C_FlowError : Addr
  g_FlowError : mg "FlowError" = some (.ref C_FlowError)
  cf_FlowError : Xv.cfB K C_FlowError = true
  C_BadStore : Addr
  g_BadStore : mg "BadStore" = some (.ref C_BadStore)
  E_BadStore : Xv.EC K C_BadStore C_FlowError ["part"]
  iC_BadStore : PySem.W.findIn K (.ref C_BadStore) "__init__" = some (some (.ref a_BadStore_init))
  tI_BadStore : PySem.W.typeIn K (.ref a_BadStore_init) = some (.type "function")
  C_InvalidText : Addr
  g_InvalidText : mg "InvalidText" = some (.ref C_InvalidText)
  E_InvalidText : Xv.EC K C_InvalidText C_FlowError ["line"]
  iC_InvalidText : PySem.W.findIn K (.ref C_InvalidText) "__init__" = some (some (.ref a_InvalidText_init))
  tI_InvalidText : PySem.W.typeIn K (.ref a_InvalidText_init) = some (.type "function")
  nd : [C_BadStore, C_InvalidText, C_FlowError].Nodup
  dfl : Addr
  dfD : Addr
  k_dfl : d_Store_init.kwdefaults = .ref dfD
  n_dfl : PySem.W.nsIn K dfD "resting" = some (some (.ref dfl))
  e_dfl : ∃ (o : Obj) (n : Nat), K.lookup dfl = some o ∧ o.cls = .type "tuple" ∧ o.data = .seq #[] n
  ins_Store : Xo.insB K C_Store = true
  eq_Store : PySem.W.findIn K (.ref C_Store) "__eq__" = some (some (.ref a_Store_eq))
  eqf_Store : PySem.W.isFn K (.ref a_Store_eq) = true
  n_all : mg "all" = none
  n_bool : mg "bool" = none
  n_dict : mg "dict" = none
  n_enumerate : mg "enumerate" = none
  n_int : mg "int" = none
  n_isinstance : mg "isinstance" = none
  n_len : mg "len" = none
  n_list : mg "list" = none
  n_range : mg "range" = none
  n_repr : mg "repr" = none
  n_sorted : mg "sorted" = none
  n_str : mg "str" = none
  n_tuple : mg "tuple" = none
  n_zip : mg "zip" = none
  m_LETTERS : ∃ u, mg "LETTERS" = some u ∧ RelV (.str "abcdefghijklmnopqrstuvwxyz") u
  m_DIGITS : ∃ u, mg "DIGITS" = some u ∧ RelV (.str "0123456789") u
  m_LONGEST_NAME : ∃ u, mg "LONGEST_NAME" = some u ∧ RelV (.int 8) u
  m_MOST_STATES : ∃ u, mg "MOST_STATES" = some u ∧ RelV (.int 3) u
  m_PAIR : ∃ u, mg "PAIR" = some u ∧ RelV (.int 2) u
  m_NOTHING : ∃ u, mg "NOTHING" = some u ∧ RelV (.str "-") u
/-! ### values that are not large, but for their numbers -/
mutual
def okw : PyData → Bool
  | .none | .bool _ | .int _ => true
  | .str x => decide (x.length ≤ 1000)
  | .list xs | .tuple xs => decide (xs.length ≤ 1000) && okwAll xs
  | .dict kvs => kvs.isEmpty
def okwAll : List PyData → Bool
  | [] => true
  | x :: xs => okw x && okwAll xs
end
theorem okwAll_iff : ∀ {l : List PyData}, okwAll l = true ↔ ∀ d ∈ l, okw d = true
  | [] => by simp [okwAll]
  | x :: l => by
    rw [okwAll, Bool.and_eq_true, okwAll_iff (l := l)]
    simp
theorem okw_tup {ds : List PyData} (h : okw (.tuple ds) = true) : ds.length ≤ 1000 ∧ ∀ d ∈ ds, okw d = true := by
  obtain ⟨h1, h2⟩ := Bool.and_eq_true_iff.mp h
  exact ⟨of_decide_eq_true h1, okwAll_iff.mp h2⟩
/-! ### the well -/
/-- a dict of the well -/
def WK (l : Addr) (b c : Int) : List (Key × V) := [(.inr "told", .ref l), (.inr "blend", .int b), (.inr "count", .int c)]
theorem wk_told (l : Addr) (b c : Int) : valV (WK l b c) (.inr "told") = some (.ref l) := by rfl
theorem wk_blend (l : Addr) (b c : Int) : valV (WK l b c) (.inr "blend") = some (.int b) := by rfl
theorem wk_count (l : Addr) (b c : Int) : valV (WK l b c) (.inr "count") = some (.int c) := by rfl
theorem wk_put (l : Addr) (b c d : Int) : putK (WK l b c) (.inr "count") (.int d) = WK l b d := by rfl
/-- a well stands at w, its numbers in the list at l; so many draws at most were made -/
def Well (H : Hp) (w l : Addr) (C : Nat) : Prop := w ≠ l ∧ ∃ (b c : Int) (ns : List Int), H w = some (.dK (WK l b c)) ∧ H l = some (.lst (ns.map V.int)) ∧ 0 ≤ b ∧ b < 2147483587 ∧ 0 ≤ c ∧ c ≤ (C : Int) ∧ ns.length ≤ 63
theorem Well.mono {H : Hp} {w l : Addr} {C C' : Nat} (h : Well H w l C) (q : C ≤ C') : Well H w l C' := by
  obtain ⟨n, b, c, ns, h1, h2, h3, h4, h5, h6, h7⟩ := h
  exact ⟨n, b, c, ns, h1, h2, h3, h4, h5, by omega, h7⟩
theorem Well.same {H H' : Hp} {w l : Addr} {C : Nat} (h : Well H w l C) (k : Same H H') : Well H' w l C := by
  obtain ⟨n, b, c, ns, h1, h2, r⟩ := h
  exact ⟨n, b, c, ns, k _ _ h1, k _ _ h2, r⟩
abbrev LIM : Nat := 1000000000
section
variable {P : Program} {w : World} {K : PySem.W.Frag} {mg : PySem.Str → Option Value} {base : Heap}
def sp_law (K : PySem.W.Frag) : Sp := fun vs H Q _ => ∃ (a : Addr) (ns : List Int), vs = [.ref a] ∧ SqL K H a (ns.map V.int) ∧ ns.length ≤ 63 ∧ ∀ (H' : Hp), Q (.bl true) H'
def sp_well (K : PySem.W.Frag) : Sp := fun vs H Q _ => ∃ (a : Addr) (ns : List Int), vs = [.ref a] ∧ SqL K H a (ns.map V.int) ∧ ns.length ≤ 63 ∧
  ∀ (H' : Hp) (w l : Addr), Same H H' → H w = none → H l = none → Well H' w l 0 → Q (.ref w) H'
def sp_drawn : Sp := fun vs H Q _ => ∃ (w l : Addr) (m : Int) (C : Nat), vs = [.ref w, .int m] ∧ Well H w l C ∧ C < LIM ∧ 0 < m ∧ m < 1073741824 ∧
  ∀ (H' : Hp) (r : Int), Kp [w, l] H H' → Well H' w l (C + 1) → 0 ≤ r → r < m → Q (.int r) H'
theorem cut63 {ns : List Int} (h : ns.length ≤ 63) : cutV (ns.map V.int) none (some 63) = ns.map V.int := by
  unfold cutV
  rw [HT.sIx_none, show HT.sIx (ns.map V.int).length (ns.map V.int).length (some 63) = min 63 (ns.map V.int).length from HT.sIx_nat _ _ 63, List.length_map]
  rw [show min 63 ns.length = ns.length by omega]
  show List.take (ns.length - 0) (ns.map V.int) = _
  exact List.take_of_length_le (by rw [List.length_map]; omega)
theorem mod_in {a m : Int} (h : 0 < m) : 0 ≤ a % m ∧ a % m < m := ⟨Int.emod_nonneg _ (by omega), Int.emod_lt_of_pos _ h⟩
theorem cmul_mod {x m j : Int} (h : 0 < m) (h2 : m ≤ 2 ^ 64) : CMul (x % m) j := .inl ⟨by have := (mod_in (a := x) h).1; omega, by have := (mod_in (a := x) h).2; omega⟩
theorem ok_well (T : Txt K mg) : FnOk P w K mg base CX0 1 T.a_well T.d_well P_well (sp_well K) := by
  refine T.F_well.ok sc_well (fun vs H Q E h => by obtain ⟨a, ns, rfl, _⟩ := h; rfl) (fun cdv A outer s H vs Q E hr h => ?_)
  refine ⟨_, (pss_cons (ps_par (i := 1) (j := 2) (by rfl) sc_well.nd rfl rfl (by decide) rfl rfl (pa_cons (pe_callTy call_list_of (by rfl) T.n_list (by decide +kernel) (pa_cons (pe_slice sl_list (pv 0) po_none (po_some pe_int)) pa_nil)) (pa_cons pe_int pa_nil)) (by rfl))
    (pss_cons (ps_for PassesOwn.never rfl (pi_list (pv 1)) (pg_name (i := 3) sc_well.nd rfl (Or.inl rfl)) (pss_one (ps_set (i := 2) sc_well.nd rfl (Or.inl rfl) (pe_op op_mod (pe_callTy call_int1 (by rfl) T.n_int (by decide +kernel) (pa_cons (pe_op op_add (pe_op op_add (pe_op op_mul (pv 2) pe_int) (pe_op op_mod (pe_callTy call_int1 (by rfl) T.n_int (by decide +kernel) (pa_cons (pv 3) pa_nil)) pe_int)) pe_int) pa_nil)) pe_int))))
    (pss_one (ps_ret (pe_disp (pps_cons pe_str (pe_revL (pv 1)) (pps_cons pe_str (pv 2) (pps_cons pe_str pe_int pps_nil))) (by rfl) (by rfl) (fun z => by cases z) (by decide)))))), ?_⟩
  obtain ⟨a, ns, rfl, hS, hl, q⟩ := h
  refine ⟨_, rfl, 63, rfl, a, ns.map V.int, rfl, hS, fun p hp => ?_⟩
  rw [cut63 hl]
  refine ⟨p, _, rfl, .inl (SqL.of upd_same), fun l hl2 => ?_⟩
  refine ⟨_, _, rfl, ?_⟩
  have pl : l ≠ p := fun e => by
    rw [e, upd_same] at hl2
    cases hl2
  have hl0 : H l = none := by rw [upd_ne pl] at hl2; exact hl2
  have s1 : Same H (upd (upd H p (.lst (ns.map V.int))) l (.lst (ns.map V.int))) := fun b o e => by
    rw [upd_ne (ne_of_none e hl0), upd_ne (ne_of_none e hp)]
    exact e
  generalize hH : upd (upd H p (.lst (ns.map V.int))) l (.lst (ns.map V.int)) = H2 at s1 ⊢
  have hL : H2 l = some (.lst (ns.map V.int)) := by rw [← hH]; exact upd_same
  refine ⟨_, rfl, l, rfl, ⟨_, SqL.of hL⟩, for_list (K := K) (a := l) (xs := ns.map V.int) (fun i σ H' => ∃ (b : Int) (y : Option V), σ = [some (.ref a), some (.ref l), some (.int b), y] ∧ H' = H2 ∧ 0 ≤ b ∧ b < 2147483587)
    ⟨52379, none, rfl, rfl, by decide, by decide⟩ (fun i σ H' _ ⟨_, _, _, e, _⟩ => by rw [e]; exact SqL.of hL) ?_ ?_⟩
  · rintro i x σ H' hi ⟨b, y, rfl, rfl, hb0, hb1⟩
    obtain ⟨z, rfl⟩ : ∃ z, x = V.int z := by
      rw [List.getElem?_map] at hi
      cases e : ns[i]? with
      | none => rw [e] at hi; cases hi
      | some z => rw [e] at hi; exact ⟨z, (Option.some.inj hi).symm⟩
    refine ⟨_, rfl, _, _, rfl, rfl, .inr ⟨by decide, by decide⟩, _, rfl, .inl ⟨_, rfl, _, _, rfl, rfl, (by decide : (0 : Int) < 2147483629), _, _, rfl, rfl, _, _, rfl, rfl, .inl ⟨_, rfl, _, _, rfl, rfl, (by decide : (0 : Int) < 2147483587), ?_⟩⟩⟩
    exact ⟨_, _, rfl, rfl, (mod_in (by decide)).1, (mod_in (by decide)).2⟩
  · rintro σ H' ⟨b, y, rfl, rfl, hb0, hb1⟩
    refine fun d hd => ?_
    have dl : d ≠ l := fun e => by
      rw [e, hL] at hd
      cases hd
    refine ⟨_, rfl, l, ns.map V.int, rfl, SqL.of (by rw [upd_ne dl.symm]; exact hL), fun r hr2 => ?_⟩
    have rd : r ≠ d := fun e => by
      rw [e, upd_same] at hr2
      cases hr2
    have hr0 : H' r = none := by rw [upd_ne rd] at hr2; exact hr2
    refine ⟨_, rfl, ?_⟩
    refine ⟨by rw [upd_ne rd.symm]; exact upd_same, WK r b 0, rfl, (by show 3 ≤ 15; decide), ?_⟩
    refine q _ d r (fun x o e => ?_) (s1.free hd) (s1.free hr0) ⟨rd.symm, b, 0, ns.reverse, ?_, ?_, hb0, hb1, by decide, by decide, by rw [List.length_reverse]; exact hl⟩
    · have e2 := s1 x o e
      rw [upd_ne (ne_of_none e2 hd), upd_ne (ne_of_none e2 hr0), upd_ne (ne_of_none e2 hd)]
      exact e2
    · exact upd_same
    · rw [upd_ne rd, upd_same, List.map_reverse]

theorem ok_drawn (T : Txt K mg) : FnOk P w K mg base CX0 1 T.a_drawn T.d_drawn P_drawn sp_drawn := by
  refine T.F_drawn.ok sc_drawn (fun vs H Q E h => by obtain ⟨w, l, m, C, rfl, _⟩ := h; rfl) (fun cdv A outer s H vs Q E hr h => ?_)
  refine ⟨_, (pss_cons (ps_dput (hu_of hr) (pv 0) pe_str (pe_op op_add (pe_dget (hu_of hr) (pv 0) pe_str (fun _ _ => rfl)) pe_int) rfl)
    (pss_cons (ps_set (i := 2) sc_drawn.nd rfl (Or.inl rfl) (pe_op op_add (pe_dget (hu_of hr) (pv 0) pe_str (fun _ _ => rfl)) (pe_op op_mul (pe_op op_mul pe_int (pe_dget (hu_of hr) (pv 0) pe_str (fun _ _ => rfl))) (pe_dget (hu_of hr) (pv 0) pe_str (fun _ _ => rfl)))))
    (pss_cons (ps_if (pt_cmpR (op_neD hr.units) (pe_dget (hu_of hr) (pv 0) pe_str (fun _ _ => rfl)) (pe_lst pa_nil) (nomark _)) (pss_cons (ps_set (i := 3) sc_drawn.nd rfl (Or.inl rfl) (pe_bm0 PySem.F.plainAttrs_list PySem.F.slot_list_pop PySem.F.type_list_pop mt_pop (pe_dget (hu_of hr) (pv 0) pe_str (fun _ _ => rfl))))
    (pss_cons (ps_if (pt_cmpR op_ge (pv 3) (pe_op op_pow pe_int pe_int) (nomark _)) (pss_cons (ps_expr (pe_bm PySem.F.plainAttrs_list PySem.F.slot_list_append PySem.F.type_list_append mt_append (pe_dget (hu_of hr) (pv 0) pe_str (fun _ _ => rfl)) (pa_cons (pe_op op_fdiv (pv 3) (pv 1)) pa_nil)))
    (pss_one (ps_ret (pe_op op_mod (pe_callTy call_int1 (by rfl) T.n_int (by decide +kernel) (pa_cons (pv 3) pa_nil)) (pv 1))))) pss_nil)
    (pss_one (ps_set (i := 2) sc_drawn.nd rfl (Or.inl rfl) (pe_op op_add (pv 2) (pv 3)))))) pss_nil)
    (pss_cons (ps_set (i := 2) sc_drawn.nd rfl (Or.inl rfl) (pe_op op_mod (pe_callTy call_int1 (by rfl) T.n_int (by decide +kernel) (pa_cons (pe_op op_mul (pe_op op_mod (pe_callTy call_int1 (by rfl) T.n_int (by decide +kernel) (pa_cons (pv 2) pa_nil)) pe_int) pe_int) pa_nil)) pe_int))
    (pss_cons (ps_set (i := 2) sc_drawn.nd rfl (Or.inl rfl) (pe_op op_mod (pe_callTy call_int1 (by rfl) T.n_int (by decide +kernel) (pa_cons (pe_op op_add (pe_op op_add (pe_op op_mul (pv 2) (pv 2)) (pe_op op_mul pe_int (pv 2))) pe_int) pa_nil)) pe_int))
    (pss_one (ps_ret (pe_op op_mod (pe_callTy call_int1 (by rfl) T.n_int (by decide +kernel) (pa_cons (pe_op op_fdiv (pe_op op_mod (pe_callTy call_int1 (by rfl) T.n_int (by decide +kernel) (pa_cons (pe_op op_mul (pv 2) pe_int) pa_nil)) pe_int) pe_int) pa_nil)) (pv 1))))))))), ?_⟩
  obtain ⟨w, l, m, C, rfl, ⟨wl, b, c, ns, hw, hl, b0, b1, c0, c1, n63⟩, hC, m0, m1, q⟩ := h
  refine ⟨_, rfl, w, _, rfl, DGet.k (k := .inr "count") hw, _, _, rfl, rfl, _, rfl, w, _, rfl, DPut.k (k := .inr "count") hw (by show 3 < sizeLine; decide), ?_⟩
  rw [wk_put]
  -- the heap with one draw more
  have k1 : Kp [w, l] H (upd H w (.dK (WK l b (c + 1)))) := (Kp.refl _ H).wr (.inl List.mem_cons_self)
  have hw1 : (upd H w (.dK (WK l b (c + 1)))) w = some (.dK (WK l b (c + 1))) := upd_same
  have hl1 : (upd H w (.dK (WK l b (c + 1)))) l = some (.lst (ns.map V.int)) := by rw [upd_ne wl.symm]; exact hl
  generalize upd H w (.dK (WK l b (c + 1))) = H1 at k1 hw1 hl1 ⊢
  have hC' : (C : Int) < 1000000000 := Int.ofNat_lt.mpr hC
  -- seed
  refine ⟨_, rfl, w, _, rfl, DGet.k (k := .inr "blend") hw1, _, rfl, w, _, rfl, DGet.k (k := .inr "count") hw1, _, _, rfl, rfl, .inl ⟨by decide, by decide⟩, _, rfl, w, _, rfl, DGet.k (k := .inr "count") hw1, _, _, rfl, rfl, .inr ⟨by omega, by omega⟩, _, _, rfl, rfl, ?_⟩
  show tSeq _ _ _ _ _
  generalize b + 60317 * (c + 1) * (c + 1) = seed
  -- if well['told'] != []
  refine ⟨_, rfl, w, _, rfl, DGet.k (k := .inr "told") hw1, Nat.zero_le _, fun p hp => ?_⟩
  have pw : p ≠ w := fun e => by
    rw [e, hw1] at hp
    cases hp
  have pl : p ≠ l := fun e => by
    rw [e, hl1] at hp
    cases hp
  have k2 : Kp [w, l] H (upd H1 p (.lst [])) := k1.trans (Kp.new hp)
  have hw2 : (upd H1 p (.lst [])) w = some (.dK (WK l b (c + 1))) := by rw [upd_ne pw.symm]; exact hw1
  have hl2 : (upd H1 p (.lst [])) l = some (.lst (ns.map V.int)) := by rw [upd_ne pl.symm]; exact hl1
  refine ⟨.list (ns.map .int), .list [], .lst (SqL.of hl2) (dp_ints ns), .lst (SqL.of upd_same) .nil, shaped_ints ns, rfl, _, rfl, ?_⟩
  generalize upd H1 p (.lst []) = H2 at k2 hw2 hl2 ⊢
  rw [eqv_empty]
  have hW2 : ∀ ns' : List Int, ns'.length ≤ 63 → ∀ H3 : Hp, H3 w = some (.dK (WK l b (c + 1))) → H3 l = some (.lst (ns'.map V.int)) → Well H3 w l (C + 1) := fun ns' h63 H3 e1 e2 =>
    ⟨wl, b, c + 1, ns', e1, e2, b0, b1, by omega, by omega, h63⟩
  -- what is left to do, the seed in its slot
  cases ns with
  | nil =>
    refine iteF ?_
    refine ⟨_, rfl, .inl ⟨_, rfl, _, _, rfl, rfl, (by decide : (0 : Int) < 2147483629), _, _, rfl, rfl, cmul_mod (by decide) (by decide), .inl ⟨_, rfl, _, _, rfl, rfl, (by decide : (0 : Int) < 2147483647), ?_⟩⟩⟩
    refine ⟨_, rfl, _, rfl, _, _, rfl, rfl, cmul_mod (by decide) (by decide), _, rfl, _, _, rfl, rfl, .inl ⟨by decide, by decide⟩, _, _, rfl, rfl, _, _, rfl, rfl, .inl ⟨_, rfl, _, _, rfl, rfl, (by decide : (0 : Int) < 2147483563), ?_⟩⟩
    refine ⟨_, rfl, _, _, rfl, rfl, cmul_mod (by decide) (by decide), .inl ⟨_, rfl, _, _, rfl, rfl, (by decide : (0 : Int) < 2147483587), _, _, rfl, rfl, ⟨by decide, by decide⟩, .inl ⟨_, rfl, _, rfl, _, _, rfl, rfl, m0, ?_⟩⟩⟩
    exact q _ _ k2 (hW2 [] (by decide) _ hw2 hl2) (mod_in m0).1 (mod_in m0).2
  | cons z r =>
    refine iteT ?_
    -- number = well['told'].pop()
    have hlast : ((z :: r).map V.int)[((z :: r).map V.int).length - 1]? = some (V.int ((z :: r).getLast (List.cons_ne_nil z r))) := by
      rw [List.length_map, List.getElem?_map, ← List.getLast?_eq_getElem?, List.getLast?_eq_getLast (List.cons_ne_nil z r)]
      rfl
    have hdrop : ((z :: r).map V.int).dropLast = (z :: r).dropLast.map V.int := by rw [List.map_dropLast]
    have hlen : ((z :: r).dropLast).length ≤ 62 := by
      rw [List.length_dropLast]
      omega
    refine ⟨_, rfl, w, _, rfl, DGet.k (k := .inr "told") hw2, .inl ⟨rfl, _, SqL.of hl2⟩, l, _, _, rfl, rfl, hl2, hlast, ?_⟩
    generalize (z :: r).getLast (List.cons_ne_nil z r) = number
    rw [hdrop]
    generalize (z :: r).dropLast = more at hlen
    have hw3 : (upd H2 l (.lst (more.map V.int))) w = some (.dK (WK l b (c + 1))) := by rw [upd_ne wl]; exact hw2
    have hl3 : (upd H2 l (.lst (more.map V.int))) l = some (.lst (more.map V.int)) := upd_same
    have k3 : Kp [w, l] H (upd H2 l (.lst (more.map V.int))) := k2.wr (.inl (List.mem_cons_of_mem _ List.mem_cons_self))
    generalize upd H2 l (.lst (more.map V.int)) = H3 at k3 hw3 hl3 ⊢
    -- if number >= 10 ** 18
    refine ⟨_, rfl, _, _, rfl, rfl, ⟨by decide, by decide, by decide⟩, _, _, rfl, rfl, _, rfl, ite2 (fun e => ?_) (fun e => ?_)⟩
    · refine ⟨_, rfl, w, _, rfl, DGet.k (k := .inr "told") hw3, .inl ⟨rfl, _, SqL.of hl3⟩, _, rfl, _, rfl, _, _, rfl, rfl, ⟨m0, m1⟩, l, _, _, rfl, rfl, hl3, by rw [List.length_map, sizeLine_eq]; omega, ?_⟩
      refine ⟨_, rfl, .inl ⟨_, rfl, _, rfl, _, _, rfl, rfl, m0, ?_⟩⟩
      refine q _ _ (k3.wr (.inl (List.mem_cons_of_mem _ List.mem_cons_self))) (hW2 (more ++ [number / m]) (by rw [List.length_append, List.length_singleton]; omega) _ (by rw [upd_ne wl]; exact hw3) (by rw [upd_same, List.map_append]; rfl)) (mod_in m0).1 (mod_in m0).2
    · refine ⟨_, rfl, _, rfl, _, _, rfl, rfl, ?_⟩
      refine ⟨_, rfl, .inl ⟨_, rfl, _, _, rfl, rfl, (by decide : (0 : Int) < 2147483629), _, _, rfl, rfl, cmul_mod (by decide) (by decide), .inl ⟨_, rfl, _, _, rfl, rfl, (by decide : (0 : Int) < 2147483647), ?_⟩⟩⟩
      refine ⟨_, rfl, _, rfl, _, _, rfl, rfl, cmul_mod (by decide) (by decide), _, rfl, _, _, rfl, rfl, .inl ⟨by decide, by decide⟩, _, _, rfl, rfl, _, _, rfl, rfl, .inl ⟨_, rfl, _, _, rfl, rfl, (by decide : (0 : Int) < 2147483563), ?_⟩⟩
      refine ⟨_, rfl, _, _, rfl, rfl, cmul_mod (by decide) (by decide), .inl ⟨_, rfl, _, _, rfl, rfl, (by decide : (0 : Int) < 2147483587), _, _, rfl, rfl, ⟨by decide, by decide⟩, .inl ⟨_, rfl, _, rfl, _, _, rfl, rfl, m0, ?_⟩⟩⟩
      exact q _ _ k3 (hW2 more (by omega) _ hw3 hl3) (mod_in m0).1 (mod_in m0).2
end
end K04
set_option Elab.async false
set_option linter.all false
set_option maxRecDepth 100000
set_option maxHeartbeats 4000000
/-! k04: is_integer .. are_states. -/
namespace K04
open PySem PySem.Spec PyProof.Rows L2 Zg Zr Zd Zv
/-! ### what the program's small questions answer -/
def isInt (d : PyData) : Bool := isA "int" d && !isA "bool" d
def ABC : List Nat := ("abcdefghijklmnopqrstuvwxyz" : PySem.Str).cps.toList
def isName : PyData → Bool
  | .str x => decide (1 ≤ x.length) && decide (x.length ≤ 8) && x.cps.toList.all fun c => decide (c ∈ ABC)
  | _ => false
section
variable {P : Program} {w : World} {K : PySem.W.Frag} {mg : PySem.Str → Option Value} {base : Heap}
def sp_val (F : PyData → Bool) : Sp := fun vs H Q _ => ∃ (S : List Addr) (v : V) (d : PyData), vs = [v] ∧ Dv S H v d ∧ okw d = true ∧ ∀ (H' : Hp), Same H H' → Q (.bl (F d)) H'
theorem len1 {vs : List V} {v : V} (e : vs = [v]) : vs.length = 1 := by rw [e]; rfl
theorem ok_is_integer (T : Txt K mg) : FnOk P w K mg base CX0 1 T.a_is_integer T.d_is_integer P_is_integer (sp_val isInt) := by
  refine T.F_is_integer.ok sc_is_integer (fun vs H Q E h => by obtain ⟨S, v, d, rfl, _⟩ := h; rfl) (fun cdv A outer s H vs Q E hr h => ?_)
  refine ⟨_, (pss_one (ps_ret (pe_and (pe_callB call_isi (by rfl) T.n_isinstance (by decide +kernel) (pa_cons (pv 0) (pa_cons (pe_bltn (v := .ty "int") (u := .type "int") (by rfl) T.n_int (by decide +kernel) rfl) pa_nil))) (pe_one (pe_not (pe_callB call_isi (by rfl) T.n_isinstance (by decide +kernel) (pa_cons (pv 0) (pa_cons (pe_bltn (v := .ty "bool") (u := .type "bool") (by rfl) T.n_bool (by decide +kernel) rfl) pa_nil)))))))), ?_⟩
  obtain ⟨S, v, d, rfl, hd, hv, q⟩ := h
  refine ⟨_, rfl, v, .ty "int", _, _, _, rfl, .ty _, hd.ty, kit_all K _ (by decide) _ (tyD_mem d), ?_⟩
  have q' := q H (Same.refl H)
  refine ⟨_, rfl, ite2 (fun e => ?_) (fun e => ?_)⟩
  · refine ⟨_, rfl, v, .ty "bool", _, _, _, rfl, .ty _, hd.ty, kit_all K _ (by decide) _ (tyD_mem d), _, rfl, ?_⟩
    unfold isInt isA at q'
    rw [e] at q'
    exact q'
  · unfold isInt isA at q'
    rw [Bool.not_eq_true] at e
    rw [e] at q'
    exact q'
theorem ok_is_name (T : Txt K mg) : FnOk P w K mg base CX0 1 T.a_is_name T.d_is_name P_is_name (sp_val isName) := by
  refine T.F_is_name.ok sc_is_name (fun vs H Q E h => by obtain ⟨S, v, d, rfl, _⟩ := h; rfl) (fun cdv A outer s H vs Q E hr h => ?_)
  refine ⟨_, (pss_cons (ps_if (PW.pt (pw_or (pt_not (pt_val (pe_callB call_isi (by rfl) T.n_isinstance (by decide +kernel) (pa_cons (pv 0) (pa_cons (pe_bltn (v := .ty "str") (u := .type "str") (by rfl) T.n_str (by decide +kernel) rfl) pa_nil))))) (pw_or1 (pt_not (pt_chain op_le op_le pe_int (pe_callB call_len_str (by rfl) T.n_len (by decide +kernel) (pa_cons (pv 0) pa_nil)) (C8.pe_gc rfl T.m_LONGEST_NAME)))))) (pss_one (ps_ret pe_bl)) pss_nil)
    (pss_one (ps_ret (pe_callB (cr_all rfl) (by rfl) T.n_all (by decide +kernel) (pa_cons (pe_lc (own := [("letter", 1)]) rfl sc_is_name.nd (pi_str (pv 0)) (blkOk_by (own := [("letter", 1)]) (N := N_is_name) (sc := defScope s_is_name) (by decide +kernel)) (fun _ _ _ _ _ => (pg_name (i := 1) sc_is_name.nd rfl (Or.inl rfl))) (fun _ _ _ _ _ => pts_nil) (fun _ _ _ _ _ => (pe_cmpR op_in_sign (pv 1) (C8.pe_gc rfl T.m_LETTERS) rfl))) pa_nil))))), ?_⟩
  obtain ⟨S, v, d, rfl, hd, hv, q⟩ := h
  refine ⟨_, rfl, v, .ty "str", _, _, _, rfl, .ty _, hd.ty, kit_all K _ (by decide) _ (tyD_mem d), _, rfl, ?_⟩
  by_cases hs : isA "str" d = true
  · obtain ⟨x, rfl, rfl⟩ := hd.text hs
    refine iteF ?_
    have hx : x.length ≤ 1000 := by
      have h' : decide (x.length ≤ 1000) = true := hv
      exact of_decide_eq_true h'
    have qF : isName (.str x) = false → Q (.bl false) H := fun e => by
      have q' := q H (Same.refl H)
      rw [e] at q'
      exact q'
    refine ⟨_, rfl, x, rfl, by rw [sizeLine_eq]; omega, _, _, rfl, rfl, _, rfl, ite2 (fun e => ?_) (fun e => ?_)⟩
    · refine ⟨_, _, rfl, rfl, _, rfl, ?_⟩
      by_cases h8 : (x.length : Int) ≤ 8
      · rw [decide_eq_true h8]
        refine iteF ?_
        refine ⟨_, rfl, x, rfl, fun D hD => ?_⟩
        refine lc_it (walk_str (z := x)) (fun i H' => Same H H' ∧ H' D = some (.lst (((x.cps.toList.take i).map fun c => decide (c ∈ ABC)).map V.bl))) ⟨same_new hD, upd_same⟩ (fun _ _ _ _ => True.intro) ?_ ?_
        · rintro i y H1 H2 hi ⟨k, hDl⟩ ⟨rfl, c, hc, rfl⟩
          have hc' : x.cps.toList[i]? = some c := by simpa using hc
          refine ⟨rfl, _, rfl, c, _, rfl, rfl, _, hDl, ?_, ?_, ?_⟩
          · rw [List.length_map, List.length_map, List.length_take, sizeLine_eq]
            have : x.cps.toList.length = x.length := by simp [PySem.Str.length]
            omega
          · exact fun b o eb => by rw [upd_ne (ne_of_none eb hD)]; exact k _ _ eb
          · rw [upd_same, List.take_succ, hc', List.map_append, List.map_append]
            rfl
        · rintro H1 ⟨k, hDl⟩
          refine ⟨D, _, rfl, SqL.of hDl, ?_⟩
          have q' := q H1 k
          have e2 : isName (.str x) = ((x.cps.toList.take x.cps.size).map fun c => decide (c ∈ ABC)).all id := by
            have h1 : 1 ≤ x.length := by have := of_decide_eq_true e; omega
            show (decide (1 ≤ x.length) && decide (x.length ≤ 8) && x.cps.toList.all fun c => decide (c ∈ ABC)) = _
            rw [decide_eq_true h1, decide_eq_true (by omega : x.length ≤ 8), List.all_map, show x.cps.size = x.cps.toList.length by simp, List.take_length]
            rfl
          rw [e2] at q'
          exact q'
      · rw [decide_eq_false h8]
        refine iteT ?_
        refine qF ?_
        show (decide (1 ≤ x.length) && decide (x.length ≤ 8) && x.cps.toList.all fun c => decide (c ∈ ABC)) = false
        rw [decide_eq_false (by omega : ¬ x.length ≤ 8), Bool.and_false]
        rfl
    · have h1 : ¬ 1 ≤ x.length := fun h => e (decide_eq_true (by omega))
      refine ⟨_, rfl, iteT ?_⟩
      refine qF ?_
      show (decide (1 ≤ x.length) && decide (x.length ≤ 8) && x.cps.toList.all fun c => decide (c ∈ ABC)) = false
      rw [decide_eq_false h1]
      rfl
  · have e : isB "str" (tyD d) = false := by rw [Bool.not_eq_true] at hs; exact hs
    rw [e]
    refine iteT (iteT ?_)
    have q' := q H (Same.refl H)
    have e2 : isName d = false := by
      cases d with
      | str x => exact absurd rfl hs
      | _ => rfl
    rw [e2] at q'
    exact q'
/-- one below the next -/
def asc : List Int → Bool
  | [] => true
  | [_] => true
  | a :: b :: r => decide (a < b) && asc (b :: r)
theorem asc_all : ∀ ns : List Int, asc ns = ((ns.zip ns.tail).map fun p => decide (p.1 < p.2)).all id
  | [] => rfl
  | [_] => rfl
  | a :: b :: r => by
    show (decide (a < b) && asc (b :: r)) = _
    rw [asc_all (b :: r)]
    rfl
/-- the empty tuple that stands in what was written -/
def EmpK (K : PySem.W.Frag) (t : Addr) : Prop := ∃ (o : Obj) (n : Nat), K.lookup t = some o ∧ o.cls = .type "tuple" ∧ o.data = .seq #[] n
/-- a tuple, whatever else is made -/
def Sq (K : PySem.W.Frag) (H : Hp) (a : Addr) (xs : List V) : Prop := H a = some (.tup xs) ∨ (xs = [] ∧ EmpK K a)
theorem Sq.same {K : PySem.W.Frag} {H H' : Hp} {a : Addr} {xs : List V} (h : Sq K H a xs) (k : Same H H') : Sq K H' a xs := h.imp (k _ _) id
theorem Sq.sqt {K : PySem.W.Frag} {H : Hp} {a : Addr} {xs : List V} (h : Sq K H a xs) : SqT K H a xs := by
  rcases h with h | ⟨rfl, o, n, h1, h2, h3⟩
  · exact SqT.of h
  · exact .inr ⟨o, #[], n, h1, h2, h3, Nat.zero_le _, .nil⟩
theorem Sq.ty {K : PySem.W.Frag} {H : Hp} {a : Addr} {xs : List V} (h : Sq K H a xs) : TyX K H (.ref a) (.type "tuple") := by
  rcases h with h | ⟨rfl, o, n, h1, h2, h3⟩
  · exact .base (.tup h)
  · exact .kTuple h1 h2
theorem slQ_from {K : PySem.W.Frag} {H : Hp} {Q : VK} {a : Addr} {xs : List V} {n : Int} {k : Nat} (hn : n = (k : Int)) (ha : Sq K H a xs) (q : ∀ H' p, Same H H' → Sq K H' p (xs.drop k) → Q (.ref p) H') : rSlA K (.ref a) (some n) none H Q := by
  rcases ha with ha | ⟨rfl, he⟩
  · exact slA_from hn ha fun H' p k1 hp _ => q H' p k1 (.inl hp)
  · subst hn
    refine ⟨a, [], rfl, Sq.sqt (.inr ⟨rfl, he⟩), fun hw => q H a (Same.refl H) (.inr ⟨List.drop_nil, he⟩), fun hw p hp => q _ p (same_new hp) (.inl ?_)⟩
    rw [upd_same]
    unfold cutV
    simp
/-- a value, or the empty tuple that was written -/
def Rv (K : PySem.W.Frag) (S : List Addr) (H : Hp) (v : V) (d : PyData) : Prop := Dv S H v d ∨ ∃ t, v = .ref t ∧ d = .tuple [] ∧ EmpK K t
theorem Rv.kp {K : PySem.W.Frag} {S : List Addr} {H H' : Hp} {v : V} {d : PyData} (h : Rv K S H v d) (k : Kp S H H') : Rv K S H' v d := h.imp (Dv.kp k) id
theorem Rv.sub {K : PySem.W.Frag} {S S' : List Addr} {H : Hp} {v : V} {d : PyData} (h : Rv K S H v d) (e : ∀ a ∈ S', a ∈ S) : Rv K S' H v d := h.imp (Dv.sub e) id
theorem Rv.fresh {K : PySem.W.Frag} {S : List Addr} {H : Hp} {p : Addr} {v : V} {d : PyData} (n : H p = none) (h : Rv K S H v d) : Rv K (p :: S) H v d := h.imp (Dv.fresh n) id
theorem Rv.ty {K : PySem.W.Frag} {S : List Addr} {H : Hp} {v : V} {d : PyData} (h : Rv K S H v d) : TyX K H v (.type (tyD d)) := by
  rcases h with h | ⟨t, rfl, rfl, o, n, h1, h2, h3⟩
  · exact h.ty
  · exact .kTuple h1 h2
theorem Rv.tuple {K : PySem.W.Frag} {S : List Addr} {H : Hp} {v : V} {d : PyData} (h : Rv K S H v d) (e : isA "tuple" d = true) : ∃ a xs ds, v = .ref a ∧ d = .tuple ds ∧ Sq K H a xs ∧ DvAll S H xs ds := by
  rcases h with h | ⟨t, rfl, rfl, he⟩
  · obtain ⟨a, xs, ds, h1, h2, h3, _, h4⟩ := h.tuple e
    exact ⟨a, xs, ds, h1, h2, .inl h3, h4⟩
  · exact ⟨t, [], [], rfl, rfl, .inr ⟨rfl, he⟩, .nil⟩
def sp_asc (K : PySem.W.Frag) : Sp := fun vs H Q _ => ∃ (a : Addr) (ns : List Int), vs = [.ref a] ∧ Sq K H a (ns.map V.int) ∧ ns.length ≤ 1000 ∧ ∀ (H' : Hp), Same H H' → Q (.bl (asc ns)) H'
theorem walk_zipT {K : PySem.W.Frag} {a b : Addr} {xs ys : List V} {n : Nat} (hn : n = min xs.length ys.length) : Walk (RZ.ItzT K a b) n (fun H => SqT K H a xs ∧ SqT K H b ys) (YPair (fun i => xs[i]?) (fun i => ys[i]?)) := by
  subst hn
  refine ⟨fun i _ hi q => ?_, fun _ q => ⟨xs, ys, q.1, q.2, by omega⟩, fun i H v H' _ q y => ?_⟩
  · have h1 : i < xs.length := by omega
    have h2 : i < ys.length := by omega
    exact ⟨xs, ys, xs[i], ys[i], q.1, q.2, by simp [h1], by simp [h2]⟩
  · obtain ⟨T, x, z, h1, h2, h3, h4, h5⟩ := y
    exact ⟨T, x, z, h1, h2, h3, h4 xs q.1, h5 ys q.2⟩
theorem ok_are_ascending (T : Txt K mg) : FnOk P w K mg base CX0 1 T.a_are_ascending T.d_are_ascending P_are_ascending (sp_asc K) := by
  refine T.F_are_ascending.ok sc_are_ascending (fun vs H Q E h => by obtain ⟨a, ns, rfl, _⟩ := h; rfl) (fun cdv A outer s H vs Q E hr h => ?_)
  refine ⟨_, (pss_one (ps_ret (pe_and (pe_callB call_isi (by rfl) T.n_isinstance (by decide +kernel) (pa_cons (pv 0) (pa_cons (pe_bltn (v := .ty "tuple") (u := .type "tuple") (by rfl) T.n_tuple (by decide +kernel) rfl) pa_nil))) (pe_one (pe_callB (cr_all rfl) (by rfl) T.n_all (by decide +kernel) (pa_cons (pe_lc (own := [("one", 1), ("other", 2)]) rfl sc_are_ascending.nd (RZ.pi_zipA (by rfl) T.n_zip (pa_cons (pv 0) (pa_cons (pe_slice sl_tupA (pv 0) (po_some pe_int) po_none) pa_nil))) (blkOk_by (own := [("one", 1), ("other", 2)]) (N := N_are_ascending) (sc := defScope s_are_ascending) (by decide +kernel)) (fun _ _ _ _ _ => (show PG _ _ (gTup K 2 _) from (pg_tup (by rfl) (pgs_cons (pg_name (i := 1) sc_are_ascending.nd rfl (Or.inl rfl)) (pgs_cons (pg_name (i := 2) sc_are_ascending.nd rfl (Or.inl rfl)) pgs_nil))))) (fun _ _ _ _ _ => pts_nil) (fun _ _ _ _ _ => (pe_cmpR op_lt (pv 1) (pv 2) (nomark _)))) pa_nil)))))), ?_⟩
  obtain ⟨a, ns, rfl, ha, hl, q⟩ := h
  refine ⟨_, rfl, .ref a, .ty "tuple", _, _, true, rfl, .ty _, ha.ty, rfl, _, rfl, ?_⟩
  refine iteT ?_
  refine ⟨_, rfl, _, rfl, 1, rfl, ?_⟩
  dsimp only [tNoPart]
  refine slQ_from (K := K) (n := 1) (k := 1) rfl ha fun H1 b k1 hb => ?_
  have hnl : (ns.zip ns.tail).length = min ((ns.map V.int).length) (((ns.map V.int).drop 1).length) := by
    rw [List.length_zip, List.length_map, List.length_drop, List.length_map, List.length_tail]
  refine ⟨a, b, _, _, rfl, .inr ⟨(ha.same k1).sqt, hb.sqt, fun D hD => ?_⟩⟩
  refine lc_it (walk_zipT (n := (ns.zip ns.tail).length) hnl) (fun i H' => Same H1 H' ∧ H' D = some (.lst ((((ns.zip ns.tail).take i).map fun p => decide (p.1 < p.2)).map V.bl))) ⟨same_new hD, upd_same⟩ (fun i H' _ p => ⟨((ha.same k1).same p.1).sqt, (hb.same p.1).sqt⟩) ?_ ?_
  · rintro i x H2 H3 hi ⟨k, hDl⟩ ⟨t, y, z, rfl, ht, rfl, hy, hz⟩
    have hi1 : i < ns.length ∧ i < ns.tail.length := by
      rw [List.length_zip] at hi
      omega
    dsimp only [] at hy hz
    have e1 : y = .int ns[i] := by
      rw [List.getElem?_map, List.getElem?_eq_getElem hi1.1] at hy
      exact (Option.some.inj hy).symm
    have hi2 : i + 1 < ns.length := by have := hi1.2; rw [List.length_tail] at this; omega
    have e2 : z = .int ns.tail[i] := by
      rw [List.getElem?_drop, List.getElem?_map, Nat.add_comm, List.getElem?_eq_getElem hi2] at hz
      rw [List.getElem_tail]
      exact (Option.some.inj hz).symm
    subst e1
    subst e2
    have tD : D ≠ t := ne_of_none hDl ht
    refine ⟨_, _, rfl, SqT.of upd_same, rfl, _, _, rfl, _, _, rfl, rfl, rfl, _, rfl, _, rfl, _, _, rfl, rfl, _, by rw [upd_ne tD]; exact hDl, ?_, ?_, ?_⟩
    · rw [List.length_map, List.length_map, List.length_take, sizeLine_eq]
      omega
    · exact fun b o eb => by
        rw [upd_ne (ne_of_none eb hD)]
        exact same_new ht _ _ (k _ _ eb)
    · rw [upd_same, List.take_succ, List.getElem?_eq_getElem hi, List.map_append, List.map_append, List.getElem_zip]
      rfl
  · rintro H2 ⟨k, hDl⟩
    refine ⟨D, _, rfl, SqL.of hDl, ?_⟩
    rw [List.take_length]
    have q' := q H2 (k1.trans k)
    rw [asc_all] at q'
    exact q'
def isSt (n : Int) : PyData → Bool
  | .int i => decide (0 ≤ i) && decide (i < n)
  | _ => false
def sp_state : Sp := fun vs H Q _ => ∃ (n : Int) (S : List Addr) (v : V) (d : PyData), vs = [.int n, v] ∧ Dv S H v d ∧ okw d = true ∧ ∀ (H' : Hp), Same H H' → Q (.bl (isSt n d)) H'
theorem ok_is_state (T : Txt K mg) : FnOk P w K mg base CX0 2 T.a_is_state T.d_is_state P_is_state sp_state := by
  refine T.F_is_state.ok sc_is_state (fun vs H Q E h => by obtain ⟨n, S, v, d, rfl, _⟩ := h; rfl) (fun cdv A outer s H vs Q E hr h => ?_)
  refine ⟨_, (pss_one (ps_ret (pe_and (pe_call (ok_is_integer T) (hr.mono (by decide)) (by rfl) T.g_is_integer T.F_is_integer.kp T.b_is_integer .nil pass0 (pa_cons (pv 1) pa_nil)) (pe_one (pe_chain op_le op_lt pe_int (pv 1) (pv 0)))))), ?_⟩
  obtain ⟨n, S, v, d, rfl, hd, hv, q⟩ := h
  refine ⟨_, rfl, S, v, d, rfl, hd, hv, fun H1 k1 => ?_⟩
  have q' := q H1 k1
  refine ⟨_, rfl, ite2 (fun e => ?_) (fun e => ?_)⟩
  · have e2 : isA "int" d = true ∧ isA "bool" d = false := by
      have h : (isA "int" d && !isA "bool" d) = true := e
      rw [Bool.and_eq_true, Bool.not_eq_true'] at h
      exact h
    obtain ⟨i, rfl, rfl⟩ := hd.number e2.1 e2.2
    refine ⟨_, rfl, _, _, rfl, rfl, _, rfl, ite2 (fun h => ?_) (fun h => ?_)⟩
    · refine ⟨_, rfl, _, _, rfl, rfl, ?_⟩
      have e3 : isSt n (.int i) = decide (i < n) := by
        show (decide (0 ≤ i) && decide (i < n)) = _
        rw [h]; rfl
      rw [e3] at q'
      exact q'
    · have e3 : isSt n (.int i) = false := by
        show (decide (0 ≤ i) && decide (i < n)) = _
        rw [Bool.not_eq_true] at h
        rw [h]; rfl
      rw [e3] at q'
      exact q'
  · have e3 : isSt n d = false := by
      cases d with
      | int i => exact absurd rfl e
      | _ => rfl
    rw [e3] at q'
    exact q'
def intOf : PyData → Int
  | .int i => i
  | _ => 0
def areStates (n : Int) : PyData → Bool
  | .tuple ds => ds.all (isSt n) && asc (ds.map intOf)
  | _ => false
theorem ints_of {n : Int} {S : List Addr} {H : Hp} : ∀ {xs : List V} {ds : List PyData}, DvAll S H xs ds → ds.all (isSt n) = true → xs = (ds.map intOf).map V.int
  | _, _, .nil, _ => rfl
  | _, _, .cons h t, e => by
    rw [List.all_cons, Bool.and_eq_true] at e
    rw [List.map_cons, List.map_cons, ← ints_of t e.2]
    cases h with
    | int i => rfl
    | non => cases e.1
    | bl b => cases e.1
    | str x => cases e.1
    | lst h n t => cases e.1
    | tup h n t => cases e.1
    | dic h n => cases e.1
def sp_states (K : PySem.W.Frag) : Sp := fun vs H Q _ => ∃ (n : Int) (S : List Addr) (v : V) (d : PyData), vs = [.int n, v] ∧ Rv K S H v d ∧ okw d = true ∧ ∀ (H' : Hp), Same H H' → Q (.bl (areStates n d)) H'
theorem ok_are_states (T : Txt K mg) : FnOk P w K mg base CX0 3 T.a_are_states T.d_are_states P_are_states (sp_states K) := by
  refine T.F_are_states.ok sc_are_states (fun vs H Q E h => by obtain ⟨n, S, v, d, rfl, _⟩ := h; rfl) (fun cdv A outer s H vs Q E hr h => ?_)
  refine ⟨_, (pss_one (ps_ret (pe_and (pe_callB call_isi (by rfl) T.n_isinstance (by decide +kernel) (pa_cons (pv 1) (pa_cons (pe_bltn (v := .ty "tuple") (u := .type "tuple") (by rfl) T.n_tuple (by decide +kernel) rfl) pa_nil))) (pe_and (pe_callB (cr_all rfl) (by rfl) T.n_all (by decide +kernel) (pa_cons (pe_lc (own := [("one", 2)]) rfl sc_are_states.nd (pi_tup (pv 1)) (blkOk_by (own := [("one", 2)]) (N := N_are_states) (sc := defScope s_are_states) (by decide +kernel)) (fun _ _ _ _ _ => (pg_name (i := 2) sc_are_states.nd rfl (Or.inl rfl))) (fun _ _ _ _ _ => pts_nil) (fun _ _ _ _ _ => (pe_call (ok_is_state T) (hr.mono (by decide)) (by rfl) T.g_is_state T.F_is_state.kp T.b_is_state .nil pass0 (pa_cons (pv 0) (pa_cons (pv 2) pa_nil))))) pa_nil)) (pe_one (pe_call (ok_are_ascending T) (hr.mono (by decide)) (by rfl) T.g_are_ascending T.F_are_ascending.kp T.b_are_ascending .nil pass0 (pa_cons (pv 1) pa_nil))))))), ?_⟩
  obtain ⟨n, S, v, d, rfl, hd, hv, q⟩ := h
  refine ⟨_, rfl, v, .ty "tuple", _, _, _, rfl, .ty _, hd.ty, kit_all K _ (by decide) _ (tyD_mem d), ?_⟩
  refine ⟨_, rfl, ite2 (fun e => ?_) (fun e => ?_)⟩
  · obtain ⟨a, xs, ds, rfl, rfl, ha, hx⟩ := hd.tuple e
    obtain ⟨hl, hok⟩ := okw_tup hv
    refine ⟨_, rfl, a, rfl, ⟨_, ha.sqt⟩, fun D hD => ?_⟩
    refine lc_tup (K := K) (a := a) (xs := xs) (fun i H' => Same H H' ∧ H' D = some (.lst (((ds.take i).map (isSt n)).map V.bl))) ⟨same_new hD, upd_same⟩ (fun i H' _ p => (ha.same p.1).sqt) ?_ ?_
    · rintro i x H1 hi ⟨k, hDl⟩
      obtain ⟨d, hdi, hdx⟩ := hx.get hi
      refine ⟨rfl, _, rfl, _, rfl, n, S, x, d, rfl, hdx.kp (Kp.of k), hok d (List.mem_of_getElem? hdi), fun H2 k2 => ?_⟩
      refine ⟨_, k2 _ _ hDl, ?_, ?_, ?_⟩
      · rw [List.length_map, List.length_map, List.length_take, sizeLine_eq]
        omega
      · exact fun b o eb => by
          rw [upd_ne (ne_of_none eb hD)]
          exact k2 _ _ (k _ _ eb)
      · rw [upd_same, List.take_succ, hdi, List.map_append, List.map_append]
        rfl
    · rintro H1 ⟨k, hDl⟩
      rw [hx.length, List.take_length] at hDl
      refine ⟨D, _, rfl, SqL.of hDl, _, rfl, ?_⟩
      have e1 : (ds.map (isSt n)).all id = ds.all (isSt n) := by rw [List.all_map]; rfl
      rw [e1]
      refine ite2 (fun e2 => ?_) (fun e2 => ?_)
      · have hxi := ints_of hx e2
        refine ⟨_, rfl, a, ds.map intOf, rfl, by rw [← hxi]; exact ha.same k, by rw [List.length_map]; exact hl, fun H2 k2 => ?_⟩
        have q' := q H2 (k.trans k2)
        have e3 : areStates n (.tuple ds) = asc (ds.map intOf) := by
          show (ds.all (isSt n) && _) = _
          rw [e2]; rfl
        rw [e3] at q'
        exact q'
      · have q' := q H1 k
        have e3 : areStates n (.tuple ds) = false := by
          show (ds.all (isSt n) && _) = _
          rw [Bool.not_eq_true] at e2
          rw [e2]; rfl
        rw [e3] at q'
        exact q'
  · have q' := q H (Same.refl H)
    have e3 : areStates n d = false := by
      cases d with
      | tuple ds => exact absurd rfl e
      | _ => rfl
    rw [e3] at q'
    exact q'
def isSz : PyData → Bool
  | .int i => decide (1 ≤ i) && decide (i ≤ 3)
  | _ => false
theorem ok_is_size (T : Txt K mg) : FnOk P w K mg base CX0 2 T.a_is_size T.d_is_size P_is_size (sp_val isSz) := by
  refine T.F_is_size.ok sc_is_size (fun vs H Q E h => by obtain ⟨S, v, d, rfl, _⟩ := h; rfl) (fun cdv A outer s H vs Q E hr h => ?_)
  refine ⟨_, (pss_one (ps_ret (pe_and (pe_call (ok_is_integer T) (hr.mono (by decide)) (by rfl) T.g_is_integer T.F_is_integer.kp T.b_is_integer .nil pass0 (pa_cons (pv 0) pa_nil)) (pe_one (pe_chain op_le op_le pe_int (pv 0) (C8.pe_gc rfl T.m_MOST_STATES)))))), ?_⟩
  obtain ⟨S, v, d, rfl, hd, hv, q⟩ := h
  refine ⟨_, rfl, S, v, d, rfl, hd, hv, fun H1 k1 => ?_⟩
  have q' := q H1 k1
  refine ⟨_, rfl, ite2 (fun e => ?_) (fun e => ?_)⟩
  · have e2 : isA "int" d = true ∧ isA "bool" d = false := by
      have h : (isA "int" d && !isA "bool" d) = true := e
      rw [Bool.and_eq_true, Bool.not_eq_true'] at h
      exact h
    obtain ⟨i, rfl, rfl⟩ := hd.number e2.1 e2.2
    refine ⟨_, rfl, _, _, rfl, rfl, _, rfl, ite2 (fun h => ?_) (fun h => ?_)⟩
    · refine ⟨_, _, rfl, rfl, ?_⟩
      have e3 : isSz (.int i) = decide (i ≤ 3) := by
        show (decide (1 ≤ i) && decide (i ≤ 3)) = _
        rw [h]; rfl
      rw [e3] at q'
      exact q'
    · have e3 : isSz (.int i) = false := by
        show (decide (1 ≤ i) && decide (i ≤ 3)) = _
        rw [Bool.not_eq_true] at h
        rw [h]; rfl
      rw [e3] at q'
      exact q'
  · have e3 : isSz d = false := by
      cases d with
      | int i => exact absurd rfl e
      | _ => rfl
    rw [e3] at q'
    exact q'
end
end K04
set_option Elab.async false
set_option linter.all false
set_option maxRecDepth 100000
set_option maxHeartbeats 4000000
/-! k04: is_action, check_store. -/
namespace K04
open PySem PySem.Spec PyProof.Rows L2 Zg Zr Zd Zv
def isMv (n : Int) : PyData → Bool
  | .none => true
  | d => isSt n d
def isAct (n : Int) : PyData → Bool
  | .tuple [a, .tuple ms] => isName a && decide ((ms.length : Int) = n) && ms.all (isMv n)
  | _ => false
theorem two_of {α : Type} {l : List α} (h : l.length = 2) : ∃ a b, l = [a, b] := by
  match l, h with
  | [a, b], _ => exact ⟨a, b, rfl⟩
theorem isAct_not {n : Int} {ds : List PyData} (h : ds.length ≠ 2) : isAct n (.tuple ds) = false := by
  match ds, h with
  | [], _ => rfl
  | [_], _ => rfl
  | [_, _], h => exact absurd rfl h
  | _ :: b :: _ :: _, _ => cases b <;> rfl
theorem ne_len {a : Nat} : (!decide (V.int (a : Int) = V.int 2)) = true ↔ a ≠ 2 := by
  rw [Bool.not_eq_true', decide_eq_false_iff_not]
  constructor
  · intro h e
    subst e
    exact h rfl
  · intro h e
    injection e with e
    omega
section
variable {P : Program} {w : World} {K : PySem.W.Frag} {mg : PySem.Str → Option Value} {base : Heap}
def sp_action : Sp := fun vs H Q _ => ∃ (n : Int) (S : List Addr) (v : V) (d : PyData), vs = [.int n, v] ∧ Dv S H v d ∧ okw d = true ∧ ∀ (H' : Hp), Same H H' → Q (.bl (isAct n d)) H'
theorem ok_is_action (T : Txt K mg) : FnOk P w K mg base CX0 3 T.a_is_action T.d_is_action P_is_action sp_action := by
  refine T.F_is_action.ok sc_is_action (fun vs H Q E h => by obtain ⟨n, S, v, d, rfl, _⟩ := h; rfl) (fun cdv A outer s H vs Q E hr h => ?_)
  refine ⟨_, (pss_cons (ps_if (PW.pt (pw_or (pt_not (pt_val (pe_callB call_isi (by rfl) T.n_isinstance (by decide +kernel) (pa_cons (pv 1) (pa_cons (pe_bltn (v := .ty "tuple") (u := .type "tuple") (by rfl) T.n_tuple (by decide +kernel) rfl) pa_nil))))) (pw_or (pt_cmpR op_ne (pe_callB call_len_seq (by rfl) T.n_len (by decide +kernel) (pa_cons (pv 1) pa_nil)) (C8.pe_gc rfl T.m_PAIR) (nomark _)) (pw_or1 (pt_not (pt_val (pe_call (ok_is_name T) (hr.mono (by decide)) (by rfl) T.g_is_name T.F_is_name.kp T.b_is_name .nil pass0 (pa_cons (pe_ix ix_tup (pv 1) pe_int (fun _ _ => rfl)) pa_nil)))))))) (pss_one (ps_ret pe_bl)) pss_nil)
    (pss_cons (ps_if (PW.pt (pw_or (pt_not (pt_val (pe_callB call_isi (by rfl) T.n_isinstance (by decide +kernel) (pa_cons (pe_ix ix_tup (pv 1) pe_int (fun _ _ => rfl)) (pa_cons (pe_bltn (v := .ty "tuple") (u := .type "tuple") (by rfl) T.n_tuple (by decide +kernel) rfl) pa_nil))))) (pw_or1 (pt_cmpR op_ne (pe_callB call_len_seq (by rfl) T.n_len (by decide +kernel) (pa_cons (pe_ix ix_tup (pv 1) pe_int (fun _ _ => rfl)) pa_nil)) (pv 0) (nomark _))))) (pss_one (ps_ret pe_bl)) pss_nil)
    (pss_one (ps_ret (pe_callB (cr_all rfl) (by rfl) T.n_all (by decide +kernel) (pa_cons (pe_lc (own := [("then", 2)]) rfl sc_is_action.nd (pi_tup (pe_ix ix_tup (pv 1) pe_int (fun _ _ => rfl))) (blkOk_by (own := [("then", 2)]) (N := N_is_action) (sc := defScope s_is_action) (by decide +kernel)) (fun _ _ _ _ _ => (pg_name (i := 2) sc_is_action.nd rfl (Or.inl rfl))) (fun _ _ _ _ _ => pts_nil) (fun _ _ _ _ _ => (pe_or (pe_cmpR op_isN (pv 2) pe_non (nomark _)) (pe_one (pe_call (ok_is_state T) (hr.mono (by decide)) (by rfl) T.g_is_state T.F_is_state.kp T.b_is_state .nil pass0 (pa_cons (pv 0) (pa_cons (pv 2) pa_nil))))))) pa_nil)))))), ?_⟩
  obtain ⟨n, S, v, d, rfl, hd, hv, q⟩ := h
  have qF : isAct n d = false → ∀ H', Same H H' → Q (.bl false) H' := fun e H' k => by
    have q' := q H' k
    rw [e] at q'
    exact q'
  refine ⟨_, rfl, v, .ty "tuple", _, _, _, rfl, .ty _, hd.ty, kit_all K _ (by decide) _ (tyD_mem d), _, rfl, ?_⟩
  by_cases e : isA "tuple" d = true
  · obtain ⟨a, xs, ds, rfl, rfl, ha, _, hx⟩ := hd.tuple e
    obtain ⟨hl, hok⟩ := okw_tup hv
    have hxl := hx.length
    refine iteF ?_
    refine ⟨_, rfl, a, _, rfl, .inr (SqT.of ha), rfl, _, rfl, ite2 (fun e2 => ?_) (fun e2 => ?_)⟩
    · exact iteT (qF (isAct_not fun h => ne_len.mp e2 (hxl.trans h)) H (Same.refl H))
    · have e3 : xs.length = 2 := Decidable.byContradiction fun h => e2 (ne_len.mpr h)
      obtain ⟨nm, mv, rfl⟩ := two_of (hxl.symm.trans e3)
      cases hx with
      | @cons v0 vs0 _ _ h0 hx =>
      cases hx with
      | @cons v1 vs1 _ _ h1 hx =>
      cases hx
      refine ⟨_, rfl, a, _, 0, _, rfl, rfl, SqT.of ha, atI_nat (j := 0) rfl, S, v0, nm, rfl, h0, hok nm (by simp), fun H1 k1 => ⟨_, rfl, ?_⟩⟩
      have ha1 := k1 _ _ ha
      have h1' := h1.kp (Kp.of k1)
      cases e4 : isName nm with
      | false =>
        refine iteT (qF ?_ H1 k1)
        cases mv with
        | tuple ms => show (isName nm && _ && _) = false; rw [e4]; rfl
        | _ => rfl
      | true =>
        refine iteF ?_
        refine ⟨_, rfl, a, _, 1, _, rfl, rfl, SqT.of ha1, atI_nat (j := 1) rfl, v1, .ty "tuple", _, _, _, rfl, .ty _, h1'.ty, kit_all K _ (by decide) _ (tyD_mem mv), _, rfl, ?_⟩
        by_cases e5 : isA "tuple" mv = true
        · obtain ⟨b, ys, ms, rfl, rfl, hb, _, hy⟩ := h1'.tuple e5
          obtain ⟨hl2, hok2⟩ := okw_tup (hok (.tuple ms) (by simp))
          have hyl := hy.length
          have eA : isAct n (.tuple [nm, .tuple ms]) = (decide ((ms.length : Int) = n) && ms.all (isMv n)) := by
            show (isName nm && _ && _) = _
            rw [e4]; rfl
          refine iteF ?_
          refine ⟨_, rfl, a, _, 1, _, rfl, rfl, SqT.of ha1, atI_nat (j := 1) rfl, b, _, rfl, .inr (SqT.of hb), _, rfl, rfl, _, rfl, ite2 (fun e6 => ?_) (fun e6 => ?_)⟩
          · refine qF ?_ H1 k1
            rw [eA, decide_eq_false, Bool.false_and]
            intro h
            rw [← h, hyl] at e6
            rw [decide_eq_true rfl] at e6
            cases e6
          · have e7 : (ms.length : Int) = n := Decidable.byContradiction fun h => e6 (by
              rw [decide_eq_false (fun h' => h (by injection h' with h'; rw [← hyl]; exact h'))]
              rfl)
            refine ⟨_, rfl, a, _, 1, _, rfl, rfl, SqT.of ha1, atI_nat (j := 1) rfl, b, rfl, ⟨_, SqT.of hb⟩, fun D hD => ?_⟩
            refine lc_tup (K := K) (a := b) (xs := ys) (fun i H' => Same H1 H' ∧ H' D = some (.lst (((ms.take i).map (isMv n)).map V.bl))) ⟨same_new hD, upd_same⟩ (fun i H' _ p => SqT.of (p.1 _ _ hb)) ?_ ?_
            · rintro i x H2 hi ⟨k, hDl⟩
              obtain ⟨d, hdi, hdx⟩ := hy.get hi
              have fin : ∀ H3, Same H2 H3 → ∃ acc, H3 D = some (.lst acc) ∧ acc.length < sizeLine ∧ (Same H1 (upd H3 D (.lst (acc ++ [V.bl (isMv n d)]))) ∧ (upd H3 D (.lst (acc ++ [V.bl (isMv n d)]))) D = some (.lst (((ms.take (i + 1)).map (isMv n)).map V.bl))) := fun H3 k3 => by
                refine ⟨_, k3 _ _ hDl, ?_, ?_, ?_⟩
                · rw [List.length_map, List.length_map, List.length_take, sizeLine_eq]
                  omega
                · exact fun b o eb => by
                    rw [upd_ne (ne_of_none eb hD)]
                    exact k3 _ _ (k _ _ eb)
                · rw [upd_same, List.take_succ, hdi, List.map_append, List.map_append]
                  rfl
              refine ⟨rfl, _, rfl, rfl, _, rfl, ?_⟩
              by_cases e8 : d = .none
              · subst e8
                cases hdx
                exact iteT (fin H2 (Same.refl H2))
              · have ex : ¬ x = V.non := fun e => by
                  subst e
                  cases hdx
                  exact e8 rfl
                rw [decide_eq_false ex]
                refine iteF ?_
                refine ⟨_, rfl, _, rfl, n, S, x, d, rfl, hdx.kp (Kp.of k), hok2 d (List.mem_of_getElem? hdi), fun H3 k3 => ?_⟩
                have f := fin H3 k3
                have e9 : isMv n d = isSt n d := by
                  cases d with
                  | none => exact absurd rfl e8
                  | _ => rfl
                rw [e9] at f
                exact f
            · rintro H2 ⟨k, hDl⟩
              rw [hyl, List.take_length] at hDl
              refine ⟨D, _, rfl, SqL.of hDl, ?_⟩
              have q' := q H2 (k1.trans k)
              rw [eA, decide_eq_true e7, Bool.true_and] at q'
              rw [show ((ms.map (isMv n)).all id) = ms.all (isMv n) by rw [List.all_map]; rfl]
              exact q'
        · have e6 : isB "tuple" (tyD mv) = false := by rw [Bool.not_eq_true] at e5; exact e5
          rw [e6]
          refine iteT (iteT (qF ?_ H1 k1))
          cases mv with
          | tuple ms => exact absurd rfl e5
          | _ => rfl
  · have e6 : isB "tuple" (tyD d) = false := by rw [Bool.not_eq_true] at e; exact e
    rw [e6]
    refine iteT (iteT (qF ?_ H (Same.refl H)))
    cases d with
    | tuple ds => exact absurd rfl e
    | _ => rfl
end
end K04
set_option Elab.async false
set_option linter.all false
set_option maxRecDepth 100000
set_option maxHeartbeats 4000000
/-! k04: actions, check_store. -/
namespace K04
open PySem PySem.Spec PyProof.Rows L2 Zg Zr Zd Zv Xu
/-! ### actions -/
abbrev Act := PySem.Str × List (Option Nat)
def mvD : Option Nat → PyData
  | none => .none
  | some k => .int (k : Nat)
def mvV : Option Nat → V
  | none => .non
  | some k => .int (k : Nat)
def actD (a : Act) : PyData := .tuple [.str a.1, .tuple (a.2.map mvD)]
structure Acts (n : Nat) (acts : List Act) : Prop where
  nm : ∀ a ∈ acts, isName (.str a.1) = true
  ln : ∀ a ∈ acts, a.2.length = n
  mv : ∀ a ∈ acts, ∀ m ∈ a.2, ∀ k, m = some k → k < n
  nd : (acts.map (·.1)).Nodup
  few : acts.length ≤ 900
  sz : n ≤ 3
theorem abc_ok : ∀ c ∈ ABC, c < 0x110000 := by decide +kernel
theorem isName_ok {x : PySem.Str} (h : isName (.str x) = true) : okw (.str x) = true ∧ 1 ≤ x.length ∧ x.length ≤ 8 := by
  have h' : (decide (1 ≤ x.length) && decide (x.length ≤ 8) && x.cps.toList.all fun c => decide (c ∈ ABC)) = true := h
  rw [Bool.and_eq_true, Bool.and_eq_true, decide_eq_true_iff, decide_eq_true_iff, List.all_eq_true] at h'
  refine ⟨?_, h'.1.1, h'.1.2⟩
  show decide (x.length ≤ 1000) = true
  exact decide_eq_true (by omega)
theorem isName_sok {x : PySem.Str} (h : isName (.str x) = true) : PyData.strOk x = true := by
  have h' : (decide (1 ≤ x.length) && decide (x.length ≤ 8) && x.cps.toList.all fun c => decide (c ∈ ABC)) = true := h
  rw [Bool.and_eq_true, Bool.and_eq_true, decide_eq_true_iff, decide_eq_true_iff, List.all_eq_true] at h'
  show x.cps.all _ = true
  rw [← Array.all_toList, List.all_eq_true]
  intro c hc
  exact decide_eq_true (abc_ok c (of_decide_eq_true (h'.2 c hc)))
theorem mvD_ok {n : Nat} {m : Option Nat} (hn : n ≤ 3) (h : ∀ k, m = some k → k < n) : okw (mvD m) = true ∧ isMv n (mvD m) = true := by
  cases m with
  | none => exact ⟨rfl, rfl⟩
  | some k =>
    have := h k rfl
    refine ⟨rfl, ?_⟩
    · show (decide ((0 : Int) ≤ (k : Int)) && decide ((k : Int) < (n : Int))) = true
      rw [decide_eq_true (by omega), decide_eq_true (by omega)]
      rfl
theorem Acts.okw {n : Nat} {acts : List Act} (A : Acts n acts) : ∀ a ∈ acts, okw (actD a) = true := fun a ha => by
  show (decide (2 ≤ 1000) && okwAll [.str a.1, .tuple (a.2.map mvD)]) = true
  rw [show decide (2 ≤ 1000) = true from rfl, Bool.true_and, okwAll_iff]
  intro d hd
  rcases List.mem_cons.mp hd with rfl | hd
  · exact (isName_ok (A.nm a ha)).1
  · cases List.mem_singleton.mp hd
    show (decide (_ ≤ 1000) && okwAll (a.2.map mvD)) = true
    rw [List.length_map, A.ln a ha, decide_eq_true (by have := A.sz; omega), Bool.true_and, okwAll_iff]
    intro d hd
    obtain ⟨m, hm, rfl⟩ := List.mem_map.mp hd
    exact (mvD_ok A.sz (A.mv a ha m hm)).1
theorem Acts.isAct {n : Nat} {acts : List Act} (A : Acts n acts) : ∀ a ∈ acts, isAct n (actD a) = true := fun a ha => by
  show (isName (.str a.1) && decide ((((a.2.map mvD).length : Nat) : Int) = (n : Int)) && (a.2.map mvD).all (isMv n)) = true
  rw [A.nm a ha, List.length_map, A.ln a ha, decide_eq_true rfl, Bool.true_and, Bool.true_and, List.all_eq_true]
  intro d hd
  obtain ⟨m, hm, rfl⟩ := List.mem_map.mp hd
  exact (mvD_ok A.sz (A.mv a ha m hm)).2
/-- an action as it stands -/
theorem act_at {S : List Addr} {H : Hp} {v : V} {a : Act} (h : Dv S H v (actD a)) : ∃ p m, v = .ref p ∧ H p = some (.tup [.str a.1, .ref m]) ∧ p ∉ S ∧ Dv S H (.ref m) (.tuple (a.2.map mvD)) := by
  cases h with
  | @tup p xs ds hp hn hx =>
    cases hx with
    | @cons v0 vs0 _ _ h0 hx =>
    cases hx with
    | @cons v1 vs1 _ _ h1 hx =>
    cases hx
    cases h0
    cases h1 with
    | @tup m ys ds hm hnm hy => exact ⟨p, m, rfl, hp, hn, .tup hm hnm hy⟩
theorem dvs_at {S : List Addr} {H : Hp} : ∀ {xs : List V} {ms : List (Option Nat)}, DvAll S H xs (ms.map mvD) → xs = ms.map mvV
  | _, [], .nil => rfl
  | _, m :: ms, .cons h t => by
    rw [dvs_at t, List.map_cons]
    congr 1
    cases m with
    | none => cases h; rfl
    | some k => cases h; rfl
theorem moves_at {S : List Addr} {H : Hp} {m : Addr} {ms : List (Option Nat)} (h : Dv S H (.ref m) (.tuple (ms.map mvD))) : H m = some (.tup (ms.map mvV)) := by
  cases h with
  | @tup m ys ds hm hnm hy => rw [dvs_at hy] at hm; exact hm
section
variable {P : Program} {w : World} {K : PySem.W.Frag} {mg : PySem.Str → Option Value} {base : Heap}
/-- an action's name, of any value -/
def nmOf : PyData → PySem.Str
  | .tuple (.str x :: _) => x
  | _ => ""
/-- the first row that is no action, or whose name was there -/
def badRow (n : Int) : List PySem.Str → List PyData → Option PyData
  | _, [] => none
  | ns, d :: ds => if isAct n d = true ∧ nmOf d ∉ ns then badRow n (ns ++ [nmOf d]) ds else some d
/-- the part that is at fault -/
def chk (sd : PyData) (ds : List PyData) (rd : PyData) : Option PyData := match sd with
  | .int n => if isSz (.int n) = true then (match badRow n [] ds with
    | some d => some d
    | none => if areStates n rd = true then none else some (.str "resting")) else some (.str "size")
  | _ => some (.str "size")
theorem chk_int {n : Int} {ds : List PyData} {rd : PyData} : chk (.int n) ds rd = if isSz (.int n) = true then (match badRow n [] ds with
    | some d => some d
    | none => if areStates n rd = true then none else some (.str "resting")) else some (.str "size") := rfl
theorem badRow_cons {n : Int} {ns : List PySem.Str} {d : PyData} {ds : List PyData} : badRow n ns (d :: ds) = if isAct n d = true ∧ nmOf d ∉ ns then badRow n (ns ++ [nmOf d]) ds else some d := rfl
theorem isAct_shape {n : Int} {d : PyData} (h : isAct n d = true) : ∃ (x : PySem.Str) (ms : List PyData), d = .tuple [.str x, .tuple ms] ∧ nmOf d = x := by
  unfold isAct at h
  split at h
  · rename_i a ms
    rw [Bool.and_eq_true, Bool.and_eq_true] at h
    cases a with
    | str x => exact ⟨x, ms, rfl, rfl⟩
    | _ => exact absurd h.1.1 (by simp [isName])
  · cases h
theorem ok_BadStore_init (T : Txt K mg) : FnOk P w K mg base CX0 1 T.a_BadStore_init T.d_BadStore_init P_BadStore_init (spIni T.C_BadStore ["part"]) := by
  refine T.F_BadStore_init.ok sc_BadStore_init (fun vs H Q E h => by obtain ⟨a, ws, H0, rfl, hl, _⟩ := h; rw [List.length_cons, hl]; rfl) (fun cdv A outer s H vs Q E hr h => ?_)
  refine ⟨_, (pss_one (Xu.ps_put (pv 0) (pv 1))), ?_⟩
  obtain ⟨a, ws, H0, rfl, hl, ha, h0, hr0, q⟩ := h
  obtain ⟨y0, rfl⟩ : ∃ y0, ws = [y0] := by
    match ws, hl with
    | [y], _ => exact ⟨y, rfl⟩
  exact ⟨_, rfl, _, rfl, a, T.C_BadStore, rfl, T.E_BadStore.ox, T.E_BadStore.no _ List.mem_cons_self, .inl ⟨ha, fun dx hd ne => q dx _ (Made.first ha hd ne h0 hr0)⟩⟩
/-- what BadStore tells -/
def Bad (T : Txt K mg) (S : List Addr) (H : Hp) (E : XK) (f : PyData) : Prop := ∀ (d : Addr) (H' : Hp) (v : V), Same H H' → H' d = some (.xd [("part", v)]) → Dv S H' v f → E (.ref T.C_BadStore) (some d) H'
def sp_check (T : Txt K mg) : Sp := fun vs H Q E => ∃ (S : List Addr) (sv r : V) (sd rd : PyData) (a : Addr) (xs : List V) (ds : List PyData), vs = [sv, .ref a, r] ∧ Dv S H sv sd ∧ okw sd = true ∧ H a = some (.tup xs) ∧ DvAll S H xs ds ∧ okwAll ds = true ∧ ds.length ≤ 900 ∧ Rv K S H r rd ∧ okw rd = true ∧
  match chk sd ds rd with
    | none => ∀ (H' : Hp), Same H H' → Q .non H'
    | some f => Bad T S H E f
theorem raise_bad {T : Txt K mg} {S : List Addr} {H H1 : Hp} {E : XK} {v : V} {f : PyData} (b : Bad T S H E f) (k : Same H H1) (hv : Dv S H1 v f) : ∀ d, H1 d = none → E (.ref T.C_BadStore) (some d) (upd H1 d (.xd [("part", v)])) := fun d hd =>
  b d _ v (k.trans (same_new hd)) upd_same (hv.kp (Kp.new hd))
theorem ok_check_store (T : Txt K mg) : FnOk P w K mg base (L2N.CX P w) 5 T.a_check_store T.d_check_store P_check_store (sp_check T) := by
  refine Xv.okXN T.F_check_store sc_check_store (fun vs H Q E h => by obtain ⟨S, sv, r, sd, rd, a, xs, ds, rfl, _⟩ := h; rfl) (fun cdv A outer s H vs Q E hr h => ?_)
  refine ⟨_, (pss_cons (ps_if (pt_not (pt_val (pe_call (ok_is_size T) (hr.mono (by omega)) (by rfl) T.g_is_size T.F_is_size.kp T.b_is_size .nil pass0 (pa_cons (pv 0) pa_nil)))) (pss_one (L2N.ps_raise rfl (L2N.takes_of rfl rfl rfl rfl) (Xw.pmk_E T.E_BadStore.ox T.iC_BadStore T.tI_BadStore (ok_BadStore_init T) (hr.mono (by decide)) T.b_BadStore_init rfl pass0 rfl T.g_BadStore (pa_cons pe_str pa_nil)))) pss_nil)
    (pss_cons (ps_set (i := 3) sc_check_store.nd rfl (Or.inl rfl) (pe_lst pa_nil))
    (pss_cons (ps_for (passes_of rfl) rfl (pi_tup (pv 1)) (pg_name (i := 4) sc_check_store.nd rfl (Or.inl rfl)) (pss_cons (ps_if (PW.pt (pw_or (pt_not (pt_val (pe_call (ok_is_action T) (hr.mono (by omega)) (by rfl) T.g_is_action T.F_is_action.kp T.b_is_action .nil pass0 (pa_cons (pv 0) (pa_cons (pv 4) pa_nil))))) (pw_or1 (pt_cmpR op_in_seq (pe_ix ix_tup (pv 4) pe_int (fun _ _ => rfl)) (pv 3) (by rfl))))) (pss_one (L2N.ps_raise rfl (L2N.takes_of rfl rfl rfl rfl) (Xw.pmk_E T.E_BadStore.ox T.iC_BadStore T.tI_BadStore (ok_BadStore_init T) (hr.mono (by decide)) T.b_BadStore_init rfl pass0 rfl T.g_BadStore (pa_cons (pv 4) pa_nil)))) pss_nil)
    (pss_one (ps_expr (pe_bm PySem.F.plainAttrs_list PySem.F.slot_list_append PySem.F.type_list_append mt_append (pv 3) (pa_cons (pe_ix ix_tup (pv 4) pe_int (fun _ _ => rfl)) pa_nil))))))
    (pss_one (ps_if (pt_not (pt_val (pe_call (ok_are_states T) (hr.mono (by omega)) (by rfl) T.g_are_states T.F_are_states.kp T.b_are_states .nil pass0 (pa_cons (pv 0) (pa_cons (pv 2) pa_nil))))) (pss_one (L2N.ps_raise rfl (L2N.takes_of rfl rfl rfl rfl) (Xw.pmk_E T.E_BadStore.ox T.iC_BadStore T.tI_BadStore (ok_BadStore_init T) (hr.mono (by decide)) T.b_BadStore_init rfl pass0 rfl T.g_BadStore (pa_cons pe_str pa_nil)))) pss_nil))))), ?_⟩
  obtain ⟨S, sv, r, sd, rd, a, xs, ds, rfl, hs, os, ha, hx, ox, h20, hrd, ord, q⟩ := h
  refine ⟨_, rfl, S, sv, sd, rfl, hs, os, fun H1 k1 => ⟨_, rfl, ?_⟩⟩
  cases hz : isSz sd with
  | false =>
    have e : chk sd ds rd = some (.str "size") := by
      cases sd with
      | int n => rw [chk_int, if_neg (by rw [hz]; exact Bool.false_ne_true)]
      | _ => rfl
    rw [e] at q
    exact ⟨rfl, raise_bad q k1 (.str _)⟩
  | true =>
    obtain ⟨n, rfl⟩ : ∃ n, sd = .int n := by
      cases sd with
      | int n => exact ⟨n, rfl⟩
      | _ => cases hz
    cases hs
    have e : chk (.int n) ds rd = (match badRow n [] ds with
      | some d => some d
      | none => if areStates n rd = true then none else some (.str "resting")) := by rw [chk_int, if_pos hz]
    rw [e] at q
    refine iteF ?_
    refine ⟨Nat.zero_le _, fun D hD => ?_⟩
    have ha1 := k1 _ _ ha
    have hx1 := hx.kp (Kp.of k1)
    have aD : a ≠ D := ne_of_none ha1 hD
    have hxl := hx.length
    refine ⟨_, rfl, a, rfl, ⟨_, SqT.of (same_new hD _ _ ha1)⟩, for_tup (K := K) (a := a) (xs := xs) (fun i σ H' => ∃ (y : Option V) (ns : List PySem.Str), σ = [some (.int n), some (.ref a), some r, some (.ref D), y] ∧ Same H1 H' ∧ H' D = some (.lst (ns.map V.str)) ∧ ns.length = i ∧ badRow n [] ds = badRow n ns (ds.drop i)) ⟨none, [], rfl, same_new hD, upd_same, rfl, rfl⟩ (fun i σ H' _ ⟨_, _, _, k, _⟩ => SqT.of (k _ _ ha1)) ?_ ?_⟩
    · rintro i x σ H' hi ⟨y, ns, rfl, k, hDl, hnl, hb⟩
      obtain ⟨d, hdi, hdx⟩ := hx1.get hi
      obtain ⟨hil, hde⟩ := List.getElem?_eq_some_iff.mp hdi
      have hdrop : ds.drop i = d :: ds.drop (i + 1) := by rw [← hde, List.getElem_cons_drop]
      rw [hdrop] at hb
      have od : okw d = true := okwAll_iff.mp ox d (List.mem_of_getElem? hdi)
      refine ⟨_, rfl, _, rfl, n, S, x, d, rfl, hdx.kp (Kp.of k), od, fun H2 k2 => ⟨_, rfl, ?_⟩⟩
      have kk : Same H H2 := k1.trans (k.trans k2)
      have bad : badRow n ns (d :: ds.drop (i + 1)) = some d → Bad T S H E d := fun e2 => by
        rw [hb, e2] at q
        exact q
      cases hA : isAct n d with
      | false =>
        refine ⟨_, rfl, rfl, raise_bad (bad (by rw [badRow_cons, if_neg (fun z => by rw [hA] at z; exact Bool.false_ne_true z.1)])) kk ((hdx.kp (Kp.of k)).kp (Kp.of k2))⟩
      | true =>
        obtain ⟨nm, ms, rfl, hnm⟩ := isAct_shape hA
        obtain ⟨p, vs2, rfl, hp, _, hv2⟩ : ∃ p vs2, x = .ref p ∧ H1 p = some (.tup vs2) ∧ p ∉ S ∧ DvAll S H1 vs2 [.str nm, .tuple ms] := by
          cases hdx with
          | tup h1 h2 h3 => exact ⟨_, _, rfl, h1, h2, h3⟩
        obtain ⟨m, rfl⟩ : ∃ m, vs2 = [.str nm, m] := by
          cases hv2 with
          | cons h0 h1 =>
            cases h0
            cases h1 with
            | cons h1 h2 =>
              cases h2
              exact ⟨_, rfl⟩
        have hp2 := k2 _ _ (k _ _ hp)
        have hD2 := k2 _ _ hDl
        have hin : inV (.str nm) (ns.map V.str) = decide (nm ∈ ns) := by
          rw [Bool.eq_iff_iff, decide_eq_true_iff]
          unfold inV
          rw [List.any_eq_true]
          constructor
          · rintro ⟨v, hv, e⟩
            obtain ⟨z, hz, rfl⟩ := List.mem_map.mp hv
            have e' : z = nm := beq_iff_eq.mp e
            rw [← e']
            exact hz
          · intro h
            exact ⟨.str nm, List.mem_map.mpr ⟨nm, h, rfl⟩, beq_iff_eq.mpr rfl⟩
        refine ⟨_, rfl, p, _, 0, _, rfl, rfl, SqT.of hp2, atI_nat (j := 0) rfl, _, rfl, D, _, rfl, .inl (SqL.of hD2), rfl, ?_, _, rfl, ?_⟩
        · rw [List.all_map]
          exact List.all_eq_true.mpr fun _ _ => rfl
        rw [hin]
        by_cases hm : nm ∈ ns
        · rw [decide_eq_true hm]
          exact iteT ⟨_, rfl, rfl, raise_bad (bad (by rw [badRow_cons, if_neg (fun z => z.2 (by rw [hnm]; exact hm))])) kk ((hdx.kp (Kp.of k)).kp (Kp.of k2))⟩
        · rw [decide_eq_false hm]
          refine iteF ?_
          refine ⟨_, rfl, .inl ⟨rfl, _, SqL.of hD2⟩, _, rfl, p, _, 0, _, rfl, rfl, SqT.of hp2, atI_nat (j := 0) rfl, D, _, _, rfl, rfl, hD2, ?_, ?_⟩
          · rw [List.length_map, sizeLine_eq]
            omega
          · refine ⟨_, ns ++ [nm], rfl, ?_, ?_, ?_, ?_⟩
            · exact fun b o eb => by
                rw [upd_ne (ne_of_none eb hD)]
                exact k2 _ _ (k _ _ eb)
            · rw [upd_same, List.map_append]
              rfl
            · rw [List.length_append, List.length_singleton, hnl]
            · rw [hb]
              rw [badRow_cons, if_pos ⟨hA, by rw [hnm]; exact hm⟩, hnm]
    · rintro σ H' ⟨y, ns, rfl, k, hDl, hnl, hb⟩
      rw [hxl, List.drop_length] at hb
      have hb' : badRow n [] ds = none := hb
      rw [hb'] at q
      refine ⟨_, rfl, _, rfl, n, S, r, rd, rfl, (hrd.kp (Kp.of k1)).kp (Kp.of k), ord, fun H2 k2 => ⟨_, rfl, ?_⟩⟩
      have kk : Same H H2 := k1.trans (k.trans k2)
      cases hst : areStates n rd with
      | true =>
        rw [if_pos hst] at q
        exact iteF (q H2 kk)
      | false =>
        rw [if_neg (by rw [hst]; exact Bool.false_ne_true)] at q
        exact ⟨rfl, raise_bad q kk (.str _)⟩
end
end K04
set_option Elab.async false
set_option linter.all false
set_option maxRecDepth 100000
set_option maxHeartbeats 4000000
/-! k04: ways by plain functions. -/
namespace K04
open PySem
/-! ### the first action that leads from a state to another one -/
def tg (a : Act) (p : Nat) : Option Nat := (a.2[p]?).getD none
def Fst (acts : List Act) (p q : Nat) : Option PySem.Str := (acts.find? fun a => tg a p == some q).map (·.1)
/-- the first shortest way, by hand: two steps are enough -/
def R (acts : List Act) (one q : Nat) : Option (List PySem.Str) :=
  if q = one then some [] else
    match Fst acts one q with
    | some a => some [a]
    | none =>
      match Fst acts one (3 - one - q), Fst acts (3 - one - q) q with
      | some a, some b => some [a, b]
      | _, _ => none
theorem fst_lt {n : Nat} {acts : List Act} (A : Acts n acts) {p q : Nat} {x : PySem.Str} (h : Fst acts p q = some x) : q < n := by
  unfold Fst at h
  cases e : acts.find? fun a => tg a p == some q with
  | none => rw [e] at h; cases h
  | some a =>
    have hm := List.mem_of_find?_eq_some e
    have ht : tg a p = some q := by simpa using List.find?_some e
    unfold tg at ht
    cases e2 : a.2[p]? with
    | none => rw [e2] at ht; cases ht
    | some m =>
      rw [e2] at ht
      exact A.mv a hm m (List.mem_of_getElem? e2) q ht
theorem R_lt {n : Nat} {acts : List Act} (A : Acts n acts) {one q : Nat} {w : List PySem.Str} (ho : one < n) (h : R acts one q = some w) : q < n := by
  unfold R at h
  split at h
  · omega
  · split at h
    · rename_i e; exact fst_lt A e
    · split at h
      · rename_i e; exact fst_lt A e
      · cases h
/-! ### what a search has found -/
abbrev Fnd := List (Nat × List PySem.Str)
/-- so many states have been looked at -/
structure Bf (acts : List Act) (n one at_ : Nat) (W : Fnd) : Prop where
  nd : (W.map (·.1)).Nodup
  lt : ∀ e ∈ W, e.1 < n
  hd : W[0]? = some (one, [])
  sound : ∀ e ∈ W, R acts one e.1 = some e.2
  comp : ∀ i e, i < at_ → W[i]? = some e → ∀ t x, Fst acts e.1 t = some x → t ∈ W.map (·.1)
  le : at_ ≤ W.length
/-- the state at at_ is being looked at, so many actions are done -/
structure Bi (acts : List Act) (n one at_ here : Nat) (hw : List PySem.Str) (j : Nat) (W : Fnd) : Prop where
  bf : Bf acts n one at_ W
  hr : W[at_]? = some (here, hw)
  do_ : ∀ a ∈ acts.take j, ∀ t, tg a here = some t → t ∈ W.map (·.1)
theorem Bf.start {n : Nat} {acts : List Act} {one : Nat} (h : one < n) : Bf acts n one 0 [(one, [])] := by
  refine ⟨List.nodup_cons.mpr ⟨List.not_mem_nil, List.nodup_nil⟩, fun e he => ?_, rfl, fun e he => ?_, fun i e hi => absurd hi (Nat.not_lt_zero _), Nat.zero_le _⟩
  · cases List.mem_singleton.mp he
    exact h
  · cases List.mem_singleton.mp he
    show R acts one one = some []
    unfold R
    rw [if_pos rfl]
theorem nodup_len : ∀ {n : Nat} {l : List Nat}, l.Nodup → (∀ x ∈ l, x < n) → l.length ≤ n
  | 0, l, _, h => by
    cases l with
    | nil => exact Nat.le_refl _
    | cons x l => exact absurd (h x List.mem_cons_self) (Nat.not_lt_zero _)
  | n + 1, l, h1, h2 => by
    have h3 := nodup_len (n := n) (l := l.erase n) (h1.erase n) fun x hx => by
      have hx2 := (List.Nodup.mem_erase_iff h1).mp hx
      have := h2 x hx2.2
      have := hx2.1
      omega
    by_cases hm : n ∈ l
    · rw [List.length_erase_of_mem hm] at h3
      omega
    · rw [List.erase_of_not_mem hm] at h3
      omega
theorem Bf.len {acts : List Act} {n one at_ : Nat} {W : Fnd} (b : Bf acts n one at_ W) : W.length ≤ n := by
  have := nodup_len b.nd (n := n) fun x hx => by
    obtain ⟨e, he, rfl⟩ := List.mem_map.mp hx
    exact b.lt e he
  rwa [List.length_map] at this
theorem Bf.one_lt {acts : List Act} {n one at_ : Nat} {W : Fnd} (b : Bf acts n one at_ W) : one < n := b.lt _ (List.mem_of_getElem? b.hd)
theorem Bf.enter {acts : List Act} {n one at_ : Nat} {W : Fnd} (b : Bf acts n one at_ W) {here : Nat} {hw : List PySem.Str} (h : W[at_]? = some (here, hw)) : Bi acts n one at_ here hw 0 W := ⟨b, h, fun a ha => by rw [List.take_zero] at ha; cases ha⟩
theorem Bi.skip {acts : List Act} {n one at_ here : Nat} {hw : List PySem.Str} {j : Nat} {W : Fnd} (b : Bi acts n one at_ here hw j W) {a : Act} (ha : acts[j]? = some a) (h : ∀ t, tg a here = some t → t ∈ W.map (·.1)) : Bi acts n one at_ here hw (j + 1) W := by
  refine ⟨b.bf, b.hr, fun x hx => ?_⟩
  rw [List.take_succ, ha] at hx
  rcases List.mem_append.mp hx with hx | hx
  · exact b.do_ x hx
  · cases List.mem_singleton.mp hx
    exact h
theorem Bi.leave {acts : List Act} {n one at_ here : Nat} {hw : List PySem.Str} {W : Fnd} (b : Bi acts n one at_ here hw acts.length W) : Bf acts n one (at_ + 1) W := by
  refine ⟨b.bf.nd, b.bf.lt, b.bf.hd, b.bf.sound, fun i e hi he t x hf => ?_, (List.getElem?_eq_some_iff.mp b.hr).1⟩
  by_cases h : i < at_
  · exact b.bf.comp i e h he t x hf
  · obtain rfl : i = at_ := by omega
    rw [b.hr] at he
    cases he
    unfold Fst at hf
    cases e : acts.find? fun a => tg a here == some t with
    | none => rw [e] at hf; cases hf
    | some a =>
      refine b.do_ a ?_ t (by simpa using List.find?_some e)
      rw [List.take_length]
      exact List.mem_of_find?_eq_some e
theorem Bi.add {acts : List Act} {n one at_ here : Nat} {hw : List PySem.Str} {j : Nat} {W : Fnd} (A : Acts n acts) (b : Bi acts n one at_ here hw j W) {a : Act} {t : Nat} (ha : acts[j]? = some a) (ht : tg a here = some t) (hn : t ∉ W.map (·.1)) :
    Bi acts n one at_ here hw (j + 1) (W ++ [(t, hw ++ [a.1])]) := by
  have hat : at_ < W.length := (List.getElem?_eq_some_iff.mp b.hr).1
  have hf : Fst acts here t = some a.1 := by
    unfold Fst
    have : acts.find? (fun a => tg a here == some t) = some a := by
      refine List.find?_eq_some_iff_append.mpr ⟨by rw [ht]; exact beq_self_eq_true _, acts.take j, acts.drop (j + 1), ?_, fun x hx => ?_⟩
      · obtain ⟨hl, e⟩ := List.getElem?_eq_some_iff.mp ha
        rw [← e, List.getElem_cons_drop, List.take_append_drop]
      · rw [Bool.not_eq_true']
        exact beq_eq_false_iff_ne.mpr fun e => hn (b.do_ x hx t e)
    rw [this]
    rfl
  have htn : t < n := fst_lt A hf
  have hhm : here ∈ W.map (·.1) := List.mem_map.mpr ⟨_, List.mem_of_getElem? b.hr, rfl⟩
  have hhn : here < n := b.bf.lt _ (List.mem_of_getElem? b.hr)
  have hom : one ∈ W.map (·.1) := List.mem_map.mpr ⟨_, List.mem_of_getElem? b.bf.hd, rfl⟩
  have hon := b.bf.one_lt
  have to : t ≠ one := fun e => hn (e ▸ hom)
  have th : t ≠ here := fun e => hn (e ▸ hhm)
  have hR : R acts one here = some hw := b.bf.sound _ (List.mem_of_getElem? b.hr)
  have hRt : R acts one t = some (hw ++ [a.1]) := by
    by_cases ho : here = one
    · subst ho
      unfold R at hR
      rw [if_pos rfl] at hR
      cases hR
      unfold R
      rw [if_neg to, hf]
      rfl
    · have h0 : 0 < at_ := Nat.pos_of_ne_zero fun e => by
        subst e
        have := b.hr.symm.trans b.bf.hd
        cases this
        exact ho rfl
      have hno : ∀ x, Fst acts one t ≠ some x := fun x e => hn (b.bf.comp 0 _ h0 b.bf.hd t x e)
      have hnone : Fst acts one t = none := by
        cases e : Fst acts one t with
        | none => rfl
        | some x => exact absurd e (hno x)
      have n3 := A.sz
      have ez : 3 - one - t = here := by omega
      have ez2 : 3 - one - here = t := by omega
      unfold R at hR
      rw [if_neg ho, ez2, hnone] at hR
      unfold R
      rw [if_neg to, hnone, ez, hf]
      cases e : Fst acts one here with
      | none => rw [e] at hR; cases hR
      | some x =>
        rw [e] at hR
        cases hR
        rfl
  refine ⟨⟨?_, fun e he => ?_, ?_, fun e he => ?_, fun i e hi he u x hu => ?_, ?_⟩, ?_, fun x hx u hu => ?_⟩
  · rw [List.map_append]
    refine List.nodup_append.mpr ⟨b.bf.nd, List.nodup_cons.mpr ⟨List.not_mem_nil, List.nodup_nil⟩, fun x hx y hy e => ?_⟩
    cases List.mem_singleton.mp hy
    subst e
    exact hn hx
  · rcases List.mem_append.mp he with he | he
    · exact b.bf.lt e he
    · cases List.mem_singleton.mp he
      exact htn
  · rw [List.getElem?_append_left (by omega)]
    exact b.bf.hd
  · rcases List.mem_append.mp he with he | he
    · exact b.bf.sound e he
    · cases List.mem_singleton.mp he
      exact hRt
  · have hi' : i < W.length := by omega
    rw [List.getElem?_append_left hi'] at he
    rw [List.map_append]
    exact List.mem_append_left _ (b.bf.comp i e hi he u x hu)
  · rw [List.length_append]
    omega
  · rw [List.getElem?_append_left hat]
    exact b.hr
  · rw [List.map_append]
    rw [List.take_succ, ha] at hx
    rcases List.mem_append.mp hx with hx | hx
    · exact List.mem_append_left _ (b.do_ x hx u hu)
    · cases List.mem_singleton.mp hx
      rw [ht] at hu
      cases hu
      exact List.mem_append_right _ (List.mem_singleton.mpr rfl)
/-- all is found -/
theorem Bf.done {acts : List Act} {n one : Nat} {W : Fnd} (A : Acts n acts) (b : Bf acts n one W.length W) (r : Nat) (w : List PySem.Str) : R acts one r = some w → (r, w) ∈ W := fun h => by
  have key : r ∈ W.map (·.1) → (r, w) ∈ W := fun hm => by
    obtain ⟨e, he, rfl⟩ := List.mem_map.mp hm
    have := b.sound e he
    rw [h] at this
    cases this
    exact he
  have all : ∀ s ∈ W.map (·.1), ∀ t x, Fst acts s t = some x → t ∈ W.map (·.1) := fun s hs t x hf => by
    obtain ⟨e, he, rfl⟩ := List.mem_map.mp hs
    obtain ⟨i, hi⟩ := List.getElem?_of_mem he
    exact b.comp i e (List.getElem?_eq_some_iff.mp hi).1 hi t x hf
  have hom : one ∈ W.map (·.1) := List.mem_map.mpr ⟨_, List.mem_of_getElem? b.hd, rfl⟩
  refine key ?_
  unfold R at h
  split at h
  · rename_i e; exact e ▸ hom
  · split at h
    · rename_i a e; exact all one hom r a e
    · split at h
      · rename_i a b' e1 e2
        exact all _ (all one hom _ _ e1) r _ e2
      · cases h
end K04
set_option Elab.async false
set_option linter.all false
set_option maxRecDepth 100000
set_option maxHeartbeats 4000000
/-! k04: ways_from. -/
namespace K04
open PySem PySem.Spec PyProof.Rows L2 Zg Zr Zd Zv
/-! ### what is found, as it stands -/
abbrev Ent := Nat × Addr × List PySem.Str
def kvsE (E : List Ent) : List (Key × V) := E.map fun e => (.inl (e.1 : Int), .ref e.2.1)
def fndE (E : List Ent) : Fnd := E.map fun e => (e.1, e.2.2)
theorem fndE_keys (E : List Ent) : (fndE E).map (·.1) = E.map (·.1) := by unfold fndE; rw [List.map_map]; rfl
theorem valE (E : List Ent) (t : Nat) : valV (kvsE E) (.inl (t : Int)) = (E.find? fun e => e.1 == t).map fun e => V.ref e.2.1 := by
  induction E with
  | nil => rfl
  | cons e E ih =>
    show valV ((Sum.inl (e.1 : Int), V.ref e.2.1) :: kvsE E) _ = _
    by_cases h : e.1 = t
    · rw [valV_pos (by rw [h]), List.find?_cons_of_pos (by simp [h])]
      rfl
    · rw [valV_neg (fun z => h (by injection z with z; omega)), List.find?_cons_of_neg (by simp [h]), ih]
theorem valE_none {E : List Ent} {t : Nat} (h : valV (kvsE E) (.inl (t : Int)) = none) : t ∉ E.map (·.1) := by
  rw [valE] at h
  intro hm
  obtain ⟨e, he, rfl⟩ := List.mem_map.mp hm
  cases q : E.find? fun x => x.1 == e.1 with
  | none => exact absurd (List.find?_eq_none.mp q e he) (by simp)
  | some x => rw [q] at h; cases h
theorem valE_some {E : List Ent} {t : Nat} {v : V} (h : valV (kvsE E) (.inl (t : Int)) = some v) : ∃ e ∈ E, e.1 = t ∧ v = .ref e.2.1 := by
  rw [valE] at h
  cases q : E.find? fun x => x.1 == t with
  | none => rw [q] at h; cases h
  | some x =>
    rw [q] at h
    refine ⟨x, List.mem_of_find?_eq_some q, by simpa using List.find?_some q, ?_⟩
    cases h
    rfl
theorem valE_at {E : List Ent} (nd : (E.map (·.1)).Nodup) {e : Ent} (he : e ∈ E) : valV (kvsE E) (.inl (e.1 : Int)) = some (.ref e.2.1) := by
  rw [valE]
  cases q : E.find? fun x => x.1 == e.1 with
  | none => exact absurd (List.find?_eq_none.mp q e he) (by simp)
  | some x =>
    have h1 : x.1 = e.1 := by simpa using List.find?_some q
    have hx := List.mem_of_find?_eq_some q
    obtain ⟨i, hi⟩ := List.getElem?_of_mem he
    obtain ⟨j, hj⟩ := List.getElem?_of_mem hx
    have e1 : (E.map (·.1))[i]? = some e.1 := by rw [List.getElem?_map, hi]; rfl
    have e2 : (E.map (·.1))[j]? = some x.1 := by rw [List.getElem?_map, hj]; rfl
    rw [h1, ← e1] at e2
    have il : j < (E.map (·.1)).length := by rw [List.length_map]; exact (List.getElem?_eq_some_iff.mp hj).1
    have := (List.getElem?_inj il nd).mp e2
    subst this
    rw [hi] at hj
    cases hj
    rfl
/-- the ways of E stand -/
def WaysAt (H : Hp) (E : List Ent) : Prop := ∀ e ∈ E, H e.2.1 = some (.tup (e.2.2.map V.str))
theorem WaysAt.same {H H' : Hp} {E : List Ent} (h : WaysAt H E) (k : Same H H') : WaysAt H' E := fun e he => k _ _ (h e he)
/-- a while with its rest -/
theorem while_then {c : TT} {tb u : TS} {D : Ends} {σ : L2.St} {H : Hp} (Pv : L2.St → Hp → Prop) (μ : L2.St → Hp → Nat) (h0 : Pv σ H)
    (hs : ∀ σ H, Pv σ H → c σ H fun b H1 => if b = true then ∃ N : L2.St → Hp → Prop, (∀ σ' H', N σ' H' → ∃ m', m' < μ σ H ∧ m' = μ σ' H' ∧ Pv σ' H') ∧ tb { D with nx := N, ct := N, bk := u D } σ H1 else u D σ H1) : tSeq (tWhile c tb) u D σ H := by
  refine ⟨fun m σ H => m = μ σ H ∧ Pv σ H, ⟨_, rfl, h0⟩, ?_⟩
  rintro m σ H ⟨rfl, p⟩
  exact hs σ H p
theorem turn_of {Pv : L2.St → Hp → Prop} {μ : L2.St → Hp → Nat} {n : Nat} : ∀ σ' H', (Pv σ' H' ∧ μ σ' H' < n) → ∃ m', m' < n ∧ m' = μ σ' H' ∧ Pv σ' H' := fun σ' H' h => ⟨_, h.2, rfl, h.1⟩
def slot4 (σ : L2.St) : Nat := match σ[4]? with
  | some (some (V.int k)) => k.toNat
  | _ => 0
theorem R_len {acts : List Act} {one q : Nat} {w : List PySem.Str} (h : R acts one q = some w) : w.length ≤ 2 := by
  unfold R at h
  split at h
  · cases h; exact Nat.zero_le _
  · split at h
    · cases h; show 1 ≤ 2; decide
    · split at h
      · cases h; show 2 ≤ 2; decide
      · cases h
/-- the loop of ways_from -/
def PvW (H : Hp) (a d l : Addr) (one n : Nat) (acts : List Act) (σ : L2.St) (H' : Hp) : Prop := ∃ (k : Nat) (E : List Ent) (y5 y6 y7 y8 : Option V), σ = [some (.ref a), some (.int (one : Nat)), some (.ref d), some (.ref l), some (.int (k : Nat)), y5, y6, y7, y8] ∧
  Same H H' ∧ H' d = some (.dK (kvsE E)) ∧ H' l = some (.lst (E.map fun e => .int (e.1 : Nat))) ∧ WaysAt H' E ∧ Bf acts n one k (fndE E)
theorem acts_get {S : List Addr} {H : Hp} {xs : List V} {acts : List Act} (hx : DvAll S H xs (acts.map actD)) {i : Nat} {v : V} (h : xs[i]? = some v) : ∃ a, acts[i]? = some a ∧ Dv S H v (actD a) := by
  obtain ⟨d, hdi, hdx⟩ := hx.get h
  rw [List.getElem?_map] at hdi
  cases e : acts[i]? with
  | none => rw [e] at hdi; cases hdi
  | some a => rw [e] at hdi; cases hdi; exact ⟨a, rfl, hdx⟩
theorem Same.sqT {K : PySem.W.Frag} {H H' : Hp} {a : Addr} {xs : List V} (k : Same H H') (h : SqT K H a xs) : SqT K H' a xs := by
  rcases h with h | h
  · rcases h with h | ⟨o, h⟩
    · exact .inl (.inl (k _ _ h))
    · exact .inl (.inr ⟨o, k _ _ h⟩)
  · exact .inr h
section
variable {P : Program} {w : World} {K : PySem.W.Frag} {mg : PySem.Str → Option Value} {base : Heap}
def sp_ways (K : PySem.W.Frag) : Sp := fun vs H Q _ => ∃ (n one : Nat) (S : List Addr) (a : Addr) (xs : List V) (acts : List Act), vs = [.ref a, .int (one : Nat)] ∧ SqT K H a xs ∧ DvAll S H xs (acts.map actD) ∧ Acts n acts ∧ one < n ∧
  ∀ (H' : Hp) (d : Addr) (E : List Ent), Same H H' → H d = none → H' d = some (.dK (kvsE E)) → WaysAt H' E → Bf acts n one E.length (fndE E) → Q (.ref d) H'
theorem ok_ways_from (T : Txt K mg) : FnOk P w K mg base CX0 1 T.a_ways_from T.d_ways_from P_ways_from (sp_ways K) := by
  refine T.F_ways_from.ok sc_ways_from (fun vs H Q E h => by obtain ⟨n, one, S, a, xs, acts, rfl, _⟩ := h; rfl) (fun cdv A outer s H vs Q E hr h => ?_)
  refine ⟨_, (pss_cons (ps_set (i := 2) sc_ways_from.nd rfl (Or.inl rfl) (pe_disp (pps_cons (pv 1) (pe_tup pa_nil) pps_nil) (by rfl) (by rfl) (fun z => by cases z) (by decide)))
    (pss_cons (ps_set (i := 3) sc_ways_from.nd rfl (Or.inl rfl) (pe_lst (pa_cons (pv 1) pa_nil)))
    (pss_cons (ps_set (i := 4) sc_ways_from.nd rfl (Or.inl rfl) pe_int)
    (pss_cons (ps_while PassesOwn.never (pt_cmpR op_lt (pv 4) (pe_callB call_len_seq (by rfl) T.n_len (by decide +kernel) (pa_cons (pv 3) pa_nil)) (nomark _)) (pss_cons (ps_set (i := 5) sc_ways_from.nd rfl (Or.inl rfl) (pe_ix ix_list (pv 3) (pv 4) (fun _ _ => rfl)))
    (pss_cons (ps_aug (i := 4) sc_ways_from.nd rfl (Or.inl rfl) pe_int ip_add)
    (pss_one (ps_for PassesOwn.never rfl (pi_tup (pv 0)) (pg_tup (by rfl) (pgs_cons (pg_name (i := 6) sc_ways_from.nd rfl (Or.inl rfl)) (pgs_cons (pg_name (i := 7) sc_ways_from.nd rfl (Or.inl rfl)) pgs_nil))) (pss_cons (ps_set (i := 8) sc_ways_from.nd rfl (Or.inl rfl) (pe_ix ix_tup (pv 7) (pv 5) (fun _ _ => rfl)))
    (pss_one (ps_if (PW.pt (pw_and (pt_cmpR op_notN (pv 8) pe_non (nomark _)) (pw_and1 (pt_cmp (pc_dnotin (hu_of hr) (pv 8) (pv 2)) rfl)))) (pss_cons (ps_dput (hu_of hr) (pv 2) (pv 8) (pe_tup (StX.pa_star (pe_dget (hu_of hr) (pv 2) (pv 5) (fun _ _ => rfl)) (pa_cons (pv 6) pa_nil))) rfl)
    (pss_one (ps_expr (pe_bm PySem.F.plainAttrs_list PySem.F.slot_list_append PySem.F.type_list_append mt_append (pv 3) (pa_cons (pv 8) pa_nil))))) pss_nil))))))))
    (pss_one (ps_ret (pv 2))))))), ?_⟩
  obtain ⟨n, one, S, a, xs, acts, rfl, ha, hx, AA, ho, q⟩ := h
  refine fun d hd => ⟨_, rfl, Nat.zero_le _, fun t ht => ?_⟩
  have td : d ≠ t := fun e => by
    rw [← e, upd_same] at ht
    cases ht
  refine ⟨by rw [upd_ne td]; exact upd_same, [(.inl (one : Int), .ref t)], rfl, (by show 1 ≤ 15; decide), ?_⟩
  have s2 : Same H (upd (upd (upd H d (.dK [])) t (.tup [])) d (.dK (mergeK [] [(.inl (one : Int), .ref t)]))) := fun b o e => by
    have nd := ne_of_none e hd
    rw [upd_ne nd]
    exact same_new ht _ _ (same_new hd _ _ e)
  have hd2 : (upd (upd (upd H d (.dK [])) t (.tup [])) d (.dK (mergeK [] [(.inl (one : Int), .ref t)]))) d = some (.dK (kvsE [(one, t, [])])) := upd_same
  have ht2 : (upd (upd (upd H d (.dK [])) t (.tup [])) d (.dK (mergeK [] [(.inl (one : Int), .ref t)]))) t = some (.tup []) := by rw [upd_ne td.symm, upd_same]
  generalize upd (upd (upd H d (.dK [])) t (.tup [])) d (.dK (mergeK [] [(.inl (one : Int), .ref t)])) = H2 at s2 hd2 ht2 ⊢
  refine ⟨_, rfl, (by show 1 ≤ sizeLine; decide), fun l hl => ?_⟩
  have k3 : Same H2 (upd H2 l (.lst [.int (one : Nat)])) := same_new hl
  have dl : d ≠ l := ne_of_none hd2 hl
  have hl0 : H l = none := s2.free hl
  refine while_then (fun σ H' => PvW H a d l one n acts σ H') (fun σ _ => n - slot4 σ) ⟨0, [(one, t, [])], none, none, none, none, rfl, s2.trans k3, k3 _ _ hd2, upd_same, fun e he => ?_, Bf.start ho⟩ ?_
  · cases List.mem_singleton.mp he
    exact k3 _ _ ht2
  rintro σ H' ⟨k, E, y5, y6, y7, y8, rfl, ks, hD, hL, hw, bf⟩
  have hlen : (fndE E).length = E.length := List.length_map _
  refine ⟨_, rfl, _, rfl, l, _, rfl, .inl (SqL.of hL), _, _, rfl, rfl, _, rfl, ite2 (fun e => ?_) (fun e => ?_)⟩
  · have hk : k < E.length := by
      have := of_decide_eq_true e
      rw [List.length_map] at this
      omega
    obtain ⟨en, hen⟩ : ∃ en, E[k]? = some en := ⟨_, List.getElem?_eq_getElem hk⟩
    obtain ⟨here, pw, hw0⟩ := en
    have hfk : (fndE E)[k]? = some (here, hw0) := by unfold fndE; rw [List.getElem?_map, hen]; rfl
    have hn := bf.len
    rw [hlen] at hn
    refine ⟨fun σ' H' => PvW H a d l one n acts σ' H' ∧ n - slot4 σ' < n - k, turn_of, ?_⟩
    refine ⟨_, rfl, _, rfl, l, _, _, _, rfl, rfl, SqL.of hL, atI_nat (j := k) (by rw [List.getElem?_map, hen]; rfl), ?_⟩
    refine ⟨_, rfl, _, _, rfl, rfl, ?_⟩
    refine ⟨_, rfl, a, rfl, ⟨_, Same.sqT ks ha⟩, for_tup (K := K) (a := a) (xs := xs) (fun j σ H' => ∃ (E : List Ent) (y6 y7 y8 : Option V), σ = [some (.ref a), some (.int (one : Nat)), some (.ref d), some (.ref l), some (.int ((k + 1 : Nat) : Int)), some (.int (here : Nat)), y6, y7, y8] ∧ Same H H' ∧ H' d = some (.dK (kvsE E)) ∧ H' l = some (.lst (E.map fun e => .int (e.1 : Nat))) ∧ WaysAt H' E ∧ Bi acts n one k here hw0 j (fndE E))
      ⟨E, y6, y7, y8, rfl, ks, hD, hL, hw, bf.enter hfk⟩ (fun j σ H' _ ⟨_, _, _, _, _, ks, _⟩ => Same.sqT ks ha) ?_ ?_⟩
    · clear hfk hen hk e hlen bf hw hL hD ks
      rintro j x σ H' hj ⟨E, y6, y7, y8, rfl, ks, hD, hL, hw, bi⟩
      obtain ⟨ac, hac, hdx⟩ := acts_get hx hj
      obtain ⟨p, m, rfl, hp, _, hm⟩ := act_at hdx
      have hmm := moves_at hm
      have hil : j < acts.length := (List.getElem?_eq_some_iff.mp hac).1
      have hmem : ac ∈ acts := List.mem_of_getElem? hac
      have hhn : here < n := bi.bf.lt _ (List.mem_of_getElem? bi.hr)
      have hkl : k < (fndE E).length := (List.getElem?_eq_some_iff.mp bi.hr).1
      obtain ⟨mv, hmv⟩ : ∃ mv, ac.2[here]? = some mv := ⟨_, List.getElem?_eq_getElem (by rw [AA.ln ac hmem]; exact hhn)⟩
      have htg : tg ac here = mv := by unfold tg; rw [hmv]; rfl
      refine ⟨p, _, rfl, SqT.of (ks _ _ hp), rfl, _, _, rfl, _, _, rfl, rfl, ?_⟩
      refine ⟨_, rfl, _, rfl, m, _, _, _, rfl, rfl, SqT.of (ks _ _ hmm), atI_nat (j := here) (by rw [List.getElem?_map, hmv]; rfl), ?_⟩
      refine ⟨_, rfl, rfl, _, rfl, ?_⟩
      cases mv with
      | none =>
        refine iteF (iteF ?_)
        exact ⟨E, _, _, _, rfl, ks, hD, hL, hw, bi.skip hac fun t ht => by rw [htg] at ht; cases ht⟩
      | some t =>
        rw [show (decide (mvV (some t) = V.non)) = false from decide_eq_false fun z => by cases z]
        refine iteT ?_
        refine ⟨_, rfl, _, rfl, d, _, rfl, DGet.k (k := .inl (t : Int)) hD, _, rfl, ?_⟩
        cases hv : valV (kvsE E) (.inl (t : Int)) with
        | some v =>
          refine iteF ?_
          obtain ⟨e, he, rfl, _⟩ := valE_some hv
          refine ⟨E, _, _, _, rfl, ks, hD, hL, hw, bi.skip hac fun u hu => ?_⟩
          rw [htg] at hu
          cases hu
          rw [fndE_keys]
          exact List.mem_map.mpr ⟨e, he, rfl⟩
        | none =>
          refine iteT ?_
          have hnot := valE_none hv
          rw [← fndE_keys] at hnot
          -- found[here]
          obtain ⟨en, hen, e1, e2⟩ : ∃ en ∈ E, en.1 = here ∧ en.2.2 = hw0 := by
            have := List.mem_of_getElem? bi.hr
            obtain ⟨en, hen, e⟩ := List.mem_map.mp this
            cases e
            exact ⟨en, hen, rfl, rfl⟩
          subst e1 e2
          have ndE : (E.map (·.1)).Nodup := by rw [← fndE_keys]; exact bi.bf.nd
          have hEl : E.length ≤ 3 := by
            have := bi.bf.len
            rw [show (fndE E).length = E.length from List.length_map _] at this
            have := AA.sz
            omega
          have hwl : en.2.2.length ≤ 3 := by
            have := bi.bf.sound _ (List.mem_of_getElem? bi.hr)
            have h2 : en.2.2.length ≤ 2 := R_len this
            omega
          refine ⟨_, rfl, _, rfl, d, _, rfl, ?_, en.2.1, _, rfl, .inl (SqT.of (hw en hen)), _, rfl, ?_, fun q hq => ?_⟩
          · have := DGet.k (k := .inl (en.1 : Int)) hD
            rw [valE_at ndE hen] at this
            exact this
          · rw [List.length_append, List.length_map, sizeLine_eq]
            show _ + 1 ≤ _
            omega
          have kq : Same H' (upd H' q (.tup (en.2.2.map V.str ++ [.str ac.1]))) := same_new hq
          have qd : d ≠ q := ne_of_none hD hq
          have ql : l ≠ q := ne_of_none hL hq
          refine ⟨_, rfl, _, rfl, d, _, rfl, DPut.k (k := .inl (t : Int)) (kq _ _ hD) ?_, ?_⟩
          · show (E.map _).length < _
            rw [List.length_map, sizeLine_eq]
            omega
          rw [putK_new _ hv]
          have hL2 : (upd (upd H' q (.tup (en.2.2.map V.str ++ [.str ac.1]))) d (.dK (kvsE E ++ [(.inl (t : Int), .ref q)]))) l = some (.lst (E.map fun e => .int (e.1 : Nat))) := by
            rw [upd_ne dl.symm, upd_ne ql]
            exact hL
          refine ⟨_, rfl, .inl ⟨rfl, _, SqL.of hL2⟩, _, rfl, l, _, _, rfl, rfl, hL2, ?_, ?_⟩
          · rw [List.length_map, sizeLine_eq]
            omega
          have hd0 : H d = none := hd
          refine ⟨E ++ [(t, q, en.2.2 ++ [ac.1])], _, _, _, rfl, fun b o eb => ?_, ?_, ?_, fun e he => ?_, ?_⟩
          · rw [upd_ne (ne_of_none eb hl0), upd_ne (ne_of_none eb hd0)]
            exact kq _ _ (ks _ _ eb)
          · rw [upd_ne dl, upd_same]
            unfold kvsE
            rw [List.map_append]
            rfl
          · rw [upd_same, List.map_append]
            rfl
          · have hat : (upd H' q (.tup (en.2.2.map V.str ++ [.str ac.1]))) e.2.1 = some (.tup (e.2.2.map V.str)) := by
              rcases List.mem_append.mp he with he | he
              · exact kq _ _ (hw e he)
              · cases List.mem_singleton.mp he
                rw [upd_same, List.map_append]
                rfl
            have n1 : e.2.1 ≠ l := fun z => by
              rw [z, upd_ne ql, hL] at hat
              cases hat
            have n2 : e.2.1 ≠ d := fun z => by
              rw [z, upd_ne qd, hD] at hat
              cases hat
            rw [upd_ne n1, upd_ne n2]
            exact hat
          · have := bi.add AA hac htg hnot
            unfold fndE at this ⊢
            rw [List.map_append]
            exact this
    · rintro σ H' ⟨E, y6, y7, y8, rfl, ks, hD, hL, hw, bi⟩
      rw [hx.length, List.length_map] at bi
      refine ⟨⟨k + 1, E, _, _, _, _, rfl, ks, hD, hL, hw, bi.leave⟩, ?_⟩
      show n - (k + 1) < n - k
      omega
  · have hk : k = E.length := by
      have := bf.le
      have e' : ¬ ((k : Int) < ((E.map fun e => V.int (e.1 : Nat)).length : Int)) := fun h => e (decide_eq_true h)
      rw [List.length_map] at e'
      omega
    subst hk
    exact ⟨_, rfl, q H' d E ks hd hD hw bf⟩
end
end K04
set_option Elab.async false
set_option linter.all false
set_option maxRecDepth 100000
set_option maxHeartbeats 4000000
/-! k04: a store is made. -/
namespace K04
open PySem PySem.Spec PyProof.Rows L2 Zg Zr Zd Zv
/-! ### a store as it stands -/
def flds (n : Nat) (aA : Addr) (r : V) (dM lW : Addr) : List (PySem.Str × V) := putF "ways_by_state" (.ref lW) (putF "moves_by_name" (.ref dM) (putF "resting" r (putF "actions" (.ref aA) (putF "size" (.int (n : Nat)) []))))
section
variable {n : Nat} {aA : Addr} {r : V} {dM lW : Addr}
theorem flds_ways : (flds n aA r dM lW).lookup ("ways_by_state" : PySem.Str) = some (.ref lW) := by
  unfold flds
  rw [lookup_putF, if_pos rfl]
theorem flds_moves : (flds n aA r dM lW).lookup ("moves_by_name" : PySem.Str) = some (.ref dM) := by
  unfold flds
  rw [lookup_putF, if_neg (by decide +kernel), lookup_putF, if_pos rfl]
theorem flds_resting : (flds n aA r dM lW).lookup ("resting" : PySem.Str) = some r := by
  unfold flds
  rw [lookup_putF, if_neg (by decide +kernel), lookup_putF, if_neg (by decide +kernel), lookup_putF, if_pos rfl]
theorem flds_actions : (flds n aA r dM lW).lookup ("actions" : PySem.Str) = some (.ref aA) := by
  unfold flds
  rw [lookup_putF, if_neg (by decide +kernel), lookup_putF, if_neg (by decide +kernel), lookup_putF, if_neg (by decide +kernel), lookup_putF, if_pos rfl]
theorem flds_size : (flds n aA r dM lW).lookup ("size" : PySem.Str) = some (.int (n : Nat)) := by
  unfold flds
  rw [lookup_putF, if_neg (by decide +kernel), lookup_putF, if_neg (by decide +kernel), lookup_putF, if_neg (by decide +kernel), lookup_putF, if_neg (by decide +kernel), lookup_putF, if_pos rfl]
theorem flds_none {f : PySem.Str} (h : f ∉ (["ways_by_state", "moves_by_name", "resting", "actions", "size"] : List PySem.Str)) : (flds n aA r dM lW).lookup f = none := by
  simp only [List.mem_cons, List.not_mem_nil, or_false, not_or] at h
  unfold flds
  rw [lookup_putF, if_neg h.1, lookup_putF, if_neg h.2.1, lookup_putF, if_neg h.2.2.1, lookup_putF, if_neg h.2.2.2.1, lookup_putF, if_neg h.2.2.2.2]
  rfl
end
theorem len_putF (f : PySem.Str) (v : V) : ∀ fs : List (PySem.Str × V), (putF f v fs).length ≤ fs.length + 1
  | [] => Nat.le_refl _
  | (g, x) :: r => by
    unfold putF
    split
    · exact Nat.le_succ _
    · exact Nat.succ_le_succ (len_putF f v r)
/-- a store of n states with these actions stands at p -/
structure StAt (C : Addr) (H : Hp) (S : List Addr) (p : Addr) (n : Nat) (acts : List Act) (r : V) : Prop where
  ex : ∃ (dx aA : Addr) (o : Obj) (ps : List Addr) (dM lW : Addr) (kvs : List (Key × V)) (ds : List Addr), H p = some (.ins C dx (flds n aA r dM lW)) ∧ H aA = some (.frz o (.tup (ps.map V.ref))) ∧ DvAll S H (ps.map V.ref) (acts.map actD) ∧
    (H dM = some (.dK kvs) ∧ kvs.map (·.1) = acts.map fun a => (.inr a.1 : Key)) ∧ (∀ a ∈ acts, ∃ m, valV kvs (.inr a.1) = some (.ref m) ∧ H m = some (.tup (a.2.map mvV))) ∧
    H lW = some (.lst (ds.map V.ref)) ∧ ds.length = n ∧ ∀ one d, ds[one]? = some d → ∃ E, H d = some (.dK (kvsE E)) ∧ WaysAt H E ∧ Bf acts n one E.length (fndE E)
theorem StAt.same {C : Addr} {H H' : Hp} {S : List Addr} {p : Addr} {n : Nat} {acts : List Act} {r : V} (h : StAt C H S p n acts r) (k : Same H H') : StAt C H' S p n acts r := by
  obtain ⟨dx, aA, o, ps, dM, lW, kvs, ds, h1, h2, h3, h4, h5, h6, h7, h8⟩ := h.ex
  refine ⟨dx, aA, o, ps, dM, lW, kvs, ds, k _ _ h1, k _ _ h2, h3.kp (Kp.of k), ⟨k _ _ h4.1, h4.2⟩, fun a ha => ?_, k _ _ h6, h7, fun one d hd => ?_⟩
  · obtain ⟨m, e1, e2⟩ := h5 a ha
    exact ⟨m, e1, k _ _ e2⟩
  · obtain ⟨E, e1, e2, e3⟩ := h8 one d hd
    exact ⟨E, k _ _ e1, e2.same k, e3⟩
/-! ### which action stands at an address -/
def nameAt (H : Hp) (x : Addr) : PySem.Str := match H x with
  | some (.tup [.str z, _]) => z
  | _ => ""
def mAt (H : Hp) (x : Addr) : Addr := match H x with
  | some (.tup [_, .ref m]) => m
  | _ => x
def mvN : V → Option Nat
  | .int k => some k.toNat
  | _ => none
def movAt (H : Hp) (m : Addr) : List (Option Nat) := match H m with
  | some (.tup vs) => vs.map mvN
  | _ => []
def actAt (H : Hp) (x : Addr) : Act := (nameAt H x, movAt H (mAt H x))
theorem mvN_mvV (m : Option Nat) : mvN (mvV m) = m := by
  cases m with
  | none => rfl
  | some k => show some (Int.toNat (k : Int)) = _; rw [Int.toNat_natCast]
/-- an action at x -/
structure ActAt (S : List Addr) (H : Hp) (x : Addr) (a : Act) : Prop where
  pr : H x = some (.tup [.str a.1, .ref (mAt H x)])
  mo : H (mAt H x) = some (.tup (a.2.map mvV))
  dv : Dv S H (.ref x) (actD a)
  eq : actAt H x = a
theorem ActAt.of {S : List Addr} {H : Hp} {x : Addr} {a : Act} (h : Dv S H (.ref x) (actD a)) : ActAt S H x a := by
  obtain ⟨p, m, e, hp, _, hm⟩ := act_at h
  cases e
  have e1 : mAt H x = m := by unfold mAt; rw [hp]
  have hmm := moves_at hm
  have e2 : nameAt H x = a.1 := by unfold nameAt; rw [hp]
  refine ⟨by rw [e1]; exact hp, by rw [e1]; exact hmm, h, ?_⟩
  unfold actAt movAt
  rw [e1, e2, hmm]
  show (a.1, (a.2.map mvV).map mvN) = a
  rw [List.map_map, show (mvN ∘ mvV) = id from funext mvN_mvV, List.map_id]
theorem ActAt.of' {S : List Addr} {H : Hp} {x : Addr} {a : Act} (h : ActAt S H x a) : ActAt S H x (actAt H x) := by rw [h.eq]; exact h
/-- the addresses of actions -/
theorem refs_of {S : List Addr} {H : Hp} : ∀ {xs : List V} {acts : List Act}, DvAll S H xs (acts.map actD) → ∃ ps : List Addr, xs = ps.map V.ref ∧ acts = ps.map (actAt H) ∧ ∀ x ∈ ps, ActAt S H x (actAt H x)
  | _, [], .nil => ⟨[], rfl, rfl, fun _ h => nomatch h⟩
  | _, a :: acts, .cons h t => by
    obtain ⟨ps, e1, e2, e3⟩ := refs_of t
    obtain ⟨p, m, e, _⟩ := act_at h
    subst e
    have aa := ActAt.of h
    refine ⟨p :: ps, by rw [e1]; rfl, by rw [List.map_cons, aa.eq, ← e2], fun x hx => ?_⟩
    rcases List.mem_cons.mp hx with rfl | hx
    · exact aa.of'
    · exact e3 x hx
theorem dvs_of {S : List Addr} {H : Hp} : ∀ {ps : List Addr}, (∀ x ∈ ps, ActAt S H x (actAt H x)) → DvAll S H (ps.map V.ref) ((ps.map (actAt H)).map actD)
  | [], _ => .nil
  | p :: ps, h => .cons (h p List.mem_cons_self).dv (dvs_of fun x hx => h x (List.mem_cons_of_mem _ hx))
theorem ActAt.kp {S : List Addr} {H H' : Hp} {x : Addr} {a : Act} (h : ActAt S H x a) (k : Kp S H H') : ActAt S H' x a := ActAt.of (h.dv.kp k)
theorem merge_new : ∀ (kvs acc : List (Key × V)), ((acc ++ kvs).map (·.1)).Nodup → mergeK acc kvs = acc ++ kvs
  | [], acc, _ => by rw [List.append_nil]; rfl
  | kv :: kvs, acc, h => by
    have hn : valV acc kv.1 = none := by
      cases e : valV acc kv.1 with
      | none => rfl
      | some v =>
        have := valV_in e
        rw [List.map_append, List.map_cons] at h
        exact absurd rfl ((List.nodup_append.mp h).2.2 _ this _ List.mem_cons_self)
    show mergeK (putK acc kv.1 kv.2) kvs = _
    rw [putK_new _ hn, merge_new kvs _ (by rw [List.append_assoc]; exact h), List.append_assoc]
    rfl
theorem val_nodup {kvs : List (Key × V)} (h : (kvs.map (·.1)).Nodup) {kv : Key × V} (hm : kv ∈ kvs) : valV kvs kv.1 = some kv.2 := by
  induction kvs with
  | nil => cases hm
  | cons x kvs ih =>
    rw [List.map_cons, List.nodup_cons] at h
    rcases List.mem_cons.mp hm with rfl | hm
    · exact valV_pos rfl
    · rw [valV_neg (fun e => h.1 (e ▸ List.mem_map.mpr ⟨kv, hm, rfl⟩))]
      exact ih h.2 hm
theorem paired_map {α β : Type} {R : α → β → Prop} (f : α → β) : ∀ {l : List α}, (∀ x ∈ l, R x (f x)) → Paired R l (l.map f)
  | [], _ => .nil
  | x :: l, h => .cons (h x List.mem_cons_self) (paired_map f fun y hy => h y (List.mem_cons_of_mem _ hy))
end K04
set_option Elab.async false
set_option linter.all false
set_option maxRecDepth 100000
set_option maxHeartbeats 4000000
/-! k04: Store.__init__. -/
namespace K04
open PySem PySem.Spec PyProof.Rows L2 Zg Zr Zd Zv
theorem Acts.perm {n : Nat} {acts acts' : List Act} (A : Acts n acts) (h : acts'.Perm acts) : Acts n acts' :=
  ⟨fun a ha => A.nm a (h.mem_iff.mp ha), fun a ha => A.ln a (h.mem_iff.mp ha), fun a ha => A.mv a (h.mem_iff.mp ha), (h.map _).nodup_iff.mpr A.nd, by rw [h.length_eq]; exact A.few, A.sz⟩
theorem dvs_eq {S : List Addr} {H : Hp} {f : Addr → Act} : ∀ {ps : List Addr}, (∀ x ∈ ps, Dv S H (.ref x) (actD (f x))) → DvAll S H (ps.map V.ref) ((ps.map f).map actD)
  | [], _ => .nil
  | p :: ps, h => .cons (h p List.mem_cons_self) (dvs_eq fun x hx => h x (List.mem_cons_of_mem _ hx))
section
variable {P : Program} {w : World} {K : PySem.W.Frag} {mg : PySem.Str → Option Value} {base : Heap}
/-- by their names -/
abbrev Asc (acts : List Act) : Prop := acts.Pairwise fun x y => ¬ y.1.cps.toList < x.1.cps.toList
theorem cxUpN {P : Program} {w : World} : StX.CXUp (L2N.CX P w) := by
  rintro outer s H s2 H2 E e s' un kp ho ⟨a, B, H', cls, d, ea, fl, hok, ub, na, os, ag, he⟩
  refine ⟨a, B, H', cls, d, ea, fl, hok, ⟨fun b o q n hb => ub.keep b o (kp b o q) (un.free b o q n (by simp)) hb, fun b o q hb => ub.slot b o (kp b o q) hb, fun b o q n => ub.free b o (kp b o q) (un.free b o q n (by simp)),
    fun b o q hb => ub.there b o (kp b o q) hb, fun b xs q => ub.tups b xs (un.tups b xs q), fun b o xs q => ub.frzs b o xs (un.frzs b o xs q), fun b ps q => ?_⟩, na, os.trans ho, ag, he⟩
  obtain ⟨m1, e1⟩ := un.tbls b ps q
  obtain ⟨m2, e2⟩ := ub.tbls b _ e1
  exact ⟨m1 ++ m2, by rw [e2, Array.append_assoc]⟩
/-! ### no fault: actions -/
theorem badRow_none {n : Int} : ∀ {ds : List PyData} {ns : List PySem.Str}, badRow n ns ds = none → (∀ d ∈ ds, isAct n d = true) ∧ (ds.map nmOf).Nodup ∧ ∀ x ∈ ds.map nmOf, x ∉ ns
  | [], ns, _ => ⟨(fun d h => nomatch h), List.nodup_nil, fun x h => nomatch h⟩
  | d :: ds, ns, h => by
    rw [badRow_cons] at h
    split at h
    · rename_i hd
      obtain ⟨h1, h2, h3⟩ := badRow_none h
      refine ⟨fun x hx => ?_, ?_, fun x hx => ?_⟩
      · rcases List.mem_cons.mp hx with rfl | hx
        · exact hd.1
        · exact h1 x hx
      · rw [List.map_cons, List.nodup_cons]
        exact ⟨fun m => h3 _ m (List.mem_append_right _ List.mem_cons_self), h2⟩
      · rw [List.map_cons] at hx
        rcases List.mem_cons.mp hx with rfl | hx
        · exact hd.2
        · exact fun m => h3 x hx (List.mem_append_left _ m)
    · cases h
def mvOf : PyData → Option Nat
  | .int i => some i.toNat
  | _ => none
def toAct : PyData → Act
  | .tuple [.str x, .tuple ms] => (x, ms.map mvOf)
  | _ => ("", [])
theorem mv_of {n : Nat} {d : PyData} (h : isMv n d = true) : mvD (mvOf d) = d ∧ ∀ k, mvOf d = some k → k < n := by
  cases d with
  | none => exact ⟨rfl, fun k e => nomatch e⟩
  | int i =>
    have h' : (decide ((0 : Int) ≤ i) && decide (i < (n : Int))) = true := h
    rw [Bool.and_eq_true, decide_eq_true_iff, decide_eq_true_iff] at h'
    refine ⟨?_, fun k e => ?_⟩
    · show PyData.int ((i.toNat : Nat) : Int) = .int i
      rw [Int.toNat_of_nonneg h'.1]
    · have : i.toNat = k := Option.some.inj e
      omega
  | _ => cases h
theorem act_of {n : Nat} {d : PyData} (h : isAct n d = true) : d = actD (toAct d) ∧ isName (.str (toAct d).1) = true ∧ (toAct d).2.length = n ∧ (∀ m ∈ (toAct d).2, ∀ k, m = some k → k < n) ∧ (toAct d).1 = nmOf d := by
  obtain ⟨x, ms, rfl, hx⟩ := isAct_shape h
  have h' : (isName (.str x) && decide ((ms.length : Int) = (n : Int)) && ms.all (isMv n)) = true := h
  rw [Bool.and_eq_true, Bool.and_eq_true, decide_eq_true_iff, List.all_eq_true] at h'
  obtain ⟨⟨h1, h2⟩, h3⟩ := h'
  refine ⟨?_, h1, ?_, fun m hm k e => ?_, rfl⟩
  · show PyData.tuple [.str x, .tuple ms] = .tuple [.str x, .tuple ((ms.map mvOf).map mvD)]
    congr 3
    rw [List.map_map]
    have : ms.map (mvD ∘ mvOf) = ms.map id := List.map_congr_left fun d hd => (mv_of (h3 d hd)).1
    rw [this, List.map_id]
  · show (ms.map mvOf).length = n
    rw [List.length_map]
    omega
  · obtain ⟨d, hd, rfl⟩ := List.mem_map.mp (show m ∈ ms.map mvOf from hm)
    exact (mv_of (h3 d hd)).2 k e
theorem chk_none {sd rd : PyData} {ds : List PyData} (h20 : ds.length ≤ 900) (h : chk sd ds rd = none) : ∃ (n : Nat) (acts : List Act), sd = .int (n : Nat) ∧ 1 ≤ n ∧ ds = acts.map actD ∧ Acts n acts ∧ areStates n rd = true := by
  cases sd with
  | int m =>
    rw [chk_int] at h
    split at h
    · rename_i hz
      have hz' : (decide ((1 : Int) ≤ m) && decide (m ≤ 3)) = true := hz
      rw [Bool.and_eq_true, decide_eq_true_iff, decide_eq_true_iff] at hz'
      obtain ⟨n, rfl⟩ := Int.eq_ofNat_of_zero_le (by omega : 0 ≤ m)
      split at h
      · cases h
      · rename_i hb
        split at h
        · rename_i hs
          obtain ⟨h1, h2, h3⟩ := badRow_none hb
          refine ⟨n, ds.map toAct, rfl, by omega, ?_, ⟨fun a ha => ?_, fun a ha => ?_, fun a ha => ?_, ?_, by rw [List.length_map]; exact h20, by omega⟩, hs⟩
          · rw [List.map_map]
            have : ds.map (actD ∘ toAct) = ds.map id := List.map_congr_left fun d hd => ((act_of (h1 d hd)).1).symm
            rw [this, List.map_id]
          · obtain ⟨d, hd, rfl⟩ := List.mem_map.mp ha
            exact (act_of (h1 d hd)).2.1
          · obtain ⟨d, hd, rfl⟩ := List.mem_map.mp ha
            exact (act_of (h1 d hd)).2.2.1
          · obtain ⟨d, hd, rfl⟩ := List.mem_map.mp ha
            exact (act_of (h1 d hd)).2.2.2.1
          · rw [List.map_map]
            have : ds.map ((fun a : Act => a.1) ∘ toAct) = ds.map nmOf := List.map_congr_left fun d hd => (act_of (h1 d hd)).2.2.2.2
            rw [this]
            exact h2
        · cases h
    · cases h
  | _ => cases h
def sp_init (T : Txt K mg) : List V → Sp := fun zs vs H Q E => ∃ (p dx : Addr) (S : List Addr) (sv : V) (sd : PyData) (rest : List V) (ds : List PyData) (r : V) (rd : PyData), zs = [r] ∧ vs = .ref p :: sv :: rest ∧ p ∈ S ∧ H p = some (.ins T.C_Store dx []) ∧
  Dv S H sv sd ∧ okw sd = true ∧ DvAll S H rest ds ∧ okwAll ds = true ∧ ds.length ≤ 900 ∧ Rv K S H r rd ∧ okw rd = true ∧
  match chk sd ds rd with
    | none => ∀ (n : Nat) (acts : List Act), sd = .int (n : Nat) → ds = acts.map actD → Acts n acts → ∀ (H' : Hp) (acts' : List Act), Kp [p] H H' → acts'.Perm acts → Asc acts' → StAt T.C_Store H' S p n acts' r → Q .non H'
    | some f => Bad T S H E f
theorem init_body (T : Txt K mg) (cdv : Value) (A : Around) (outer : List Env) (s : Shared) (H : Hp) (vs rest zs : List V) (Q : VK) (E : XK) (hr : Room 5 (A.deeper (envOfC "Store.__init__" (defScope s_Store_init) s.heap.objs.size T.a_Store_init cdv))) (hl : vs.length = 2) (h : sp_init T zs (vs ++ rest) H Q E) (pt : Addr) (hpt : H pt = none) :
    ∃ t, PSs (cxOf (L2N.CX P w) P w K mg base N_Store_init "Store.__init__" (defScope s_Store_init) T.a_Store_init cdv A outer s (upd H pt (.tup rest)) E) (defBody s_Store_init) t ∧ t { nx := fun _ H' => Q .non H', rt := Q } (start N_Store_init (vs ++ zs ++ [V.ref pt])) (upd H pt (.tup rest)) := by
  refine ⟨_, (pss_cons (ps_expr (pe_call (ok_check_store T) (hr.mono (by decide)) (by rfl) T.g_check_store T.F_check_store.kp T.b_check_store .nil (L2N.passes_call (L2N.takes_of rfl rfl rfl rfl) (fun _ _ _ _ h => h)) (pa_cons (pv 1) (pa_cons (pv 3) (pa_cons (pv 2) pa_nil)))))
    (pss_cons (ps_fld (pv 0) (pv 1) rfl)
    (pss_cons (ps_fld (pv 0) (pe_callTy Sp.call_tupleF (by rfl) T.n_tuple (by decide +kernel) (pa_cons (pe_callB Sp.cr_sortedTS (by rfl) T.n_sorted (by decide +kernel) (pa_cons (pv 3) pa_nil)) pa_nil)) rfl)
    (pss_cons (ps_fld (pv 0) (pv 2) rfl)
    (pss_cons (ps_fld (pv 0) (pe_callTy (Sp.call_dictPT (by rfl)) (by rfl) T.n_dict (by decide +kernel) (pa_cons (pe_fld (pv 0) rfl) pa_nil)) rfl)
    (pss_one (ps_fld (pv 0) (pe_lc (own := [("state", 4)]) rfl sc_Store_init.nd (pi_range1 (by rfl) T.n_range (pa_cons (pv 1) pa_nil)) (blkOk_by (own := [("state", 4)]) (N := N_Store_init) (sc := defScope s_Store_init) (by decide +kernel)) (fun _ _ _ _ _ => (pg_name (i := 4) sc_Store_init.nd rfl (Or.inl rfl))) (fun _ _ _ _ _ => pts_nil) (fun _ _ _ _ _ => (pe_call (ok_ways_from T) (hr.mono (by omega)) (by rfl) T.g_ways_from T.F_ways_from.kp T.b_ways_from .nil pass0 (pa_cons (show PE _ _ (tFld K (tVar 0) _) from (pe_fld (pv 0) rfl)) (pa_cons (pv 4) pa_nil))))) rfl))))))), ?_⟩
  obtain ⟨p, dx, S, sv, sd, rest', ds, r, rd, rfl, ev, hpS, hp, hsv, osv, hx, ox, h20, hrd, hok, q⟩ := h
  obtain ⟨rfl, rfl⟩ : vs = [.ref p, sv] ∧ rest = rest' := by
    match vs, hl with
    | [a, b], _ =>
      injection ev with e1 ev
      injection ev with e2 ev
      exact ⟨by rw [e1, e2], ev⟩
  have k0 : Kp [p] H (upd H pt (.tup rest)) := Kp.new hpt
  have s0 : Same H (upd H pt (.tup rest)) := same_new hpt
  have ppt : p ≠ pt := ne_of_none hp hpt
  have hp0 : (upd H pt (.tup rest)) p = some (.ins T.C_Store dx []) := by rw [upd_ne ppt]; exact hp
  have ht0 : (upd H pt (.tup rest)) pt = some (.tup rest) := upd_same
  generalize upd H pt (.tup rest) = H0 at k0 s0 hp0 ht0 ⊢
  have sub : ∀ a ∈ [p], a ∈ S := fun a ha => by cases List.mem_singleton.mp ha; exact hpS
  have kS : ∀ {Ha Hb : Hp}, Kp [p] Ha Hb → Kp S Ha Hb := fun k => k.sub sub
  refine ⟨_, rfl, _, rfl, _, rfl, S, sv, r, sd, rd, pt, rest, ds, rfl, hsv.kp (kS k0), osv, ht0, hx.kp (kS k0), ox, h20, hrd.kp (kS k0), hok, ?_⟩
  cases hc : chk sd ds rd with
  | some f =>
    rw [hc] at q
    exact fun d H' v k h1 h2 => q d H' v (s0.trans k) h1 h2
  | none =>
    rw [hc] at q
    obtain ⟨n, acts, rfl, hn1, rfl, AA, hst⟩ := chk_none h20 hc
    have q := q n acts rfl rfl AA
    cases hsv
    refine fun H1 k1 => ?_
    have hp1 := k1 _ _ hp0
    have ht1 := k1 _ _ ht0
    have K1 : Kp [p] H H1 := k0.trans (Kp.of k1)
    have hx1 := hx.kp (kS K1)
    obtain ⟨ps, rfl, eacts, hact⟩ := refs_of hx1
    -- self.size = size
    refine ⟨_, rfl, _, rfl, p, T.C_Store, dx, _, rfl, hp1, T.cl_Store, T.no_Store_size, (by show 0 < 1000; decide), ?_⟩
    have K2 : Kp [p] H (upd H1 p (.ins T.C_Store dx (putF "size" (.int (n : Nat)) []))) := K1.wr (.inl List.mem_cons_self)
    have k12 : Kp [p] H1 (upd H1 p (.ins T.C_Store dx (putF "size" (.int (n : Nat)) []))) := (Kp.refl _ _).wr (.inl List.mem_cons_self)
    have hp2 : (upd H1 p (.ins T.C_Store dx (putF "size" (.int (n : Nat)) []))) p = some (.ins T.C_Store dx (putF "size" (.int (n : Nat)) [])) := upd_same
    generalize upd H1 p (.ins T.C_Store dx (putF "size" (.int (n : Nat)) [])) = H2 at K2 k12 hp2 ⊢
    have hact2 : ∀ x ∈ ps, ActAt S H2 x (actAt H1 x) := fun x hx => (hact x hx).kp (kS k12)
    have hact2' : ∀ x ∈ ps, actAt H2 x = actAt H1 x := fun x hx => (hact2 x hx).eq
    have ptp : pt ∉ [p] := fun h => ppt (List.mem_singleton.mp h).symm
    have ht2 := k12 _ _ ptp ht1
    -- self.actions = tuple(sorted(actions))
    have inj : ∀ x ∈ ps, ∀ y ∈ ps, nameAt H2 x = nameAt H2 y → x = y := fun x hx y hy e => by
      have nd := AA.nd
      rw [eacts, List.map_map] at nd
      obtain ⟨i, hi⟩ := List.getElem?_of_mem hx
      obtain ⟨j, hj⟩ := List.getElem?_of_mem hy
      have ex : (actAt H1 x).1 = nameAt H2 x := by rw [← hact2' x hx]; rfl
      have ey : (actAt H1 y).1 = nameAt H2 y := by rw [← hact2' y hy]; rfl
      have e1 : (ps.map ((fun a : Act => a.1) ∘ actAt H1))[i]? = some (nameAt H2 x) := by rw [List.getElem?_map, hi]; exact congrArg some ex
      have e2 : (ps.map ((fun a : Act => a.1) ∘ actAt H1))[j]? = some (nameAt H2 y) := by rw [List.getElem?_map, hj]; exact congrArg some ey
      rw [e, ← e2] at e1
      have := (List.getElem?_inj (by rw [List.length_map]; exact (List.getElem?_eq_some_iff.mp hi).1) nd).mp e1
      subst this
      rw [hi] at hj
      cases hj
      rfl
    refine ⟨_, rfl, pt, ps, nameAt H2, rfl, SqT.of ht2, fun x hx => ⟨.ref (mAt H2 x), SqT.of ?_⟩, inj, fun ys qa perm asc hqa => ?_⟩
    · have h := (hact2 x hx).pr
      rw [← hact2' x hx] at h
      exact h
    refine ⟨qa, _, rfl, SqL.of upd_same, fun aA o haA ho => ?_⟩
    have K3 : Kp [p] H2 (upd (upd H2 qa (.lst (ys.map V.ref))) aA (.frz o (.tup (ys.map V.ref)))) := (Kp.new hqa).trans (Kp.new haA)
    have hA3 : (upd (upd H2 qa (.lst (ys.map V.ref))) aA (.frz o (.tup (ys.map V.ref)))) aA = some (.frz o (.tup (ys.map V.ref))) := upd_same
    have hp3 : (upd (upd H2 qa (.lst (ys.map V.ref))) aA (.frz o (.tup (ys.map V.ref)))) p = some (.ins T.C_Store dx (putF "size" (.int (n : Nat)) [])) := same_new haA _ _ (same_new hqa _ _ hp2)
    generalize upd (upd H2 qa (.lst (ys.map V.ref))) aA (.frz o (.tup (ys.map V.ref))) = H3 at K3 hA3 hp3 ⊢
    refine ⟨_, rfl, p, T.C_Store, dx, _, rfl, hp3, T.cl_Store, T.no_Store_actions, ?_, ?_⟩
    · exact Nat.lt_of_le_of_lt (length_putF _ _ _) (by decide)
    have pA : aA ≠ p := (ne_of hp3 hA3 (by intro z; cases z)).symm
    have K4 : Kp [p] H2 (upd H3 p (.ins T.C_Store dx (putF "actions" (.ref aA) (putF "size" (.int (n : Nat)) [])))) := K3.wr (.inl List.mem_cons_self)
    have hp4 : (upd H3 p (.ins T.C_Store dx (putF "actions" (.ref aA) (putF "size" (.int (n : Nat)) [])))) p = some (.ins T.C_Store dx (putF "actions" (.ref aA) (putF "size" (.int (n : Nat)) []))) := upd_same
    have hA4 : (upd H3 p (.ins T.C_Store dx (putF "actions" (.ref aA) (putF "size" (.int (n : Nat)) [])))) aA = some (.frz o (.tup (ys.map V.ref))) := by rw [upd_ne pA]; exact hA3
    generalize upd H3 p (.ins T.C_Store dx (putF "actions" (.ref aA) (putF "size" (.int (n : Nat)) []))) = H4 at K4 hp4 hA4 ⊢
    -- self.resting = resting
    refine ⟨_, rfl, _, rfl, p, T.C_Store, dx, _, rfl, hp4, T.cl_Store, T.no_Store_resting, ?_, ?_⟩
    · exact Nat.lt_of_le_of_lt (Nat.le_trans (length_putF _ _ _) (Nat.succ_le_succ (length_putF _ _ _))) (by decide)
    have K5 : Kp [p] H2 (upd H4 p (.ins T.C_Store dx (putF "resting" r (putF "actions" (.ref aA) (putF "size" (.int (n : Nat)) []))))) := K4.wr (.inl List.mem_cons_self)
    have hp5 : (upd H4 p (.ins T.C_Store dx (putF "resting" r (putF "actions" (.ref aA) (putF "size" (.int (n : Nat)) []))))) p = some (.ins T.C_Store dx (putF "resting" r (putF "actions" (.ref aA) (putF "size" (.int (n : Nat)) [])))) := upd_same
    have hA5 : (upd H4 p (.ins T.C_Store dx (putF "resting" r (putF "actions" (.ref aA) (putF "size" (.int (n : Nat)) []))))) aA = some (.frz o (.tup (ys.map V.ref))) := by rw [upd_ne pA]; exact hA4
    generalize upd H4 p (.ins T.C_Store dx (putF "resting" r (putF "actions" (.ref aA) (putF "size" (.int (n : Nat)) [])))) = H5 at K5 hp5 hA5 ⊢
    -- self.moves_by_name = dict(self.actions)
    have hmem : ∀ x ∈ ys, x ∈ ps := fun x hx => perm.mem_iff.mp hx
    have hact5 : ∀ x ∈ ys, ActAt S H5 x (actAt H1 x) := fun x hx => (hact2 x (hmem x hx)).kp (kS K5)
    have la : (putF "resting" r (putF "actions" (.ref aA) (putF "size" (.int (n : Nat)) []))).lookup ("actions" : PySem.Str) = some (.ref aA) := by
      rw [lookup_putF, if_neg (by decide +kernel), lookup_putF, if_pos rfl]
    refine ⟨_, rfl, p, T.C_Store, dx, _, _, rfl, hp5, T.cl_Store, T.no_Store_actions, la, ?_⟩
    refine ⟨aA, o, ys, ys.map fun x => ((.inr (actAt H1 x).1 : Key), V.ref (mAt H5 x)), rfl, hA5, ho, paired_map _ fun x hx => SqT.of (hact5 x hx).pr, fun dM hdM => ?_⟩
    have ndk : ((ys.map fun x => ((.inr (actAt H1 x).1 : Key), V.ref (mAt H5 x))).map (·.1)).Nodup := by
      rw [List.map_map]
      have nd := (perm.map (actAt H1)).map (fun a : Act => a.1)
      have nd2 := AA.nd
      rw [eacts] at nd2
      have nd3 := nd.nodup_iff.mpr nd2
      rw [List.map_map] at nd3
      have nd4 := List.Pairwise.map (R := (· ≠ ·)) (S := (· ≠ ·)) (fun z : PySem.Str => (Sum.inr z : Key)) (fun a b h e => h (by injection e)) nd3
      rw [List.map_map] at nd4
      exact nd4
    have mg0 : mergeK [] (ys.map fun x => ((.inr (actAt H1 x).1 : Key), V.ref (mAt H5 x))) = ys.map fun x => ((.inr (actAt H1 x).1 : Key), V.ref (mAt H5 x)) := by
      rw [merge_new _ _ (by rw [List.nil_append]; exact ndk), List.nil_append]
    rw [mg0]
    generalize hkv : (ys.map fun x => ((.inr (actAt H1 x).1 : Key), V.ref (mAt H5 x))) = kvs at ndk
    have hdk : ∀ a ∈ ys.map (actAt H1), ∃ m, valV kvs (.inr a.1) = some (.ref m) ∧ H5 m = some (.tup (a.2.map mvV)) := fun a ha => by
      obtain ⟨x, hx, rfl⟩ := List.mem_map.mp ha
      refine ⟨mAt H5 x, ?_, (hact5 x hx).mo⟩
      exact val_nodup (kv := ((.inr (actAt H1 x).1 : Key), V.ref (mAt H5 x))) ndk (by rw [← hkv]; exact List.mem_map.mpr ⟨x, hx, rfl⟩)
    have k6 : Same H5 (upd H5 dM (.dK kvs)) := same_new hdM
    have hp6 := k6 _ _ hp5
    have hA6 := k6 _ _ hA5
    have hM6 : (upd H5 dM (.dK kvs)) dM = some (.dK kvs) := upd_same
    generalize upd H5 dM (.dK kvs) = H6 at k6 hp6 hA6 hM6 ⊢
    refine ⟨_, rfl, p, T.C_Store, dx, _, rfl, hp6, T.cl_Store, T.no_Store_moves_by_name, ?_, ?_⟩
    · exact Nat.lt_of_le_of_lt (Nat.le_trans (length_putF _ _ _) (Nat.succ_le_succ (Nat.le_trans (length_putF _ _ _) (Nat.succ_le_succ (length_putF _ _ _))))) (by decide)
    have pM : dM ≠ p := (ne_of hp6 hM6 (by intro z; cases z)).symm
    have K7 : Kp [p] H5 (upd H6 p (.ins T.C_Store dx (putF "moves_by_name" (.ref dM) (putF "resting" r (putF "actions" (.ref aA) (putF "size" (.int (n : Nat)) [])))))) := (Kp.of k6).wr (.inl List.mem_cons_self)
    have hp7 : (upd H6 p (.ins T.C_Store dx (putF "moves_by_name" (.ref dM) (putF "resting" r (putF "actions" (.ref aA) (putF "size" (.int (n : Nat)) [])))))) p = some (.ins T.C_Store dx (putF "moves_by_name" (.ref dM) (putF "resting" r (putF "actions" (.ref aA) (putF "size" (.int (n : Nat)) []))))) := upd_same
    have hA7 : (upd H6 p (.ins T.C_Store dx (putF "moves_by_name" (.ref dM) (putF "resting" r (putF "actions" (.ref aA) (putF "size" (.int (n : Nat)) [])))))) aA = some (.frz o (.tup (ys.map V.ref))) := by rw [upd_ne pA]; exact hA6
    have hM7 : (upd H6 p (.ins T.C_Store dx (putF "moves_by_name" (.ref dM) (putF "resting" r (putF "actions" (.ref aA) (putF "size" (.int (n : Nat)) [])))))) dM = some (.dK kvs) := by rw [upd_ne pM]; exact hM6
    generalize upd H6 p (.ins T.C_Store dx (putF "moves_by_name" (.ref dM) (putF "resting" r (putF "actions" (.ref aA) (putF "size" (.int (n : Nat)) []))))) = H7 at K7 hp7 hA7 hM7 ⊢
    -- self.ways_by_state = [ways_from(self.actions, state) for state in range(size)]
    have aperm : (ys.map (actAt H1)).Perm acts := by rw [eacts]; exact perm.map _
    have AA' := AA.perm aperm
    have n3 := AA.sz
    have hx7 : DvAll S H7 (ys.map V.ref) ((ys.map (actAt H1)).map actD) := dvs_eq fun x hx => ((hact5 x hx).kp (kS K7)).dv
    have la7 : (putF "moves_by_name" (.ref dM) (putF "resting" r (putF "actions" (.ref aA) (putF "size" (.int (n : Nat)) [])))).lookup ("actions" : PySem.Str) = some (.ref aA) := by
      rw [lookup_putF, if_neg (by decide +kernel)]
      exact la
    refine ⟨_, rfl, (n : Nat), rfl, by omega, by omega, fun D hD => ?_⟩
    have s7 : Same H7 (upd H7 D (.lst [])) := same_new hD
    refine lc_range (lo := 0) (n := ((n : Nat) : Int).toNat) (fun i H' => ∃ ds : List Addr, ds.length = i ∧ Same H7 H' ∧ H' D = some (.lst (ds.map V.ref)) ∧ ∀ one d, ds[one]? = some d → ∃ E, H' d = some (.dK (kvsE E)) ∧ WaysAt H' E ∧ Bf (ys.map (actAt H1)) n one E.length (fndE E)) ⟨[], rfl, s7, upd_same, fun one d h => by cases h⟩ ?_ ?_
    · rintro i H' hi ⟨ds, hdl, k, hDl, hds⟩
      rw [Int.toNat_natCast] at hi
      refine ⟨rfl, ?_⟩
      refine ⟨_, rfl, p, T.C_Store, dx, _, _, rfl, k _ _ hp7, T.cl_Store, T.no_Store_actions, la7, _, rfl, n, i, S, aA, _, _, by rw [Int.zero_add]; rfl, .inl (.inr ⟨o, k _ _ hA7⟩), hx7.kp (Kp.of k), AA', hi, fun H'' d E s2 hd0 hdE hwE bf => ?_⟩
      have hD2 := s2 _ _ hDl
      refine ⟨_, hD2, by rw [List.length_map, sizeLine_eq]; omega, ds ++ [d], by rw [List.length_append, hdl]; rfl, fun b o' eb => ?_, by rw [upd_same, List.map_append]; rfl, fun one d' h => ?_⟩
      · rw [upd_ne (ne_of_none eb hD)]
        exact s2 _ _ (k _ _ eb)
      · have go : ∀ E', H'' d' = some (.dK (kvsE E')) → WaysAt H'' E' → (upd H'' D (.lst (ds.map V.ref ++ [.ref d]))) d' = some (.dK (kvsE E')) ∧ WaysAt (upd H'' D (.lst (ds.map V.ref ++ [.ref d]))) E' := fun E' h1 h2 => by
          refine ⟨?_, fun e he => ?_⟩
          · rw [upd_ne (ne_of h1 hD2 (by intro z; cases z))]
            exact h1
          · rw [upd_ne (ne_of (h2 e he) hD2 (by intro z; cases z))]
            exact h2 e he
        by_cases ho : one < ds.length
        · rw [List.getElem?_append_left ho] at h
          obtain ⟨E', e1, e2, e3⟩ := hds one d' h
          obtain ⟨g1, g2⟩ := go E' (s2 _ _ e1) (e2.same s2)
          exact ⟨E', g1, g2, e3⟩
        · rw [List.getElem?_append_right (by omega)] at h
          have h0 : one - ds.length = 0 := by
            have := (List.getElem?_eq_some_iff.mp h).1
            rw [List.length_singleton] at this
            omega
          rw [h0] at h
          cases h
          obtain rfl : one = i := by omega
          obtain ⟨g1, g2⟩ := go E hdE hwE
          exact ⟨E, g1, g2, bf⟩
    · rintro H' ⟨ds, hdl, k, hDl, hds⟩
      rw [Int.toNat_natCast] at hdl
      have hp8 := k _ _ hp7
      refine ⟨_, rfl, p, T.C_Store, dx, _, rfl, hp8, T.cl_Store, T.no_Store_ways_by_state, ?_, ?_⟩
      · exact Nat.lt_of_le_of_lt (Nat.le_trans (length_putF _ _ _) (Nat.succ_le_succ (Nat.le_trans (length_putF _ _ _) (Nat.succ_le_succ (Nat.le_trans (length_putF _ _ _) (Nat.succ_le_succ (length_putF _ _ _))))))) (by decide)
      have KE : Kp [p] H7 (upd H' p (.ins T.C_Store dx (flds n aA r dM D))) := (Kp.of k).wr (.inl List.mem_cons_self)
      have np : ∀ {b : Addr} {ob : HO}, H' b = some ob → (∀ C dx fs, ob ≠ .ins C dx fs) → (upd H' p (.ins T.C_Store dx (flds n aA r dM D))) b = some ob := fun hb hn => by
        rw [upd_ne (ne_of hb hp8 (hn _ _ _))]
        exact hb
      refine q _ (ys.map (actAt H1)) ((((K1.trans k12).trans K5).trans K7).trans KE) aperm ?_ ⟨dx, aA, o, ys, dM, D, kvs, ds, upd_same, np (k _ _ hA7) (by intro _ _ _ z; cases z), hx7.kp (kS KE), ⟨np (k _ _ hM7) (by intro _ _ _ z; cases z), by rw [← hkv, List.map_map, List.map_map]; rfl⟩, fun a ha => ?_, np hDl (by intro _ _ _ z; cases z), hdl, fun one d h => ?_⟩
      · refine List.pairwise_map.mpr (asc.imp_of_mem fun {x y} hx hy h => ?_)
        have e1 : (actAt H1 x).1 = nameAt H2 x := by rw [← hact2' x (hmem x hx)]; rfl
        have e2 : (actAt H1 y).1 = nameAt H2 y := by rw [← hact2' y (hmem y hy)]; rfl
        rw [e1, e2]
        exact h
      · obtain ⟨m, e1, e2⟩ := hdk a ha
        have n1 : m ∉ [p] := fun z => by
          cases List.mem_singleton.mp z
          rw [hp5] at e2
          cases e2
        exact ⟨m, e1, np (k _ _ (K7 _ _ n1 e2)) (by intro _ _ _ z; cases z)⟩
      · obtain ⟨E', e1, e2, e3⟩ := hds one d h
        exact ⟨E', np e1 (by intro _ _ _ z; cases z), fun e he => np (e2 e he) (by intro _ _ _ z; cases z), e3⟩
theorem ok_Store_init (T : Txt K mg) : Sk.FnK P w K mg base (L2N.CX P w) 6 T.a_Store_init ["resting"] (sp_init T) := by
  refine Sk.fn_starK (ps := ["self", "size"]) (pk := ["resting"]) (pv := "actions") T.F_Store_init sc_Store_init cxUpN (fun kV doc pm an cdv ct us rest ws h1 h2 => ?_) (fun cdv A outer s H vs rest zs Q E hr hl hz h pt hpt => ?_) (fun zs vs H Q E h => ?_)
  · match us, ws, rest, h1, h2 with
    | [a, b], [c], [], _, _ => rfl
    | [a, b], [c], r :: rs, _, _ => rfl
  · exact init_body T cdv A outer s H vs rest zs Q E hr hl h pt hpt
  · obtain ⟨p, dx, S, sv, sd, rest', ds, r, rd, rfl, rfl, hpS, hp, hsv, osv, hx, ox, h20, _⟩ := h
    have := hx.length
    refine ⟨by show 2 ≤ _ + 1 + 1; omega, ?_⟩
    show _ + 1 + 1 ≤ _
    rw [sizeLine_eq]
    omega
end
end K04
set_option Elab.async false
set_option linter.all false
set_option maxRecDepth 100000
set_option maxHeartbeats 4000000
/-! k04: Store.of, ==, in. -/
namespace K04
open PySem PySem.Spec PyProof.Rows L2 Zg Zr Zd Zv Xu
/-! ### plain data: no dict, no bool -/
mutual
def pln : PyData → Bool
  | .none | .int _ | .str _ => true
  | .bool _ | .dict _ => false
  | .list xs | .tuple xs => plnAll xs
def plnAll : List PyData → Bool
  | [] => true
  | x :: xs => pln x && plnAll xs
end
theorem plnAll_iff : ∀ {l : List PyData}, plnAll l = true ↔ ∀ d ∈ l, pln d = true
  | [] => by simp [plnAll]
  | x :: l => by
    rw [plnAll, Bool.and_eq_true, plnAll_iff (l := l)]
    simp
mutual
theorem eqv_iff : ∀ (d e : PyData), pln d = true → pln e = true → (PyData.eqv d e = true ↔ d = e)
  | .none, e, _, he => by cases e <;> first | exact ⟨fun _ => rfl, fun _ => rfl⟩ | exact ⟨(fun z => by cases z), (fun z => by cases z)⟩
  | .bool _, e, hd, _ => by cases hd
  | .dict _, e, hd, _ => by cases hd
  | .int i, e, _, he => by
    cases e with
    | int j =>
      show (i == j) = true ↔ _
      rw [beq_iff_eq]
      exact ⟨(fun z => by rw [z]), (fun z => by injection z)⟩
    | bool b => cases he
    | _ => exact ⟨(fun z => by cases z), (fun z => by cases z)⟩
  | .str x, e, _, he => by
    cases e with
    | str y =>
      show (x == y) = true ↔ _
      rw [beq_iff_eq]
      exact ⟨(fun z => by rw [z]), (fun z => by injection z)⟩
    | _ => exact ⟨(fun z => by cases z), (fun z => by cases z)⟩
  | .list xs, e, hd, he => by
    cases e with
    | list ys =>
      show PyData.eqvAll xs ys = true ↔ _
      rw [eqvAll_iff xs ys hd he]
      exact ⟨(fun z => by rw [z]), (fun z => by injection z)⟩
    | _ => exact ⟨(fun z => by cases z), (fun z => by cases z)⟩
  | .tuple xs, e, hd, he => by
    cases e with
    | tuple ys =>
      show PyData.eqvAll xs ys = true ↔ _
      rw [eqvAll_iff xs ys hd he]
      exact ⟨(fun z => by rw [z]), (fun z => by injection z)⟩
    | _ => exact ⟨(fun z => by cases z), (fun z => by cases z)⟩
theorem eqvAll_iff : ∀ (xs ys : List PyData), plnAll xs = true → plnAll ys = true → (PyData.eqvAll xs ys = true ↔ xs = ys)
  | [], [], _, _ => ⟨fun _ => rfl, fun _ => rfl⟩
  | [], _ :: _, _, _ => ⟨(fun z => by cases z), (fun z => by cases z)⟩
  | _ :: _, [], _, _ => ⟨(fun z => by cases z), (fun z => by cases z)⟩
  | x :: xs, y :: ys, h1, h2 => by
    rw [plnAll, Bool.and_eq_true] at h1 h2
    show (PyData.eqv x y && PyData.eqvAll xs ys) = true ↔ _
    rw [Bool.and_eq_true, eqv_iff x y h1.1 h2.1, eqvAll_iff xs ys h1.2 h2.2]
    exact ⟨(fun z => by rw [z.1, z.2]), (fun z => by injection z with a b; exact ⟨a, b⟩)⟩
end
mutual
theorem dp_dv {K : PySem.W.Frag} {S : List Addr} {H : Hp} : ∀ {v : V} {d : PyData}, Dv S H v d → pln d = true → Dp K H v d
  | _, _, .non, _ => .non
  | _, _, .bl b, h => by cases h
  | _, _, .int i, _ => .int i
  | _, _, .str x, _ => .str x
  | _, _, .lst h n t, p => .lst (SqL.of h) (dpAll_dv t p)
  | _, _, .tup h n t, p => .tup (SqT.of h) (dpAll_dv t p)
  | _, _, .dic h n, p => by cases p
theorem dpAll_dv {K : PySem.W.Frag} {S : List Addr} {H : Hp} : ∀ {vs : List V} {ds : List PyData}, DvAll S H vs ds → plnAll ds = true → DpAll K H vs ds
  | _, _, .nil, _ => .nil
  | _, _, .cons h t, p => by
    rw [plnAll, Bool.and_eq_true] at p
    exact .cons (dp_dv h p.1) (dpAll_dv t p.2)
end
mutual
/-- its texts can be laid -/
def sok : PyData → Bool
  | .str x => PyData.strOk x
  | .list xs | .tuple xs => sokAll xs
  | _ => true
def sokAll : List PyData → Bool
  | [] => true
  | x :: xs => sok x && sokAll xs
end
theorem sokAll_iff : ∀ {l : List PyData}, sokAll l = true ↔ ∀ d ∈ l, sok d = true
  | [] => by simp [sokAll]
  | x :: l => by
    rw [sokAll, Bool.and_eq_true, sokAll_iff (l := l)]
    simp
mutual
theorem pln_lay : ∀ d : PyData, pln d = true → sok d = true → d.canLay0 = true
  | .none, _, _ => rfl
  | .bool _, h, _ => by cases h
  | .dict _, h, _ => by cases h
  | .int i, _, _ => rfl
  | .str x, _, h => h
  | .list xs, h, o => plnAll_lay xs h o
  | .tuple xs, h, o => plnAll_lay xs h o
theorem plnAll_lay : ∀ l : List PyData, plnAll l = true → sokAll l = true → PyData.canLayAll0 l = true
  | [], _, _ => rfl
  | x :: l, h, o => by
    rw [plnAll, Bool.and_eq_true] at h
    rw [sokAll, Bool.and_eq_true] at o
    show (PyData.canLay0 x && PyData.canLayAll0 l) = true
    rw [pln_lay x h.1 o.1, plnAll_lay l h.2 o.2]
    rfl
end
theorem actD_sok {n : Nat} {acts : List Act} (A : Acts n acts) {a : Act} (ha : a ∈ acts) : sok (actD a) = true := by
  show (PyData.strOk a.1 && (sokAll (a.2.map mvD) && true)) = true
  rw [isName_sok (A.nm a ha), sokAll_iff.mpr fun d hd => ?_]
  · rfl
  · obtain ⟨m, _, rfl⟩ := List.mem_map.mp hd
    cases m <;> rfl
theorem states_sok {n : Int} {d : PyData} (h : areStates n d = true) : sok d = true := by
  unfold areStates at h
  split at h
  · rename_i ds
    rw [Bool.and_eq_true, List.all_eq_true] at h
    refine sokAll_iff.mpr fun x hx => ?_
    have := h.1 x hx
    cases x with
    | int i => rfl
    | _ => cases this
  · cases h
theorem actD_pln (a : Act) : pln (actD a) = true := by
  show (true && (plnAll (a.2.map mvD) && true)) = true
  rw [Bool.true_and, Bool.and_true, plnAll_iff]
  intro d hd
  obtain ⟨m, _, rfl⟩ := List.mem_map.mp hd
  cases m <;> rfl
theorem actD_inj {a b : Act} (h : actD a = actD b) : a = b := by
  injection h with h
  injection h with h1 h2
  injection h1 with h1
  injection h2 with h2 _
  injection h2 with h2
  have mi : ∀ m k : Option Nat, mvD m = mvD k → m = k := fun m k e => by
    cases m with
    | none =>
      cases k with
      | none => rfl
      | some k => exact absurd e (by intro z; cases z)
    | some m =>
      cases k with
      | none => exact absurd e (by intro z; cases z)
      | some k =>
        have e' : (m : Int) = (k : Int) := PyData.int.inj e
        congr 1
        omega
  have inj : ∀ l k : List (Option Nat), l.map mvD = k.map mvD → l = k := fun l => by
    induction l with
    | nil =>
      intro k h
      cases k with
      | nil => rfl
      | cons y k => cases h
    | cons x l ih =>
      intro k h
      cases k with
      | nil => cases h
      | cons y k =>
        rw [List.map_cons, List.map_cons] at h
        injection h with h1 h2
        rw [mi x y h1, ih k h2]
  exact Prod.ext h1 (inj _ _ h2)
theorem states_pln {n : Int} {d : PyData} (h : areStates n d = true) : pln d = true ∧ d.depth ≤ 1 := by
  unfold areStates at h
  split at h
  · rename_i ds
    rw [Bool.and_eq_true, List.all_eq_true] at h
    have hi : ∀ x ∈ ds, ∃ i, x = .int i := fun x hx => by
      have := h.1 x hx
      cases x with
      | int i => exact ⟨i, rfl⟩
      | _ => cases this
    refine ⟨plnAll_iff.mpr fun x hx => ?_, ?_⟩
    · obtain ⟨i, rfl⟩ := hi x hx
      rfl
    · show PyData.depthAll ds + 1 ≤ 1
      have : PyData.depthAll ds = 0 := by
        clear h
        induction ds with
        | nil => rfl
        | cons x ds ih =>
          obtain ⟨i, rfl⟩ := hi x List.mem_cons_self
          show max 0 (PyData.depthAll ds) = 0
          rw [ih fun y hy => hi y (List.mem_cons_of_mem _ hy)]
          rfl
      omega
  · cases h
section
variable {P : Program} {w : World} {K : PySem.W.Frag} {mg : PySem.Str → Option Value} {base : Heap}
theorem StAt.sub {C : Addr} {H : Hp} {S S' : List Addr} {p : Addr} {n : Nat} {acts : List Act} {r : V} (h : StAt C H S p n acts r) (e : ∀ a ∈ S', a ∈ S) : StAt C H S' p n acts r := by
  obtain ⟨dx, aA, o, ps, dM, lW, kvs, ds, h1, h2, h3, h4⟩ := h.ex
  exact ⟨dx, aA, o, ps, dM, lW, kvs, ds, h1, h2, h3.sub e, h4⟩
/-- the part at fault in what Store.of is given -/
def flt (sd ad rd : PyData) : Option PyData := if isSz sd = true then (match ad with
  | .tuple ds => chk sd ds rd
  | _ => some (.str "actions")) else some (.str "size")
def rows : PyData → List PyData
  | .tuple ds => ds
  | _ => []
def sp_of (T : Txt K mg) : Sp := fun vs H Q E => ∃ (S : List Addr) (sv av r : V) (sd ad rd : PyData), vs = [.ref T.C_Store, sv, av, r] ∧ Dv S H sv sd ∧ okw sd = true ∧ Dv S H av ad ∧ okw ad = true ∧ (rows ad).length ≤ 900 ∧ Dv S H r rd ∧ okw rd = true ∧
  match flt sd ad rd with
    | none => ∀ (n : Nat) (acts : List Act), sd = .int (n : Nat) → ad = .tuple (acts.map actD) → Acts n acts → ∀ (H' : Hp) (p : Addr) (acts' : List Act), Same H H' → H p = none → acts'.Perm acts → Asc acts' → StAt T.C_Store H' S p n acts' r → Q (.ref p) H'
    | some f => Bad T S H E f
theorem ok_Store_of (T : Txt K mg) : FnOk P w K mg base (L2N.CX P w) 8 T.a_Store_of T.d_Store_of P_Store_of (sp_of T) := by
  refine Xv.okXN T.F_Store_of sc_Store_of (fun vs H Q E h => by obtain ⟨S, sv, av, r, sd, ad, rd, rfl, _⟩ := h; rfl) (fun cdv A outer s H vs Q E hr h => ?_)
  refine ⟨_, (pss_cons (ps_if (pt_not (pt_val (pe_call (ok_is_size T) (hr.mono (by omega)) (by rfl) T.g_is_size T.F_is_size.kp T.b_is_size .nil pass0 (pa_cons (pv 1) pa_nil)))) (pss_one (L2N.ps_raise rfl (L2N.takes_of rfl rfl rfl rfl) (Xw.pmk_E T.E_BadStore.ox T.iC_BadStore T.tI_BadStore (ok_BadStore_init T) (hr.mono (by decide)) T.b_BadStore_init rfl pass0 rfl T.g_BadStore (pa_cons pe_str pa_nil)))) pss_nil)
    (pss_cons (ps_if (pt_not (pt_val (pe_callB call_isi (by rfl) T.n_isinstance (by decide +kernel) (pa_cons (pv 2) (pa_cons (pe_bltn (v := .ty "tuple") (u := .type "tuple") (by rfl) T.n_tuple (by decide +kernel) rfl) pa_nil))))) (pss_one (L2N.ps_raise rfl (L2N.takes_of rfl rfl rfl rfl) (Xw.pmk_E T.E_BadStore.ox T.iC_BadStore T.tI_BadStore (ok_BadStore_init T) (hr.mono (by decide)) T.b_BadStore_init rfl pass0 rfl T.g_BadStore (pa_cons pe_str pa_nil)))) pss_nil)
    (pss_one (ps_ret (Sk.pe_clsK (i := 0) T.mk_Store (ok_Store_init T) (hr.mono (by decide)) rfl (Or.inl rfl) (L2N.passes_call (L2N.takes_of rfl rfl rfl rfl) (fun _ _ _ _ h => h)) (pa_cons (pv 1) (StX.pa_star (pv 2) pa_nil)) (pk_cons (pv 3) pk_nil)))))), ?_⟩
  obtain ⟨S, sv, av, r, sd, ad, rd, rfl, hsv, osv, hav, oav, h20, hrd, ord, q⟩ := h
  refine ⟨_, rfl, S, sv, sd, rfl, hsv, osv, fun H1 k1 => ⟨_, rfl, ?_⟩⟩
  unfold flt at q
  cases hz : isSz sd with
  | false =>
    rw [if_neg (by rw [hz]; exact Bool.false_ne_true)] at q
    exact ⟨rfl, raise_bad q k1 (.str _)⟩
  | true =>
    rw [if_pos hz] at q
    refine iteF ?_
    refine ⟨_, rfl, av, .ty "tuple", _, _, _, rfl, .ty _, (hav.kp (Kp.of k1)).ty, kit_all K _ (by decide) _ (tyD_mem ad), _, rfl, ?_⟩
    by_cases ht : isA "tuple" ad = true
    · obtain ⟨a, xs, ds, rfl, rfl, ha, nS, hx⟩ := hav.tuple ht
      rw [show isB "tuple" (tyD (.tuple ds)) = true from rfl]
      refine iteF ?_
      have ha1 := k1 _ _ ha
      have od : okwAll ds = true := by
        have o' : (decide (ds.length ≤ 1000) && okwAll ds) = true := oav
        rw [Bool.and_eq_true] at o'
        exact o'.2
      refine ⟨rfl, _, rfl, _, rfl, a, xs, rfl, .inl (SqT.of ha1), _, rfl, rfl, fun x dx hx0 hdx ne => ?_⟩
      have s1 : Same H1 (upd (upd H1 dx (.own x)) x (.ins T.C_Store dx [])) := fun b o e => by
        rw [upd_ne (ne_of_none e hx0)]
        exact same_new hdx _ _ e
      have hS : ∀ a ∈ S, a ∈ x :: S := fun a ha => List.mem_cons_of_mem _ ha
      have kk : Same H (upd (upd H1 dx (.own x)) x (.ins T.C_Store dx [])) := k1.trans s1
      have hss : Dv (x :: S) H1 sv sd := (hsv.kp (Kp.of k1)).fresh hx0
      have hxx : DvAll (x :: S) H1 xs ds := (hx.kp (Kp.of k1)).fresh hx0
      have hrr : Rv K (x :: S) H1 r rd := .inl ((hrd.kp (Kp.of k1)).fresh hx0)
      have hxH : H x = none := k1.free hx0
      refine ⟨x, dx, x :: S, sv, sd, xs, ds, r, rd, rfl, by rw [List.append_nil], List.mem_cons_self, upd_same, hss.kp (Kp.of s1), osv, hxx.kp (Kp.of s1), od, h20, hrr.kp (Kp.of s1), ord, ?_⟩
      have q : (match chk sd ds rd with
        | none => ∀ (n : Nat) (acts : List Act), sd = .int (n : Nat) → PyData.tuple ds = .tuple (acts.map actD) → Acts n acts → ∀ (H' : Hp) (p : Addr) (acts' : List Act), Same H H' → H p = none → acts'.Perm acts → Asc acts' → StAt T.C_Store H' S p n acts' r → Q (.ref p) H'
        | some f => Bad T S H E f) := q
      cases hc : chk sd ds rd with
      | some f =>
        rw [hc] at q
        exact fun d H' v k h1 h2 => q d H' v (kk.trans k) h1 (h2.sub hS)
      | none =>
        rw [hc] at q
        intro n acts e1 e2 AA H' acts' k' perm asc st
        refine ⟨rfl, q n acts e1 (by rw [e2]) AA H' x acts' (fun b o e => ?_) hxH perm asc (st.sub hS)⟩
        have nb : b ∉ [x] := fun m => by
          cases List.mem_singleton.mp m
          rw [hxH] at e
          cases e
        exact k' _ _ nb (kk _ _ e)
    · have e : (match ad with
        | .tuple ds => chk sd ds rd
        | _ => some (.str "actions")) = some (.str "actions") := by
        cases ad with
        | tuple ds => exact absurd rfl ht
        | _ => rfl
      rw [e] at q
      have ht2 : isB "tuple" (tyD ad) = false := by
        have : isA "tuple" ad = false := by simpa using ht
        exact this
      rw [ht2]
      exact ⟨rfl, raise_bad q k1 (.str _)⟩
end
end K04
set_option Elab.async false
set_option linter.all false
set_option maxRecDepth 100000
set_option maxHeartbeats 4000000
/-! k04: ==, in. -/
namespace K04
open PySem PySem.Spec PyProof.Rows L2 Zg Zr Zd Zv Xu
theorem depth_act (a : Act) : (actD a).depth ≤ 2 := by
  have h : ∀ ms : List (Option Nat), PyData.depthAll (ms.map mvD) = 0 := fun ms => by
    induction ms with
    | nil => rfl
    | cons m ms ih =>
      show max (mvD m).depth (PyData.depthAll (ms.map mvD)) = 0
      rw [ih]
      cases m <;> rfl
  show max 0 (max (PyData.depthAll (a.2.map mvD) + 1) 0) + 1 ≤ 2
  rw [h]
  decide
theorem depth_all {k : Nat} : ∀ {l : List PyData}, (∀ d ∈ l, d.depth ≤ k) → PyData.depthAll l ≤ k
  | [], _ => Nat.zero_le _
  | x :: l, h => by
    show max x.depth (PyData.depthAll l) ≤ k
    have := h x List.mem_cons_self
    have := depth_all fun d hd => h d (List.mem_cons_of_mem _ hd)
    omega
/-- what a store shows: its size, its actions, its resting states -/
def stD (n : Nat) (acts : List Act) (rd : PyData) : PyData := .tuple [.int (n : Nat), .tuple (acts.map actD), rd]
theorem acts_pln (acts : List Act) : plnAll (acts.map actD) = true := plnAll_iff.mpr fun d hd => by
  obtain ⟨a, _, rfl⟩ := List.mem_map.mp hd
  exact actD_pln a
theorem stD_pln {n : Nat} {acts : List Act} {rd : PyData} (h : areStates n rd = true) : pln (stD n acts rd) = true := by
  show (true && (plnAll (acts.map actD) && (pln rd && true))) = true
  rw [acts_pln, (states_pln h).1]
  rfl
theorem stD_shaped {n : Nat} {acts : List Act} {rd : PyData} (A : Acts n acts) (h : areStates n rd = true) (o : okw rd = true) : SeqAt.shaped (stD n acts rd) = true := by
  have h1 : PyData.canLayAll0 (acts.map actD) = true := plnAll_lay _ (acts_pln acts) (sokAll_iff.mpr fun d hd => by
    obtain ⟨a, ha, rfl⟩ := List.mem_map.mp hd
    exact actD_sok A ha)
  have h2 : PyData.depthAll (acts.map actD) ≤ 2 := depth_all fun d hd => by
    obtain ⟨a, _, rfl⟩ := List.mem_map.mp hd
    exact depth_act a
  have h3 := (states_pln h).2
  show ((true && (PyData.canLayAll0 (acts.map actD) && (PyData.canLay0 rd && true))) && decide (max 0 (max (PyData.depthAll (acts.map actD) + 1) (max rd.depth 0)) + 1 ≤ 64)) = true
  rw [h1, pln_lay rd (states_pln h).1 (states_sok h), decide_eq_true (by omega)]
  rfl
theorem stD_iff {n n' : Nat} {acts acts' : List Act} {rd rd' : PyData} : stD n acts rd = stD n' acts' rd' ↔ n = n' ∧ acts = acts' ∧ rd = rd' := by
  constructor
  · intro h
    injection h with h
    injection h with h1 h
    injection h with h2 h
    injection h with h3 _
    injection h1 with h1
    injection h2 with h2
    refine ⟨by omega, ?_, h3⟩
    have inj : ∀ l k : List Act, l.map actD = k.map actD → l = k := fun l => by
      induction l with
      | nil =>
        intro k h
        cases k with
        | nil => rfl
        | cons y k => cases h
      | cons x l ih =>
        intro k h
        cases k with
        | nil => cases h
        | cons y k =>
          rw [List.map_cons, List.map_cons] at h
          injection h with h1 h2
          rw [actD_inj h1, ih k h2]
    exact inj _ _ h2
  · rintro ⟨rfl, rfl, rfl⟩
    rfl
section
variable {P : Program} {w : World} {K : PySem.W.Frag} {mg : PySem.Str → Option Value} {base : Heap}
theorem _root_.K04.Rv.dp {K : PySem.W.Frag} {S : List Addr} {H : Hp} {v : V} {d : PyData} (h : Rv K S H v d) (hp : pln d = true) : Dp K H v d := by
  rcases h with h | ⟨t, rfl, rfl, he⟩
  · exact dp_dv h hp
  · exact .tup (Sq.sqt (.inr ⟨rfl, he⟩)) .nil
/-- a store of these parts, resting as shown -/
structure Sto (T : Txt K mg) (H : Hp) (p : Addr) (n : Nat) (acts : List Act) (rd : PyData) : Prop where
  ex : ∃ (S : List Addr) (r : V), StAt T.C_Store H S p n acts r ∧ Rv K S H r rd
  A : Acts n acts
  one : 1 ≤ n
  st : areStates n rd = true
  ok : okw rd = true
theorem Sto.same {T : Txt K mg} {H H' : Hp} {p : Addr} {n : Nat} {acts : List Act} {rd : PyData} (h : Sto T H p n acts rd) (k : Same H H') : Sto T H' p n acts rd := by
  obtain ⟨S, r, h1, h2⟩ := h.ex
  exact ⟨⟨S, r, h1.same k, h2.kp (Kp.of k)⟩, h.A, h.one, h.st, h.ok⟩
theorem Sto.ty {T : Txt K mg} {H : Hp} {p : Addr} {n : Nat} {acts : List Act} {rd : PyData} (h : Sto T H p n acts rd) : TyX K H (.ref p) (.ref T.C_Store) := by
  obtain ⟨S, r, h1, h2⟩ := h.ex
  obtain ⟨dx, aA, o, ps, dM, lW, kvs, ds, e1, _⟩ := h1.ex
  exact Xo.ins_ty T.ins_Store T.cl_Store e1
def sp_eq (T : Txt K mg) : Sp := fun vs H Q _ => ∃ (p : Addr) (o : V) (n : Nat) (acts : List Act) (rd : PyData), vs = [.ref p, o] ∧ Sto T H p n acts rd ∧
  ((∃ S d, Dv S H o d ∧ ∀ H', Same H H' → Q (.bl false) H') ∨
    ∃ (p' : Addr) (n' : Nat) (acts' : List Act) (rd' : PyData), o = .ref p' ∧ Sto T H p' n' acts' rd' ∧ ∀ H' b, Same H H' → (b = true ↔ n = n' ∧ acts = acts' ∧ rd = rd') → Q (.bl b) H')
theorem ok_Store_eq (T : Txt K mg) : FnOk P w K mg base CX0 1 T.a_Store_eq T.d_Store_eq P_Store_eq (sp_eq T) := by
  refine T.F_Store_eq.ok sc_Store_eq (fun vs H Q E h => by obtain ⟨p, o, n, acts, rd, rfl, _⟩ := h; rfl) (fun cdv A outer s H vs Q E hr h => ?_)
  refine ⟨_, (pss_cons (ps_if (pt_not (pt_val (pe_callB call_isi (by rfl) T.n_isinstance (by decide +kernel) (pa_cons (pv 1) (pa_cons (pe_glob (v := .ref T.C_Store) rfl T.g_Store rfl) pa_nil))))) (pss_one (ps_ret pe_bl)) pss_nil)
    (pss_one (ps_ret (pe_cmpR (op_eqD hr.units) (pe_tup (pa_cons (pe_fld (pv 0) rfl) (pa_cons (pe_fld (pv 0) rfl) (pa_cons (pe_fld (pv 0) rfl) pa_nil)))) (pe_tup (pa_cons (pe_fld (pv 1) rfl) (pa_cons (pe_fld (pv 1) rfl) (pa_cons (pe_fld (pv 1) rfl) pa_nil)))) (nomark _))))), ?_⟩
  obtain ⟨p, o, n, acts, rd, rfl, hs, h⟩ := h
  rcases h with ⟨S, d, hd, q⟩ | ⟨p', n', acts', rd', rfl, hs', q⟩
  · refine ⟨_, rfl, o, .ref T.C_Store, _, _, false, rfl, .own _, hd.ty, Xo.kit_no T.ins_Store _ (tyD_mem d), _, rfl, ?_⟩
    exact iteT (q H (Same.refl _))
  · refine ⟨_, rfl, .ref p', .ref T.C_Store, _, _, true, rfl, .own _, hs'.ty, Xo.kit_me K T.C_Store, _, rfl, ?_⟩
    refine iteF ?_
    obtain ⟨S, r, st, hrd⟩ := hs.ex
    obtain ⟨S', r', st', hrd'⟩ := hs'.ex
    obtain ⟨dx, aA, o, ps, dM, lW, kvs, ds, h1, h2, h3, _⟩ := st.ex
    obtain ⟨dx', aA', o', ps', dM', lW', kvs', ds', h1', h2', h3', _⟩ := st'.ex
    refine ⟨_, rfl, p, T.C_Store, dx, _, _, rfl, h1, T.cl_Store, T.no_Store_size, flds_size, ?_⟩
    refine ⟨_, rfl, p, T.C_Store, dx, _, _, rfl, h1, T.cl_Store, T.no_Store_actions, flds_actions, ?_⟩
    refine ⟨_, rfl, p, T.C_Store, dx, _, _, rfl, h1, T.cl_Store, T.no_Store_resting, flds_resting, by show 3 ≤ sizeLine; decide, fun t1 n1 => ?_⟩
    have k1 := same_new (o := .tup [.int (n : Nat), .ref aA, r]) n1
    refine ⟨_, rfl, p', T.C_Store, dx', _, _, rfl, k1 _ _ h1', T.cl_Store, T.no_Store_size, flds_size, ?_⟩
    refine ⟨_, rfl, p', T.C_Store, dx', _, _, rfl, k1 _ _ h1', T.cl_Store, T.no_Store_actions, flds_actions, ?_⟩
    refine ⟨_, rfl, p', T.C_Store, dx', _, _, rfl, k1 _ _ h1', T.cl_Store, T.no_Store_resting, flds_resting, by show 3 ≤ sizeLine; decide, fun t2 n2 => ?_⟩
    have k2 := k1.trans (same_new (o := .tup [.int (n' : Nat), .ref aA', r']) n2)
    have e1 := (same_new (o := .tup [.int (n' : Nat), .ref aA', r']) n2) t1 _ upd_same
    refine ⟨stD n acts rd, stD n' acts' rd', .tup (SqT.of e1) (.cons (.int _) (.cons (.tup (.inl (.inr ⟨o, k2 _ _ h2⟩)) (dpAll_dv (h3.kp (Kp.of k2)) (acts_pln acts))) (.cons ((hrd.kp (Kp.of k2)).dp (states_pln hs.st).1) .nil))),
      .tup (SqT.of upd_same) (.cons (.int _) (.cons (.tup (.inl (.inr ⟨o', k2 _ _ h2'⟩)) (dpAll_dv (h3'.kp (Kp.of k2)) (acts_pln acts'))) (.cons ((hrd'.kp (Kp.of k2)).dp (states_pln hs'.st).1) .nil))),
      stD_shaped hs.A hs.st hs.ok, stD_shaped hs'.A hs'.st hs'.ok, q _ _ k2 ?_⟩
    rw [eqv_iff _ _ (stD_pln hs.st) (stD_pln hs'.st)]
    exact stD_iff
end
end K04
set_option Elab.async false
set_option linter.all false
set_option maxRecDepth 100000
set_option maxHeartbeats 4000000
/-! k04: words, numbers, lines (plain). -/
namespace K04
open PySem PySem.Spec PyProof.Rows L2 Zg Zr Zd Zv
open TL (tl len_tl ext_tl)
/-! ### a text cut -/
theorem spl_sum {s : Nat} : ∀ (l acc : List Nat), ((TL.spl [s] 0 acc l).map List.length).sum + (TL.spl [s] 0 acc l).length = acc.length + l.length + 1
  | [], acc => by
    rw [TL.spl_nil]
    show (acc.length + 0) + 1 = acc.length + 0 + 1
    omega
  | c :: r, acc => by
    by_cases h : TL.pre [s] (c :: r) = true
    · rw [TL.spl_hit h]
      have ih := spl_sum (s := s) r []
      show (acc.length + ((TL.spl [s] 0 [] r).map List.length).sum) + ((TL.spl [s] 0 [] r).length + 1) = acc.length + (r.length + 1) + 1
      rw [List.length_nil] at ih
      omega
    · have h' : TL.pre [s] (c :: r) = false := by simpa using h
      rw [TL.spl_miss h']
      have ih := spl_sum (s := s) r (acc ++ [c])
      rw [List.length_append] at ih
      rw [ih]
      show acc.length + 1 + r.length + 1 = acc.length + (r.length + 1) + 1
      omega
theorem spl_ne {s : Nat} : ∀ (l acc : List Nat), TL.spl [s] 0 acc l ≠ []
  | [], acc => by rw [TL.spl_nil]; exact List.cons_ne_nil _ _
  | c :: r, acc => by
    by_cases h : TL.pre [s] (c :: r) = true
    · rw [TL.spl_hit h]
      exact List.cons_ne_nil _ _
    · have h' : TL.pre [s] (c :: r) = false := by simpa using h
      rw [TL.spl_miss h']
      exact spl_ne r _
/-- a sign alone, as a text -/
def one (s : Nat) : PySem.Str := ⟨#[s]⟩
theorem cut_tl {s : Nat} (hs : s < 256) (x : PySem.Str) : (Txt.split x (one s)).map tl = TL.spl [s] 0 [] (tl x) :=
  TL.split_spl x (one s) (List.cons_ne_nil _ _) (TL.kind_ok (by
    show (#[s] : Array Nat).all (· < 256) = true
    simp [hs]))
theorem lens {l : List PySem.Str} : (l.map PySem.Str.length) = (l.map tl).map List.length := by
  rw [List.map_map]
  exact List.map_congr_left fun x _ => len_tl x
theorem cut_sum {s : Nat} (hs : s < 256) (x : PySem.Str) : ((Txt.split x (one s)).map PySem.Str.length).sum + (Txt.split x (one s)).length = x.length + 1 := by
  have h := spl_sum (s := s) (tl x) []
  rw [← cut_tl hs, ← lens, List.length_map, ← len_tl] at h
  rw [h]
  simp
theorem cut_ne {s : Nat} (hs : s < 256) (x : PySem.Str) : Txt.split x (one s) ≠ [] := fun e => by
  have h := cut_tl hs x
  rw [e] at h
  exact spl_ne (tl x) [] h.symm
theorem le_sum : ∀ {l : List Nat} {n : Nat}, n ∈ l → n ≤ l.sum
  | [], _, h => by cases h
  | a :: l, n, h => by
    rw [List.sum_cons]
    rcases List.mem_cons.mp h with rfl | h
    · omega
    · have := le_sum h
      omega
theorem cut_part {s : Nat} (hs : s < 256) {x p : PySem.Str} (h : p ∈ Txt.split x (one s)) : p.length ≤ x.length := by
  have h1 := cut_sum hs x
  have h2 := le_sum (List.mem_map.mpr ⟨p, h, rfl⟩ : p.length ∈ (Txt.split x (one s)).map PySem.Str.length)
  have h3 : (Txt.split x (one s)).length ≠ 0 := fun e => cut_ne hs x (List.length_eq_zero_iff.mp e)
  omega
theorem cut_len {s : Nat} (hs : s < 256) (x : PySem.Str) : (Txt.split x (one s)).length ≤ x.length + 1 := by
  have h1 := cut_sum hs x
  omega
/-! ### numbers -/
def DIG : List Nat := ("0123456789" : PySem.Str).cps.toList
theorem dig_iff {c : Nat} : c ∈ DIG ↔ 48 ≤ c ∧ c ≤ 57 := by
  have e : DIG = [48, 49, 50, 51, 52, 53, 54, 55, 56, 57] := by decide +kernel
  rw [e]
  simp only [List.mem_cons, List.not_mem_nil, or_false]
  omega
/-- figures without a nought ahead -/
def okNum (w : PySem.Str) : Bool := decide (w ≠ "") && (tl w).all (fun c => decide (c ∈ DIG)) && (decide ((tl w).head? ≠ some 48) || decide (w = "0"))
/-- the number that a word writes -/
def intIn (w : PySem.Str) : Option Nat := if okNum w = true then some (NumText.digitsVal (tl w)) else none
theorem okNum_digits {w : PySem.Str} (h : okNum w = true) : NumText.AllDigits (tl w) ∧ tl w ≠ [] := by
  unfold okNum at h
  rw [Bool.and_eq_true, Bool.and_eq_true, decide_eq_true_iff, List.all_eq_true] at h
  refine ⟨fun c hc => dig_iff.mp (of_decide_eq_true (h.1.2 c hc)), fun e => h.1.1 (ext_tl e)⟩
theorem okNum_int {w : PySem.Str} (h : okNum w = true) (hl : w.length ≤ 640) : PySem.intText? w = some ((NumText.digitsVal (tl w) : Nat) : Int) :=
  intText_digits (okNum_digits h).1 (okNum_digits h).2 (by omega)
theorem val_big : ∀ (l : List Nat) (a : Nat), 1 ≤ a → a * 10 ^ l.length ≤ l.foldl (fun acc c => acc * 10 + (c - 48)) a
  | [], a, _ => by
    show a * 1 ≤ a
    omega
  | c :: r, a, h => by
    have ih := val_big r (a * 10 + (c - 48)) (by omega)
    rw [List.foldl_cons]
    refine Nat.le_trans ?_ ih
    rw [List.length_cons, Nat.pow_succ]
    have : a * (10 ^ r.length * 10) = (a * 10) * 10 ^ r.length := by rw [Nat.mul_comm (10 ^ r.length) 10, Nat.mul_assoc]
    rw [this]
    exact Nat.mul_le_mul_right _ (by omega)
/-- a number below ten is one figure -/
theorem intIn_small {w : PySem.Str} {k : Nat} (hk : 1 ≤ k) (h9 : k < 10) : intIn w = some k ↔ tl w = [48 + k] := by
  unfold intIn
  constructor
  · intro h
    by_cases ho : okNum w = true
    · rw [if_pos ho] at h
      injection h with h
      obtain ⟨hd, hne⟩ := okNum_digits ho
      unfold okNum at ho
      rw [Bool.and_eq_true, Bool.or_eq_true, decide_eq_true_iff, decide_eq_true_iff] at ho
      cases e : tl w with
      | nil => exact absurd e hne
      | cons c r =>
        rw [e] at h hd ho
        have hc := hd c List.mem_cons_self
        have hv : NumText.digitsVal (c :: r) = r.foldl (fun acc c => acc * 10 + (c - 48)) (0 * 10 + (c - 48)) := rfl
        cases r with
        | nil =>
          have hv' : NumText.digitsVal [c] = 0 * 10 + (c - 48) := rfl
          rw [hv'] at h
          have : c = 48 + k := by omega
          rw [this]
        | cons d r =>
          rcases ho.2 with hh | hh
          · have c1 : c ≠ 48 := fun z => hh (by rw [z]; rfl)
            have big := val_big (d :: r) (0 * 10 + (c - 48)) (by omega)
            rw [← hv, h, List.length_cons, Nat.pow_succ] at big
            have p1 : 1 ≤ 10 ^ r.length := Nat.one_le_pow _ _ (by decide)
            have : 1 * (1 * 10) ≤ (0 * 10 + (c - 48)) * (10 ^ r.length * 10) := Nat.mul_le_mul (by omega) (Nat.mul_le_mul_right _ p1)
            omega
          · rw [hh] at e
            rw [show tl ("0" : PySem.Str) = [48] from by decide +kernel] at e
            cases e
    · rw [if_neg ho] at h
      cases h
  · intro e
    have ho : okNum w = true := by
      unfold okNum
      rw [e, Bool.and_eq_true, Bool.and_eq_true, Bool.or_eq_true, decide_eq_true_iff, decide_eq_true_iff]
      refine ⟨⟨fun z => ?_, ?_⟩, .inl fun z => ?_⟩
      · rw [z] at e
        exact absurd e (by simp [tl]; intro h; cases h)
      · rw [List.all_cons, List.all_nil, Bool.and_true, decide_eq_true_iff, dig_iff]
        omega
      · injection z with z
        omega
    rw [if_pos ho, e]
    show some (0 * 10 + (48 + k - 48)) = some k
    congr 1
    omega
/-! ### words -/
def cm (w : PySem.Str) : List PySem.Str := Txt.split w ","
/-- the states that a word writes; none stands for a word that writes no number -/
def stParts (w : PySem.Str) : List (Option Nat) := if w = "-" then [] else (cm w).map intIn
def statesD (w : PySem.Str) : PyData := if none ∈ stParts w then .none else .tuple ((stParts w).map mvD)
def mvOne (p : PySem.Str) : Option Nat := if p = "-" then none else intIn p
/-- the moves that a word writes -/
def movesIn (w : PySem.Str) : Option (List (Option Nat)) := if ∃ p ∈ cm w, p ≠ "-" ∧ intIn p = none then none else some ((cm w).map mvOne)
def movesD (w : PySem.Str) : PyData := match movesIn w with
  | none => .none
  | some ms => .tuple (ms.map mvD)
def wds (x : PySem.Str) : List PySem.Str := Txt.split x " "
/-- the size that the first line writes -/
def sizeIn (x : PySem.Str) : Option Nat := match wds x with
  | [a, b] => if a = "size" ∧ isSz (mvD (intIn b)) = true then intIn b else none
  | _ => none
/-- the resting states of the second line -/
def restIn (n : Nat) (x : PySem.Str) : Option PyData := match wds x with
  | [a, b] => if a = "resting" ∧ areStates n (statesD b) = true then some (statesD b) else none
  | _ => none
/-- the action of a further line -/
def actIn (n : Nat) (x : PySem.Str) : Option Act := match wds x with
  | [a, b, c] => if a = "action" then (match movesIn c with
    | some ms => if isAct n (.tuple [.str b, .tuple (ms.map mvD)]) = true then some (b, ms) else none
    | none => none) else none
  | _ => none
/-- the actions of lines, the first of the number k -/
def actsIn (n : Nat) : List PySem.Str → Nat → List Act → Nat ⊕ List Act
  | [], _, found => .inr found
  | x :: r, k, found => match actIn n x with
    | none => .inl k
    | some a => if (∃ b ∈ found.getLast?, ¬ b.1.cps.toList < a.1.cps.toList) then .inl k else actsIn n r (k + 1) (found ++ [a])
/-- what lines tell: the number of the first line that is not of its form, or the parts of a store -/
def readL (ls : List PySem.Str) : Nat ⊕ (Nat × List Act × PyData) := match ls with
  | [] => .inl 0
  | x :: r => match sizeIn x with
    | none => .inl 0
    | some n => match r with
      | [] => .inl 1
      | y :: r => match restIn n y with
        | none => .inl 1
        | some rd => match actsIn n r 2 [] with
          | .inl k => .inl k
          | .inr acts => .inr (n, acts, rd)
theorem comma : ("," : PySem.Str) = one 44 := by decide +kernel
theorem blank : (" " : PySem.Str) = one 32 := by decide +kernel
theorem feed : ("\n" : PySem.Str) = one 10 := by decide +kernel
end K04
set_option Elab.async false
set_option linter.all false
set_option maxRecDepth 100000
set_option maxHeartbeats 4000000
set_option pp.maxSteps 2500
/-! k04: numbers that words write. -/
namespace K04
open PySem PySem.Spec PyProof.Rows L2 Zg Zr Zd Zv
open TL (tl len_tl ext_tl)
section
variable {P : Program} {w : World} {K : PySem.W.Frag} {mg : PySem.Str → Option Value} {base : Heap}
theorem okNum_eq (x : PySem.Str) : okNum x = (decide (x ≠ "") && (tl x).all (fun c => decide (c ∈ DIG)) && (decide ((tl x).head? ≠ some 48) || decide (x = "0"))) := rfl
theorem head_str {x : PySem.Str} (h : x ≠ "") : ∃ c r, tl x = c :: r := by
  cases e : tl x with
  | nil => exact absurd (ext_tl (y := "") (by rw [e]; rfl)) h
  | cons c r => exact ⟨c, r, rfl⟩
theorem sign_eq {c : Nat} : (V.str ⟨#[c]⟩ = V.str "0") ↔ c = 48 := by
  constructor
  · intro h
    injection h with h
    have h2 : tl (⟨#[c]⟩ : PySem.Str) = tl ("0" : PySem.Str) := congrArg tl h
    rw [show tl ("0" : PySem.Str) = [48] from by decide +kernel] at h2
    injection h2
  · rintro rfl
    exact congrArg V.str (ext_tl (by decide +kernel))
def sp_num : Sp := fun vs H Q _ => ∃ (x : PySem.Str), vs = [.str x] ∧ x.length ≤ 640 ∧ ∀ H', Same H H' → Q (mvV (intIn x)) H'
theorem ok_integer_in (T : Txt K mg) : FnOk P w K mg base CX0 1 T.a_integer_in T.d_integer_in P_integer_in sp_num := by
  refine T.F_integer_in.ok sc_integer_in (fun vs H Q E h => by obtain ⟨x, rfl, _⟩ := h; rfl) (fun cdv A outer s H vs Q E hr h => ?_)
  refine ⟨_, (pss_cons (ps_if (PW.pt (pw_or (pt_cmpR op_eq (pv 0) pe_str (nomark _)) (pw_or (pt_not (pt_val (pe_callB (cr_all rfl) (by rfl) T.n_all (by decide +kernel) (pa_cons (pe_lc (own := [("sign", 1)]) rfl sc_integer_in.nd (pi_str (pv 0)) (blkOk_by (own := [("sign", 1)]) (N := N_integer_in) (sc := defScope s_integer_in) (by decide +kernel)) (fun _ _ _ _ _ => (pg_name (i := 1) sc_integer_in.nd rfl (Or.inl rfl))) (fun _ _ _ _ _ => pts_nil) (fun _ _ _ _ _ => (pe_cmpR op_in_sign (pv 1) (C8.pe_gc rfl T.m_DIGITS) rfl))) pa_nil)))) (pw_or1 (PW.pt (pw_and (pt_cmpR op_eq (pe_ix ix_str (pv 0) pe_int (fun _ _ => rfl)) pe_str (nomark _)) (pw_and1 (pt_cmpR op_ne (pv 0) pe_str (nomark _))))))))) (pss_one (ps_ret pe_non)) pss_nil)
    (pss_one (ps_ret (pe_callTy call_int_str (by rfl) T.n_int (by decide +kernel) (pa_cons (pv 0) pa_nil))))), ?_⟩
  obtain ⟨x, rfl, hl, q⟩ := h
  have qN : okNum x = false → ∀ H', Same H H' → Q .non H' := fun e H' k => by
    have q' := q H' k
    unfold intIn at q'
    rw [if_neg (by rw [e]; exact Bool.false_ne_true)] at q'
    exact q'
  have qS : okNum x = true → ∀ H', Same H H' → Q (.int ((NumText.digitsVal (tl x) : Nat) : Int)) H' := fun e H' k => by
    have q' := q H' k
    unfold intIn at q'
    rw [if_pos e] at q'
    exact q'
  refine ⟨_, rfl, rfl, _, rfl, ite2 (fun e => ?_) fun e => ?_⟩
  · have e' : x = "" := V.str.inj (of_decide_eq_true e)
    exact qN (by rw [e']; decide +kernel) H (Same.refl _)
  · refine ⟨_, rfl, x, rfl, fun D hD => ?_⟩
    refine lc_it (walk_str (z := x)) (fun i H' => Same H H' ∧ H' D = some (.lst ((((tl x).take i).map fun c => decide (c ∈ DIG)).map V.bl))) ⟨same_new hD, upd_same⟩ (fun _ _ _ _ => True.intro) ?_ ?_
    · rintro i y H1 H2 hi ⟨k, hDl⟩ ⟨rfl, c, hc, rfl⟩
      have hc' : (tl x)[i]? = some c := by simpa using hc
      refine ⟨rfl, _, rfl, c, _, rfl, rfl, _, hDl, ?_, ?_, ?_⟩
      · rw [List.length_map, List.length_map, List.length_take, sizeLine_eq]
        have := len_tl x
        omega
      · exact fun b o eb => by rw [upd_ne (ne_of_none eb hD)]; exact k _ _ eb
      · rw [upd_same, List.take_succ, hc', List.map_append, List.map_append]
        rfl
    · rintro H1 ⟨k, hDl⟩
      rw [show x.cps.size = (tl x).length by simp [tl], List.take_length] at hDl
      refine ⟨D, _, rfl, SqL.of hDl, _, rfl, ?_⟩
      have eall : (((tl x).map fun c => decide (c ∈ DIG)).all id) = (tl x).all (fun c => decide (c ∈ DIG)) := by
        rw [List.all_map]
        rfl
      rw [eall]
      cases ha : (tl x).all (fun c => decide (c ∈ DIG)) with
      | false =>
        refine iteT (qN ?_ _ k)
        rw [okNum_eq, ha, Bool.and_false]
        rfl
      | true =>
        refine iteF ?_
        obtain ⟨c, r, ec⟩ := head_str (fun z => e (decide_eq_true (congrArg V.str z)))
        have nx : x ≠ "" := fun z => e (decide_eq_true (congrArg V.str z))
        have h0 : (tl x)[0]? = some c := by rw [ec]; rfl
        refine ⟨_, rfl, x, 0, c, rfl, rfl, by rw [sizeLine_eq]; omega, atI_nat (j := 0) h0, rfl, _, rfl, ite2 (fun e2 => ?_) fun e2 => ?_⟩
        · have hc := sign_eq.mp (of_decide_eq_true e2)
          refine ⟨_, rfl, rfl, _, rfl, ?_⟩
          by_cases e3 : x = "0"
          · rw [decide_eq_true (congrArg V.str e3)]
            refine iteF ?_
            have ok : okNum x = true := by
              rw [okNum_eq, ha, decide_eq_true nx, decide_eq_true e3, Bool.or_true]
              rfl
            exact ⟨_, rfl, x, _, rfl, okNum_int ok hl, hl, qS ok _ k⟩
          · rw [decide_eq_false (fun z => e3 (V.str.inj z))]
            refine iteT ?_
            refine qN ?_ _ k
            rw [okNum_eq, ec, hc, decide_eq_false e3, show decide ((48 :: r).head? ≠ some 48) = false from decide_eq_false (fun z => z rfl)]
            simp
        · have ok : okNum x = true := by
            rw [okNum_eq, ha, decide_eq_true nx, ec, show decide ((c :: r).head? ≠ some 48) = true from decide_eq_true (fun z => e2 (decide_eq_true (sign_eq.mpr (by injection z))))]
            rfl
          exact ⟨_, rfl, x, _, rfl, okNum_int ok hl, hl, qS ok _ k⟩
theorem ok_number (T : Txt K mg) : FnOk P w K mg base CX0 1 T.a_number T.d_number P_number sp_num := by
  refine T.F_number.ok sc_number (fun vs H Q E h => by obtain ⟨x, rfl, _⟩ := h; rfl) (fun cdv A outer s H vs Q E hr h => ?_)
  refine ⟨_, (pss_cons (ps_if (PW.pt (pw_or (pt_cmpR op_eq (pv 0) pe_str (nomark _)) (pw_or (pt_cmpR (op_neE (Nat.lt_of_le_of_lt (Nat.le_add_right _ 64) hr.units)) (pe_lc (own := [("sign", 1)]) rfl sc_number.nd (pi_str (pv 0)) (blkOk_by (own := [("sign", 1)]) (N := N_number) (sc := defScope s_number) (by decide +kernel)) (fun _ _ _ _ _ => (pg_name (i := 1) sc_number.nd rfl (Or.inl rfl))) (fun _ _ _ _ _ => (pts_one (pt_cmpR op_notIn_sign (pv 1) pe_str rfl))) (fun _ _ _ _ _ => (pv 1))) (pe_lst pa_nil) (nomark _)) (pw_or1 (PW.pt (pw_and (pt_cmpR op_eq (pe_ix ix_str (pv 0) pe_int (fun _ _ => rfl)) pe_str (nomark _)) (pw_and1 (pt_cmpR op_ne (pv 0) pe_str (nomark _))))))))) (pss_one (ps_ret pe_non)) pss_nil)
    (pss_one (ps_ret (pe_callTy call_int_str (by rfl) T.n_int (by decide +kernel) (pa_cons (pv 0) pa_nil))))), ?_⟩
  obtain ⟨x, rfl, hl, q⟩ := h
  have qN : okNum x = false → ∀ H', Same H H' → Q .non H' := fun e H' k => by
    have q' := q H' k
    unfold intIn at q'
    rw [if_neg (by rw [e]; exact Bool.false_ne_true)] at q'
    exact q'
  have qS : okNum x = true → ∀ H', Same H H' → Q (.int ((NumText.digitsVal (tl x) : Nat) : Int)) H' := fun e H' k => by
    have q' := q H' k
    unfold intIn at q'
    rw [if_pos e] at q'
    exact q'
  refine ⟨_, rfl, rfl, _, rfl, ite2 (fun e => ?_) fun e => ?_⟩
  · have e' : x = "" := V.str.inj (of_decide_eq_true e)
    exact qN (by rw [e']; decide +kernel) H (Same.refl _)
  · refine ⟨_, rfl, x, rfl, fun D hD => ?_⟩
    have bl_eq : ∀ l : List Nat, (l.filter fun c => !decide (c ∈ DIG)).isEmpty = l.all (fun c => decide (c ∈ DIG)) := fun l => by
      induction l with
      | nil => rfl
      | cons c l ih =>
        rw [List.filter_cons, List.all_cons, ← ih]
        by_cases hc : c ∈ DIG
        · rw [decide_eq_true hc]
          rfl
        · rw [decide_eq_false hc]
          rfl
    refine lc_it (walk_str (z := x)) (fun i H' => Same H H' ∧ H' D = some (.lst ((((tl x).take i).filter fun c => !decide (c ∈ DIG)).map fun c => V.str ⟨#[c]⟩))) ⟨same_new hD, upd_same⟩ (fun _ _ _ _ => True.intro) ?_ ?_
    · rintro i y H1 H2 hi ⟨k, hDl⟩ ⟨rfl, c, hc, rfl⟩
      have hc' : (tl x)[i]? = some c := by simpa using hc
      have ht : (tl x).take (i + 1) = (tl x).take i ++ [c] := by rw [List.take_succ, hc']; rfl
      refine ⟨rfl, _, rfl, c, _, rfl, rfl, _, rfl, ?_⟩
      cases hb : decide (c ∈ DIG) with
      | true =>
        have hb' : decide (c ∈ ("0123456789" : PySem.Str).cps.toList) = true := hb
        rw [hb']
        refine iteF ⟨k, ?_⟩
        rw [ht, List.filter_append, show List.filter (fun c => !decide (c ∈ DIG)) [c] = [] from by rw [List.filter_cons, hb]; rfl, List.append_nil]
        exact hDl
      | false =>
        have hb' : decide (c ∈ ("0123456789" : PySem.Str).cps.toList) = false := hb
        rw [hb']
        refine iteT ⟨_, rfl, _, hDl, ?_, ?_, ?_⟩
        · rw [List.length_map, sizeLine_eq]
          have h1 := List.length_filter_le (fun c => !decide (c ∈ DIG)) ((tl x).take i)
          rw [List.length_take] at h1
          have := len_tl x
          omega
        · exact fun b o eb => by rw [upd_ne (ne_of_none eb hD)]; exact k _ _ eb
        · rw [upd_same, ht, List.filter_append, show List.filter (fun c => !decide (c ∈ DIG)) [c] = [c] from by rw [List.filter_cons, hb]; rfl, List.map_append]
          rfl
    · rintro H1 ⟨k0, hDl⟩
      rw [show x.cps.size = (tl x).length by simp [tl], List.take_length] at hDl
      refine ⟨by show 0 ≤ sizeLine; decide, fun p2 hp2 => ?_⟩
      have k : Same H (upd H1 p2 (.lst [])) := k0.trans (same_new hp2)
      refine ⟨D, p2, _, rfl, rfl, .inl ⟨SqL.of (same_new hp2 _ _ hDl), SqL.of upd_same⟩, _, rfl, ?_⟩
      generalize upd H1 p2 (.lst []) = H2 at k ⊢
      have eall : ((((tl x).filter fun c => !decide (c ∈ DIG)).map fun c => V.str ⟨#[c]⟩).isEmpty) = (tl x).all (fun c => decide (c ∈ DIG)) := by
        rw [← bl_eq, List.isEmpty_map]
      show (if (!((((tl x).filter fun c => !decide (c ∈ DIG)).map fun c => V.str ⟨#[c]⟩).isEmpty)) = true then _ else _)
      rw [eall]
      cases ha : (tl x).all (fun c => decide (c ∈ DIG)) with
      | false =>
        refine iteT (qN ?_ _ k)
        rw [okNum_eq, ha, Bool.and_false]
        rfl
      | true =>
        refine iteF ?_
        obtain ⟨c, r, ec⟩ := head_str (fun z => e (decide_eq_true (congrArg V.str z)))
        have nx : x ≠ "" := fun z => e (decide_eq_true (congrArg V.str z))
        have h0 : (tl x)[0]? = some c := by rw [ec]; rfl
        refine ⟨_, rfl, x, 0, c, rfl, rfl, by rw [sizeLine_eq]; omega, atI_nat (j := 0) h0, rfl, _, rfl, ite2 (fun e2 => ?_) fun e2 => ?_⟩
        · have hc := sign_eq.mp (of_decide_eq_true e2)
          refine ⟨_, rfl, rfl, _, rfl, ?_⟩
          by_cases e3 : x = "0"
          · rw [decide_eq_true (congrArg V.str e3)]
            refine iteF ?_
            have ok : okNum x = true := by
              rw [okNum_eq, ha, decide_eq_true nx, decide_eq_true e3, Bool.or_true]
              rfl
            exact ⟨_, rfl, x, _, rfl, okNum_int ok hl, hl, qS ok _ k⟩
          · rw [decide_eq_false (fun z => e3 (V.str.inj z))]
            refine iteT ?_
            refine qN ?_ _ k
            rw [okNum_eq, ec, hc, decide_eq_false e3, show decide ((48 :: r).head? ≠ some 48) = false from decide_eq_false (fun z => z rfl)]
            simp
        · have ok : okNum x = true := by
            rw [okNum_eq, ha, decide_eq_true nx, ec, show decide ((c :: r).head? ≠ some 48) = true from decide_eq_true (fun z => e2 (decide_eq_true (sign_eq.mpr (by injection z))))]
            rfl
          exact ⟨_, rfl, x, _, rfl, okNum_int ok hl, hl, qS ok _ k⟩
end
end K04
set_option Elab.async false
set_option linter.all false
set_option maxRecDepth 100000
set_option maxHeartbeats 4000000
set_option pp.maxSteps 2500
/-! k04: states and moves that words write. -/
namespace K04
open PySem PySem.Spec PyProof.Rows L2 Zg Zr Zd Zv
open TL (tl len_tl ext_tl)
theorem asg_via {te : TE} {g : TG} {B : TS} {D : Ends} {σ : L2.St} {H : Hp} (Pc : V → Hp → Prop) (h2 : ∀ R : VK, (∀ v H', Pc v H' → R v H') → te σ H R) (h1 : ∀ v H', Pc v H' → g v σ H' (fun σ2 H2 => B D σ2 H2)) : tSeq (tAsg te g) B D σ H := h2 _ h1
theorem dv_mv (S : List Addr) (H : Hp) : ∀ l : List (Option Nat), DvAll S H (l.map mvV) (l.map mvD)
  | [] => .nil
  | none :: l => .cons .non (dv_mv S H l)
  | some k :: l => .cons (.int _) (dv_mv S H l)
theorem in_none (l : List (Option Nat)) : inV .non (l.map mvV) = decide (none ∈ l) := by
  rw [Bool.eq_iff_iff, decide_eq_true_iff]
  unfold inV
  rw [List.any_eq_true]
  constructor
  · rintro ⟨v, hv, e⟩
    obtain ⟨m, hm, rfl⟩ := List.mem_map.mp hv
    cases m with
    | none => exact hm
    | some k => cases e
  · intro h
    exact ⟨.non, List.mem_map.mpr ⟨none, h, rfl⟩, rfl⟩
theorem flat_mv (l : List (Option Nat)) : (l.map mvV).all flatV = true := by
  rw [List.all_eq_true]
  intro v hv
  obtain ⟨m, _, rfl⟩ := List.mem_map.mp hv
  cases m <;> rfl
theorem cm_part {x p : PySem.Str} (h : p ∈ cm x) : p.length ≤ x.length := by
  unfold cm at h
  rw [comma] at h
  exact cut_part (by decide) h
theorem cm_len (x : PySem.Str) : (cm x).length ≤ x.length + 1 := by
  unfold cm
  rw [comma]
  exact cut_len (by decide) x
theorem cm_ne (x : PySem.Str) : cm x ≠ [] := by
  unfold cm
  rw [comma]
  exact cut_ne (by decide) x
section
variable {P : Program} {w : World} {K : PySem.W.Frag} {mg : PySem.Str → Option Value} {base : Heap}
def sp_st : Sp := fun vs H Q _ => ∃ (S : List Addr) (x : PySem.Str), vs = [.str x] ∧ x.length ≤ 640 ∧ Trk S H ∧ ∀ H' v, Same H H' → Dv S H' v (statesD x) → Q v H'
theorem ok_states_in (T : Txt K mg) : FnOk P w K mg base CX0 2 T.a_states_in T.d_states_in P_states_in sp_st := by
  refine T.F_states_in.ok sc_states_in (fun vs H Q E h => by obtain ⟨S, x, rfl, _⟩ := h; rfl) (fun cdv A outer s H vs Q E hr h => ?_)
  refine ⟨_, (pss_cons (ps_set (i := 1) sc_states_in.nd rfl (Or.inl rfl) (pe_ifExp (pt_cmpR op_eq (pv 0) (C8.pe_gc rfl T.m_NOTHING) (nomark _)) (pe_tup pa_nil) (pe_callTy call_tuple_of (by rfl) T.n_tuple (by decide +kernel) (pa_cons (pe_lc (own := [("part", 2)]) rfl sc_states_in.nd (pi_list (pe_split (pv 0) pe_str)) (blkOk_by (own := [("part", 2)]) (N := N_states_in) (sc := defScope s_states_in) (by decide +kernel)) (fun _ _ _ _ _ => (pg_name (i := 2) sc_states_in.nd rfl (Or.inl rfl))) (fun _ _ _ _ _ => pts_nil) (fun _ _ _ _ _ => (pe_call (ok_integer_in T) (hr.mono (by decide)) (by rfl) T.g_integer_in T.F_integer_in.kp T.b_integer_in .nil pass0 (pa_cons (pv 2) pa_nil)))) pa_nil))))
    (pss_one (ps_ret (pe_ifExp (pt_cmpR op_in_seq pe_non (pv 1) (by rfl)) pe_non (pv 1))))), ?_⟩
  obtain ⟨S, x, rfl, hl, tr, q⟩ := h
  refine asg_via (fun v H' => ∃ a, v = .ref a ∧ Same H H' ∧ H' a = some (.tup ((stParts x).map mvV)) ∧ a ∉ S) ?_ ?_
  · intro R hR
    refine ⟨_, rfl, rfl, _, rfl, ite2 (fun e => ?_) fun e => ?_⟩
    · have e' : x = "-" := V.str.inj (of_decide_eq_true e)
      refine ⟨by show 0 ≤ sizeLine; decide, fun p hp => hR _ _ ⟨p, rfl, same_new hp, ?_, tr.out hp⟩⟩
      rw [upd_same]
      unfold stParts
      rw [if_pos e']
      rfl
    · have ne : x ≠ "-" := fun z => e (decide_eq_true (congrArg V.str z))
      refine ⟨_, rfl, ⟨_, rfl⟩, x, ",", rfl, rfl, rfl, by rw [sizeLine_eq]; omega, fun pw hpw => ?_⟩
      have k1 : Same H (upd H pw (.lst ((Txt.split x ",").map V.str))) := same_new hpw
      have hpw1 : (upd H pw (.lst ((Txt.split x ",").map V.str))) pw = some (.lst ((cm x).map V.str)) := upd_same
      generalize upd H pw (.lst ((Txt.split x ",").map V.str)) = H1 at k1 hpw1 ⊢
      refine ⟨pw, rfl, ⟨_, SqL.of hpw1⟩, fun D hD => ?_⟩
      refine lc_list (K := K) (a := pw) (xs := (cm x).map V.str) (fun i H' => Same H1 H' ∧ H' D = some (.lst ((((cm x).take i).map intIn).map mvV))) ⟨same_new hD, upd_same⟩ (fun i H' _ p => SqL.of (p.1 _ _ hpw1)) ?_ ?_
      · rintro i y H2 hi ⟨k, hDl⟩
        rw [List.getElem?_map] at hi
        obtain ⟨p, hp, rfl⟩ : ∃ p, (cm x)[i]? = some p ∧ y = .str p := by
          cases e : (cm x)[i]? with
          | none => rw [e] at hi; cases hi
          | some p => rw [e] at hi; exact ⟨p, rfl, (Option.some.inj hi).symm⟩
        have hpl := cm_part (List.mem_of_getElem? hp)
        refine ⟨rfl, _, rfl, p, rfl, by omega, fun H3 k3 => ⟨_, k3 _ _ hDl, ?_, ?_, ?_⟩⟩
        · rw [List.length_map, List.length_map, List.length_take, sizeLine_eq]
          have := cm_len x
          omega
        · exact fun b o eb => by
            rw [upd_ne (ne_of_none eb hD)]
            exact k3 _ _ (k _ _ eb)
        · rw [upd_same, List.take_succ, hp, List.map_append, List.map_append]
          rfl
      · rintro H2 ⟨k, hDl⟩
        rw [List.length_map, List.take_length] at hDl
        refine ⟨D, _, rfl, .inl ⟨SqL.of hDl, fun a ha => hR _ _ ⟨a, rfl, k1.trans (k.trans (same_new ha)), ?_, (tr.same (k1.trans k)).out ha⟩⟩⟩
        rw [upd_same]
        unfold stParts
        rw [if_neg ne]
  · rintro v H' ⟨a, rfl, k, ha, na⟩
    refine ⟨_, rfl, a, _, rfl, .inr (SqT.of ha), rfl, flat_mv _, _, rfl, ?_⟩
    show (if inV .non ((stParts x).map mvV) = true then _ else _)
    rw [in_none]
    refine ite2 (fun e => ?_) fun e => ?_
    · have e' := of_decide_eq_true e
      refine q _ _ k ?_
      unfold statesD
      rw [if_pos e']
      exact .non
    · have e' : none ∉ stParts x := fun z => e (decide_eq_true z)
      refine ⟨_, rfl, q _ _ k ?_⟩
      unfold statesD
      rw [if_neg e']
      exact .tup ha na (dv_mv S H' _)
def sp_mvs : Sp := fun vs H Q _ => ∃ (S : List Addr) (x : PySem.Str), vs = [.str x] ∧ x.length ≤ 640 ∧ Trk S H ∧ ∀ H' v, Same H H' → Dv S H' v (movesD x) → Q v H'
theorem ok_moves_in (T : Txt K mg) : FnOk P w K mg base CX0 2 T.a_moves_in T.d_moves_in P_moves_in sp_mvs := by
  refine T.F_moves_in.ok sc_moves_in (fun vs H Q E h => by obtain ⟨S, x, rfl, _⟩ := h; rfl) (fun cdv A outer s H vs Q E hr h => ?_)
  refine ⟨_, (pss_cons (ps_set (i := 1) sc_moves_in.nd rfl (Or.inl rfl) (pe_split (pv 0) pe_str))
    (pss_cons (ps_if (pt_cmpR op_in_seq pe_non (pe_lc (own := [("part", 2)]) rfl sc_moves_in.nd (pi_list (pv 1)) (blkOk_by (own := [("part", 2)]) (N := N_moves_in) (sc := defScope s_moves_in) (by decide +kernel)) (fun _ _ _ _ _ => (pg_name (i := 2) sc_moves_in.nd rfl (Or.inl rfl))) (fun _ _ _ _ _ => (pts_one (pt_cmpR op_ne (pv 2) (C8.pe_gc rfl T.m_NOTHING) (nomark _)))) (fun _ _ _ _ _ => (pe_call (ok_integer_in T) (hr.mono (by decide)) (by rfl) T.g_integer_in T.F_integer_in.kp T.b_integer_in .nil pass0 (pa_cons (pv 2) pa_nil)))) (by rfl)) (pss_one (ps_ret pe_non)) pss_nil)
    (pss_one (ps_ret (pe_callTy call_tuple_of (by rfl) T.n_tuple (by decide +kernel) (pa_cons (pe_lc (own := [("part", 2)]) rfl sc_moves_in.nd (pi_list (pv 1)) (blkOk_by (own := [("part", 2)]) (N := N_moves_in) (sc := defScope s_moves_in) (by decide +kernel)) (fun _ _ _ _ _ => (pg_name (i := 2) sc_moves_in.nd rfl (Or.inl rfl))) (fun _ _ _ _ _ => pts_nil) (fun _ _ _ _ _ => (pe_ifExp (pt_cmpR op_eq (pv 2) (C8.pe_gc rfl T.m_NOTHING) (nomark _)) pe_non (pe_call (ok_integer_in T) (hr.mono (by decide)) (by rfl) T.g_integer_in T.F_integer_in.kp T.b_integer_in .nil pass0 (pa_cons (pv 2) pa_nil))))) pa_nil)))))), ?_⟩
  obtain ⟨S, x, rfl, hl, tr, q⟩ := h
  refine ⟨_, rfl, ⟨_, rfl⟩, x, ",", rfl, rfl, rfl, by rw [sizeLine_eq]; omega, fun pw hpw => ?_⟩
  have k1 : Same H (upd H pw (.lst ((Txt.split x ",").map V.str))) := same_new hpw
  have hpw1 : (upd H pw (.lst ((Txt.split x ",").map V.str))) pw = some (.lst ((cm x).map V.str)) := upd_same
  generalize upd H pw (.lst ((Txt.split x ",").map V.str)) = H1 at k1 hpw1 ⊢
  have get : ∀ {i : Nat} {y : V}, ((cm x).map V.str)[i]? = some y → ∃ p, (cm x)[i]? = some p ∧ y = .str p ∧ p.length ≤ 640 := fun {i y} hi => by
    rw [List.getElem?_map] at hi
    cases e : (cm x)[i]? with
    | none => rw [e] at hi; cases hi
    | some p =>
      rw [e] at hi
      have := cm_part (List.mem_of_getElem? e)
      exact ⟨p, rfl, (Option.some.inj hi).symm, by omega⟩
  have cl := cm_len x
  refine ⟨_, rfl, pw, rfl, ⟨_, SqL.of hpw1⟩, fun D hD => ?_⟩
  refine lc_list (K := K) (a := pw) (xs := (cm x).map V.str) (fun i H' => Same H1 H' ∧ H' D = some (.lst (((((cm x).take i).filter fun p : PySem.Str => decide (p ≠ "-")).map intIn).map mvV))) ⟨same_new hD, upd_same⟩ (fun i H' _ p => SqL.of (p.1 _ _ hpw1)) ?_ ?_
  · rintro i y H2 hi ⟨k, hDl⟩
    obtain ⟨p, hp, rfl, hpl⟩ := get hi
    have ht : (cm x).take (i + 1) = (cm x).take i ++ [p] := by rw [List.take_succ, hp]; rfl
    refine ⟨rfl, _, rfl, rfl, _, rfl, ?_⟩
    by_cases e : p = "-"
    · rw [decide_eq_true (congrArg V.str e)]
      refine iteF ⟨k, ?_⟩
      rw [ht, List.filter_append, show List.filter (fun p : PySem.Str => decide (p ≠ "-")) [p] = [] from by rw [List.filter_cons, if_neg (by rw [decide_eq_true_iff]; exact fun z => z e)]; rfl, List.append_nil]
      exact hDl
    · rw [decide_eq_false (fun z => e (V.str.inj z))]
      refine iteT ⟨_, rfl, p, rfl, hpl, fun H3 k3 => ⟨_, k3 _ _ hDl, ?_, ?_, ?_⟩⟩
      · rw [List.length_map, List.length_map, sizeLine_eq]
        have h1 := List.length_filter_le (fun p : PySem.Str => decide (p ≠ "-")) ((cm x).take i)
        rw [List.length_take] at h1
        omega
      · exact fun b o eb => by
          rw [upd_ne (ne_of_none eb hD)]
          exact k3 _ _ (k _ _ eb)
      · rw [upd_same, ht, List.filter_append, show List.filter (fun p : PySem.Str => decide (p ≠ "-")) [p] = [p] from by rw [List.filter_cons, if_pos (decide_eq_true e)]; rfl, List.map_append, List.map_append]
        rfl
  · rintro H2 ⟨k, hDl⟩
    rw [List.length_map, List.take_length] at hDl
    refine ⟨D, _, rfl, .inl (SqL.of hDl), rfl, flat_mv _, _, rfl, ?_⟩
    show (if inV .non ((((cm x).filter fun p : PySem.Str => decide (p ≠ "-")).map intIn).map mvV) = true then _ else _)
    rw [in_none]
    have key : none ∈ (((cm x).filter fun p : PySem.Str => decide (p ≠ "-")).map intIn) ↔ ∃ p ∈ cm x, p ≠ "-" ∧ intIn p = none := by
      rw [List.mem_map]
      constructor
      · rintro ⟨p, hp, e⟩
        obtain ⟨h1, h2⟩ := List.mem_filter.mp hp
        exact ⟨p, h1, of_decide_eq_true h2, e⟩
      · rintro ⟨p, h1, h2, e⟩
        exact ⟨p, List.mem_filter.mpr ⟨h1, decide_eq_true h2⟩, e⟩
    refine ite2 (fun e => ?_) fun e => ?_
    · have e' := key.mp (of_decide_eq_true e)
      refine q _ _ (k1.trans k) ?_
      unfold movesD movesIn
      rw [if_pos e']
      exact .non
    · have e' : ¬ ∃ p ∈ cm x, p ≠ "-" ∧ intIn p = none := fun z => e (decide_eq_true (key.mpr z))
      have hpw2 := k _ _ hpw1
      refine ⟨_, rfl, pw, rfl, ⟨_, SqL.of hpw2⟩, fun D2 hD2 => ?_⟩
      refine lc_list (K := K) (a := pw) (xs := (cm x).map V.str) (fun i H' => Same H2 H' ∧ H' D2 = some (.lst ((((cm x).take i).map mvOne).map mvV))) ⟨same_new hD2, upd_same⟩ (fun i H' _ p => SqL.of (p.1 _ _ hpw2)) ?_ ?_
      · rintro i y H3 hi ⟨k3, hDl3⟩
        obtain ⟨p, hp, rfl, hpl⟩ := get hi
        have ht : (cm x).take (i + 1) = (cm x).take i ++ [p] := by rw [List.take_succ, hp]; rfl
        have put : ∀ (H4 : Hp) (v : V), Same H3 H4 → v = mvV (mvOne p) → ∃ acc, H4 D2 = some (.lst acc) ∧ acc.length < sizeLine ∧ (Same H2 (upd H4 D2 (.lst (acc ++ [v]))) ∧ (upd H4 D2 (.lst (acc ++ [v]))) D2 = some (.lst ((((cm x).take (i + 1)).map mvOne).map mvV))) := fun H4 v k4 ev => by
          refine ⟨_, k4 _ _ hDl3, ?_, fun b o eb => ?_, ?_⟩
          · rw [List.length_map, List.length_map, List.length_take, sizeLine_eq]
            omega
          · rw [upd_ne (ne_of_none eb hD2)]
            exact k4 _ _ (k3 _ _ eb)
          · rw [upd_same, ht, List.map_append, List.map_append, ev]
            rfl
        refine ⟨rfl, _, rfl, rfl, _, rfl, ite2 (fun e2 => ?_) fun e2 => ?_⟩
        · have ep : p = "-" := V.str.inj (of_decide_eq_true e2)
          refine put _ _ (Same.refl _) ?_
          unfold mvOne
          rw [if_pos ep]
          rfl
        · have ep : p ≠ "-" := fun z => e2 (decide_eq_true (congrArg V.str z))
          refine ⟨_, rfl, p, rfl, hpl, fun H4 k4 => put _ _ k4 ?_⟩
          unfold mvOne
          rw [if_neg ep]
      · rintro H3 ⟨k3, hDl3⟩
        rw [List.length_map, List.take_length] at hDl3
        have kk := k1.trans (k.trans k3)
        refine ⟨D2, _, rfl, .inl ⟨SqL.of hDl3, fun a ha => q _ _ (kk.trans (same_new ha)) ?_⟩⟩
        unfold movesD movesIn
        rw [if_neg e']
        exact .tup upd_same ((tr.same kk).out ha) (dv_mv S _ _)
end
end K04
set_option Elab.async false
set_option linter.all false
set_option maxRecDepth 100000
set_option maxHeartbeats 4000000
set_option pp.maxSteps 2500
/-! k04: lines. -/
namespace K04
open PySem PySem.Spec PyProof.Rows L2 Zg Zr Zd Zv
open TL (tl len_tl ext_tl)
theorem wds_part {x p : PySem.Str} (h : p ∈ wds x) : p.length ≤ x.length := by
  unfold wds at h
  rw [blank] at h
  exact cut_part (by decide) h
theorem wds_len (x : PySem.Str) : (wds x).length ≤ x.length + 1 := by
  unfold wds
  rw [blank]
  exact cut_len (by decide) x
theorem wds_ne (x : PySem.Str) : wds x ≠ [] := by
  unfold wds
  rw [blank]
  exact cut_ne (by decide) x
theorem dv_one (S : List Addr) (H : Hp) (m : Option Nat) : Dv S H (mvV m) (mvD m) := by
  cases m with
  | none => exact .non
  | some k => exact .int _
theorem okw_mv (m : Option Nat) : okw (mvD m) = true := by cases m <;> rfl
theorem okw_mvs {l : List (Option Nat)} (h : l.length ≤ 1000) : okw (.tuple (l.map mvD)) = true := by
  show (decide ((l.map mvD).length ≤ 1000) && okwAll (l.map mvD)) = true
  rw [List.length_map, decide_eq_true h, Bool.true_and, okwAll_iff]
  intro d hd
  obtain ⟨m, _, rfl⟩ := List.mem_map.mp hd
  exact okw_mv m
theorem okw_states {x : PySem.Str} (h : x.length ≤ 640) : okw (statesD x) = true := by
  unfold statesD
  split
  · rfl
  · refine okw_mvs ?_
    unfold stParts
    split
    · exact Nat.zero_le _
    · rw [List.length_map]
      have := cm_len x
      omega
theorem okw_moves {x : PySem.Str} (h : x.length ≤ 640) : okw (movesD x) = true := by
  unfold movesD movesIn
  split
  · rfl
  · rename_i ms e
    split at e
    · cases e
    · cases e
      refine okw_mvs ?_
      rw [List.length_map]
      have := cm_len x
      omega
def optD (o : Option PyData) : PyData := o.getD .none
section
variable {P : Program} {w : World} {K : PySem.W.Frag} {mg : PySem.Str → Option Value} {base : Heap}
def sp_size_in : Sp := fun vs H Q _ => ∃ (x : PySem.Str), vs = [.str x] ∧ x.length ≤ 640 ∧ ∀ H', Same H H' → Q (mvV (sizeIn x)) H'
theorem ok_size_in (T : Txt K mg) : FnOk P w K mg base CX0 3 T.a_size_in T.d_size_in P_size_in sp_size_in := by
  refine T.F_size_in.ok sc_size_in (fun vs H Q E h => by obtain ⟨x, rfl, _⟩ := h; rfl) (fun cdv A outer s H vs Q E hr h => ?_)
  refine ⟨_, (pss_cons (ps_set (i := 1) sc_size_in.nd rfl (Or.inl rfl) (pe_split (pv 0) pe_str))
    (pss_cons (ps_if (PW.pt (pw_or (pt_cmpR op_ne (pe_callB call_len_seq (by rfl) T.n_len (by decide +kernel) (pa_cons (pv 1) pa_nil)) (C8.pe_gc rfl T.m_PAIR) (nomark _)) (pw_or (pt_cmpR op_ne (pe_ix ix_list (pv 1) pe_int (fun _ _ => rfl)) pe_str (nomark _)) (pw_or1 (pt_not (pt_val (pe_call (ok_is_size T) (hr.mono (by decide)) (by rfl) T.g_is_size T.F_is_size.kp T.b_is_size .nil pass0 (pa_cons (pe_call (ok_integer_in T) (hr.mono (by decide)) (by rfl) T.g_integer_in T.F_integer_in.kp T.b_integer_in .nil pass0 (pa_cons (pe_ix ix_list (pv 1) pe_int (fun _ _ => rfl)) pa_nil)) pa_nil)))))))) (pss_one (ps_ret pe_non)) pss_nil)
    (pss_one (ps_ret (pe_callTy call_int_str (by rfl) T.n_int (by decide +kernel) (pa_cons (pe_ix ix_list (pv 1) pe_int (fun _ _ => rfl)) pa_nil)))))), ?_⟩
  obtain ⟨x, rfl, hl, q⟩ := h
  refine ⟨_, rfl, ⟨_, rfl⟩, x, " ", rfl, rfl, rfl, by rw [sizeLine_eq]; omega, fun pw hpw => ?_⟩
  have k1 : Same H (upd H pw (.lst ((Txt.split x " ").map V.str))) := same_new hpw
  have hpw1 : (upd H pw (.lst ((Txt.split x " ").map V.str))) pw = some (.lst ((wds x).map V.str)) := upd_same
  generalize upd H pw (.lst ((Txt.split x " ").map V.str)) = H1 at k1 hpw1 ⊢
  have qN : (∀ a b, wds x = [a, b] → a = "size" → isSz (mvD (intIn b)) = true → False) → ∀ H', Same H1 H' → Q .non H' := fun e H' k => by
    have q' := q H' (k1.trans k)
    unfold sizeIn at q'
    split at q'
    · rename_i a b hw
      rw [if_neg (fun z => e a b hw z.1 z.2)] at q'
      exact q'
    · exact q'
  refine ⟨_, rfl, pw, _, rfl, .inl (SqL.of hpw1), rfl, _, rfl, ?_⟩
  rw [List.length_map]
  by_cases h2 : (wds x).length = 2
  · rw [decide_eq_true (by rw [h2]; rfl)]
    obtain ⟨a, b, hw⟩ : ∃ a b, wds x = [a, b] := two_of h2
    rw [hw] at hpw1
    refine iteF ⟨_, rfl, pw, _, 0, .str a, rfl, rfl, SqL.of hpw1, rfl, rfl, _, rfl, ?_⟩
    by_cases ha : a = "size"
    · rw [decide_eq_true (congrArg V.str ha)]
      have hb : b.length ≤ 640 := by
        have := wds_part (x := x) (p := b) (by rw [hw]; exact List.mem_cons_of_mem _ List.mem_cons_self)
        omega
      refine iteF ⟨_, rfl, pw, _, 1, .str b, rfl, rfl, SqL.of hpw1, rfl, b, rfl, hb, fun H2 k2 => ⟨[], _, _, rfl, dv_one [] H2 (intIn b), okw_mv _, fun H3 k3 => ?_⟩⟩
      have kk := k2.trans k3
      refine ⟨_, rfl, ?_⟩
      cases hz : isSz (mvD (intIn b)) with
      | false =>
        exact iteT (qN (fun a' b' e _ h => by
          rw [hw] at e
          injection e with _ e
          injection e with e _
          rw [← e, hz] at h
          cases h) _ kk)
      | true =>
        obtain ⟨k, hk⟩ : ∃ k, intIn b = some k := by
          cases e : intIn b with
          | none => rw [e] at hz; cases hz
          | some k => exact ⟨k, rfl⟩
        have ok : okNum b = true := by
          cases e : okNum b with
          | true => rfl
          | false =>
            unfold intIn at hk
            rw [if_neg (by rw [e]; exact Bool.false_ne_true)] at hk
            cases hk
        have ev : (NumText.digitsVal (tl b)) = k := by
          unfold intIn at hk
          rw [if_pos ok] at hk
          exact Option.some.inj hk
        have q' := q H3 (k1.trans kk)
        unfold sizeIn at q'
        rw [hw] at q'
        have q2 : Q (mvV (if a = "size" ∧ isSz (mvD (intIn b)) = true then intIn b else none)) H3 := q'
        rw [if_pos ⟨ha, hz⟩, hk] at q2
        refine iteF ⟨_, rfl, pw, _, 1, .str b, rfl, rfl, SqL.of (kk _ _ hpw1), rfl, b, _, rfl, okNum_int ok hb, hb, ?_⟩
        rw [ev]
        exact q2
    · rw [decide_eq_false (fun z => ha (V.str.inj z))]
      exact iteT (qN (fun a' b' e h1 _ => by
        rw [hw] at e
        injection e with e _
        exact ha (e.trans h1)) _ (Same.refl _))
  · rw [decide_eq_false (fun z => h2 (by injection z with z; omega))]
    exact iteT (qN (fun a b e _ _ => h2 (by rw [e]; rfl)) _ (Same.refl _))
def sp_rest_in : Sp := fun vs H Q _ => ∃ (S : List Addr) (x : PySem.Str) (n : Nat), vs = [.str x, .int (n : Nat)] ∧ x.length ≤ 640 ∧ Trk S H ∧ ∀ H' v, Same H H' → Dv S H' v (optD (restIn n x)) → Q v H'
theorem ok_resting_in (T : Txt K mg) : FnOk P w K mg base CX0 4 T.a_resting_in T.d_resting_in P_resting_in sp_rest_in := by
  refine T.F_resting_in.ok sc_resting_in (fun vs H Q E h => by obtain ⟨S, x, n, rfl, _⟩ := h; rfl) (fun cdv A outer s H vs Q E hr h => ?_)
  refine ⟨_, (pss_cons (ps_set (i := 2) sc_resting_in.nd rfl (Or.inl rfl) (pe_split (pv 0) pe_str))
    (pss_cons (ps_if (PW.pt (pw_or (pt_cmpR op_ne (pe_callB call_len_seq (by rfl) T.n_len (by decide +kernel) (pa_cons (pv 2) pa_nil)) (C8.pe_gc rfl T.m_PAIR) (nomark _)) (pw_or (pt_cmpR op_ne (pe_ix ix_list (pv 2) pe_int (fun _ _ => rfl)) pe_str (nomark _)) (pw_or1 (pt_not (pt_val (pe_call (ok_are_states T) (hr.mono (by decide)) (by rfl) T.g_are_states T.F_are_states.kp T.b_are_states .nil pass0 (pa_cons (pv 1) (pa_cons (pe_call (ok_states_in T) (hr.mono (by decide)) (by rfl) T.g_states_in T.F_states_in.kp T.b_states_in .nil pass0 (pa_cons (pe_ix ix_list (pv 2) pe_int (fun _ _ => rfl)) pa_nil)) pa_nil))))))))) (pss_one (ps_ret pe_non)) pss_nil)
    (pss_one (ps_ret (pe_call (ok_states_in T) (hr.mono (by decide)) (by rfl) T.g_states_in T.F_states_in.kp T.b_states_in .nil pass0 (pa_cons (pe_ix ix_list (pv 2) pe_int (fun _ _ => rfl)) pa_nil)))))), ?_⟩
  obtain ⟨S, x, n, rfl, hl, tr, q⟩ := h
  refine ⟨_, rfl, ⟨_, rfl⟩, x, " ", rfl, rfl, rfl, by rw [sizeLine_eq]; omega, fun pw hpw => ?_⟩
  have k1 : Same H (upd H pw (.lst ((Txt.split x " ").map V.str))) := same_new hpw
  have hpw1 : (upd H pw (.lst ((Txt.split x " ").map V.str))) pw = some (.lst ((wds x).map V.str)) := upd_same
  generalize upd H pw (.lst ((Txt.split x " ").map V.str)) = H1 at k1 hpw1 ⊢
  have qN : (∀ a b, wds x = [a, b] → a = "resting" → areStates n (statesD b) = true → False) → ∀ H', Same H1 H' → Q .non H' := fun e H' k => by
    refine q H' .non (k1.trans k) ?_
    unfold restIn
    split
    · rename_i a b hw
      rw [if_neg (fun z => e a b hw z.1 z.2)]
      exact .non
    · exact .non
  refine ⟨_, rfl, pw, _, rfl, .inl (SqL.of hpw1), rfl, _, rfl, ?_⟩
  rw [List.length_map]
  by_cases h2 : (wds x).length = 2
  · rw [decide_eq_true (by rw [h2]; rfl)]
    obtain ⟨a, b, hw⟩ : ∃ a b, wds x = [a, b] := two_of h2
    rw [hw] at hpw1
    refine iteF ⟨_, rfl, pw, _, 0, .str a, rfl, rfl, SqL.of hpw1, rfl, rfl, _, rfl, ?_⟩
    by_cases ha : a = "resting"
    · rw [decide_eq_true (congrArg V.str ha)]
      have hb : b.length ≤ 640 := by
        have := wds_part (x := x) (p := b) (by rw [hw]; exact List.mem_cons_of_mem _ List.mem_cons_self)
        omega
      refine iteF ⟨_, rfl, _, rfl, pw, _, 1, .str b, rfl, rfl, SqL.of hpw1, rfl, S, b, rfl, hb, tr.same k1, fun H2 v k2 dv => ⟨_, S, v, statesD b, rfl, .inl dv, okw_states hb, fun H3 k3 => ?_⟩⟩
      have kk := k2.trans k3
      refine ⟨_, rfl, ?_⟩
      cases hz : areStates n (statesD b) with
      | false =>
        exact iteT (qN (fun a' b' e _ h => by
          rw [hw] at e
          injection e with _ e
          injection e with e _
          rw [← e, hz] at h
          cases h) _ kk)
      | true =>
        refine iteF ⟨_, rfl, pw, _, 1, .str b, rfl, rfl, SqL.of (kk _ _ hpw1), rfl, S, b, rfl, hb, tr.same (k1.trans kk), fun H4 v4 k4 dv4 => q H4 v4 (k1.trans (kk.trans k4)) ?_⟩
        unfold restIn
        rw [hw]
        show Dv S H4 v4 (optD (if a = "resting" ∧ areStates n (statesD b) = true then some (statesD b) else none))
        rw [if_pos ⟨ha, hz⟩]
        exact dv4
    · rw [decide_eq_false (fun z => ha (V.str.inj z))]
      exact iteT (qN (fun a' b' e h1 _ => by
        rw [hw] at e
        injection e with e _
        exact ha (e.trans h1)) _ (Same.refl _))
  · rw [decide_eq_false (fun z => h2 (by injection z with z; omega))]
    exact iteT (qN (fun a b e _ _ => h2 (by rw [e]; rfl)) _ (Same.refl _))
def sp_action_in : Sp := fun vs H Q _ => ∃ (S : List Addr) (x : PySem.Str) (n : Nat), vs = [.str x, .int (n : Nat)] ∧ x.length ≤ 640 ∧ Trk S H ∧ ∀ H' v, Same H H' → Dv S H' v (optD ((actIn n x).map actD)) → Q v H'
theorem ok_action_in (T : Txt K mg) : FnOk P w K mg base CX0 4 T.a_action_in T.d_action_in P_action_in sp_action_in := by
  refine T.F_action_in.ok sc_action_in (fun vs H Q E h => by obtain ⟨S, x, n, rfl, _⟩ := h; rfl) (fun cdv A outer s H vs Q E hr h => ?_)
  refine ⟨_, (pss_cons (ps_asg (pe_split (pv 0) pe_str) (Xg.pg_starL (by rfl) (pg_name (i := 2) sc_action_in.nd rfl (Or.inl rfl)) (pg_name (i := 3) sc_action_in.nd rfl (Or.inl rfl))))
    (pss_cons (ps_if (PW.pt (pw_or (pt_cmpR op_ne (pv 2) pe_str (nomark _)) (pw_or1 (pt_cmpR op_ne (pe_callB call_len_seq (by rfl) T.n_len (by decide +kernel) (pa_cons (pv 3) pa_nil)) (C8.pe_gc rfl T.m_PAIR) (nomark _))))) (pss_one (ps_ret pe_non)) pss_nil)
    (pss_cons (ps_set (i := 4) sc_action_in.nd rfl (Or.inl rfl) (pe_tup (pa_cons (pe_ix ix_list (pv 3) pe_int (fun _ _ => rfl)) (pa_cons (pe_call (ok_moves_in T) (hr.mono (by decide)) (by rfl) T.g_moves_in T.F_moves_in.kp T.b_moves_in .nil pass0 (pa_cons (pe_ix ix_list (pv 3) pe_int (fun _ _ => rfl)) pa_nil)) pa_nil))))
    (pss_one (ps_ret (pe_ifExp (pt_val (pe_call (ok_is_action T) (hr.mono (by decide)) (by rfl) T.g_is_action T.F_is_action.kp T.b_is_action .nil pass0 (pa_cons (pv 1) (pa_cons (pv 4) pa_nil)))) (pv 4) pe_non)))))), ?_⟩
  obtain ⟨S, x, n, rfl, hl, tr, q⟩ := h
  refine ⟨_, rfl, ⟨_, rfl⟩, x, " ", rfl, rfl, rfl, by rw [sizeLine_eq]; omega, fun pw hpw => ?_⟩
  have k1 : Same H (upd H pw (.lst ((Txt.split x " ").map V.str))) := same_new hpw
  have hpw1 : (upd H pw (.lst ((Txt.split x " ").map V.str))) pw = some (.lst ((wds x).map V.str)) := upd_same
  generalize upd H pw (.lst ((Txt.split x " ").map V.str)) = H1 at k1 hpw1 ⊢
  have cl : (wds x).length ≤ 641 := by
    have := wds_len x
    omega
  have qN : actIn n x = none → ∀ H', Same H1 H' → Q .non H' := fun e H' k => by
    refine q H' .non (k1.trans k) ?_
    rw [e]
    exact .non
  cases hw : wds x with
  | nil => exact absurd hw (wds_ne x)
  | cons a ps =>
    rw [hw] at hpw1 cl
    refine ⟨pw, .str a, ps.map V.str, rfl, SqL.of hpw1, by rw [List.length_map]; rw [List.length_cons] at cl; omega, fun D hD => ?_⟩
    have k2 : Same H1 (upd H1 D (.lst (ps.map V.str))) := same_new hD
    have hD1 : (upd H1 D (.lst (ps.map V.str))) D = some (.lst (ps.map V.str)) := upd_same
    generalize upd H1 D (.lst (ps.map V.str)) = H2 at k2 hD1 ⊢
    refine ⟨_, rfl, rfl, _, rfl, ?_⟩
    by_cases ha : a = "action"
    · rw [decide_eq_true (congrArg V.str ha)]
      refine iteF ⟨_, rfl, D, _, rfl, .inl (SqL.of hD1), rfl, _, rfl, ?_⟩
      rw [List.length_map]
      by_cases h2 : ps.length = 2
      · rw [decide_eq_true (by rw [h2]; rfl)]
        obtain ⟨b, c, rfl⟩ : ∃ b c, ps = [b, c] := two_of h2
        have hc : c.length ≤ 640 := by
          have := wds_part (x := x) (p := c) (by rw [hw]; exact List.mem_cons_of_mem _ (List.mem_cons_of_mem _ List.mem_cons_self))
          omega
        have hb : b.length ≤ 640 := by
          have := wds_part (x := x) (p := b) (by rw [hw]; exact List.mem_cons_of_mem _ List.mem_cons_self)
          omega
        refine iteF ⟨_, rfl, D, _, 0, .str b, rfl, rfl, SqL.of hD1, rfl, _, rfl, D, _, 1, .str c, rfl, rfl, SqL.of hD1, rfl, S, c, rfl, hc, tr.same (k1.trans k2), fun H3 v k3 dv => ?_⟩
        refine ⟨by show 2 ≤ sizeLine; decide, fun D2 hD2 => ?_⟩
        have k4 : Same H3 (upd H3 D2 (.tup [.str b, v])) := same_new hD2
        have dv4 : Dv S (upd H3 D2 (.tup [.str b, v])) (.ref D2) (.tuple [.str b, movesD c]) := .tup upd_same ((tr.same (k1.trans (k2.trans k3))).out hD2) (.cons (.str b) (.cons (dv.kp (.of k4)) .nil))
        generalize upd H3 D2 (.tup [.str b, v]) = H4 at k4 dv4 ⊢
        have kk := k1.trans (k2.trans (k3.trans k4))
        have hok : okw (.tuple [.str b, movesD c]) = true := by
          show (decide (2 ≤ 1000) && okwAll [.str b, movesD c]) = true
          rw [decide_eq_true (by decide), Bool.true_and, okwAll_iff]
          intro d hd
          rcases List.mem_cons.mp hd with rfl | hd
          · exact decide_eq_true (by omega)
          · rw [List.mem_singleton.mp hd]
            exact okw_moves hc
        refine ⟨_, rfl, _, rfl, n, S, .ref D2, .tuple [.str b, movesD c], rfl, dv4, hok, fun H5 k5 => ?_⟩
        have em : ∀ (ms : List (Option Nat)), movesIn c = some ms → movesD c = .tuple (ms.map mvD) := fun ms e => by unfold movesD; rw [e]
        have en : movesIn c = none → movesD c = .none := fun e => by unfold movesD; rw [e]
        cases hm : movesIn c with
        | none =>
          rw [en hm]
          refine ⟨_, rfl, qN ?_ _ (k2.trans (k3.trans (k4.trans k5)))⟩
          unfold actIn
          rw [hw]
          show (if a = "action" then (match movesIn c with
            | some ms => if isAct n (.tuple [.str b, .tuple (ms.map mvD)]) = true then some (b, ms) else none
            | none => none) else none) = none
          rw [if_pos ha, hm]
        | some ms =>
          rw [em ms hm] at dv4 ⊢
          have ea : actIn n x = if isAct n (.tuple [.str b, .tuple (ms.map mvD)]) = true then some (b, ms) else none := by
            unfold actIn
            rw [hw]
            show (if a = "action" then (match movesIn c with
              | some ms => if isAct n (.tuple [.str b, .tuple (ms.map mvD)]) = true then some (b, ms) else none
              | none => none) else none) = _
            rw [if_pos ha, hm]
          cases hz : isAct n (.tuple [.str b, .tuple (ms.map mvD)]) with
          | false =>
            rw [hz] at ea
            exact ⟨_, rfl, qN ea _ (k2.trans (k3.trans (k4.trans k5)))⟩
          | true =>
            rw [hz] at ea
            refine ⟨_, rfl, _, rfl, q H5 _ (kk.trans k5) ?_⟩
            rw [ea]
            exact dv4.kp (.of k5)
      · rw [decide_eq_false (fun z => h2 (by injection z with z; omega))]
        refine iteT (qN ?_ _ k2)
        unfold actIn
        rw [hw]
        match ps, h2 with
        | [], _ => rfl
        | [_], _ => rfl
        | [_, _], h2 => exact absurd rfl h2
        | _ :: _ :: _ :: _, _ => rfl
    · rw [decide_eq_false (fun z => ha (V.str.inj z))]
      refine iteT (qN ?_ _ k2)
      unfold actIn
      rw [hw]
      match ps with
      | [] => rfl
      | [_] => rfl
      | [_, _] => exact if_neg ha
      | _ :: _ :: _ :: _ => rfl
end
end K04
set_option Elab.async false
set_option linter.all false
set_option maxRecDepth 100000
set_option maxHeartbeats 4000000
set_option pp.maxSteps 2500
/-! k04: texts that a store shows. -/
namespace K04
open PySem PySem.Spec PyProof.Rows L2 Zg Zr Zd Zv
open TL (tl len_tl ext_tl)
/-! ### texts -/
/-- figures -/
def numS (k : Nat) : PySem.Str := Str.ofString (toString ((k : Nat) : Int))
theorem tl_numS (k : Nat) : tl (numS k) = TL.numL k := TL.tl_num k
theorem numS_len {k : Nat} (h : k < 10) : (numS k).length = 1 := by
  rw [len_tl, tl_numS, TL.numL_lt h]
  rfl
def mvS : Option Nat → PySem.Str
  | none => "-"
  | some k => numS k
/-- moves below n -/
abbrev Low (n : Nat) (ms : List (Option Nat)) : Prop := ∀ m ∈ ms, ∀ k, m = some k → k < n
theorem mvS_len {n : Nat} (hn : n ≤ 10) {ms : List (Option Nat)} (h : Low n ms) : ∀ m ∈ ms, (mvS m).length = 1 := by
  intro m hm
  cases m with
  | none => rfl
  | some k => exact numS_len (by have := h _ hm k rfl; omega)
def movesS (ms : List (Option Nat)) : PySem.Str := Txt.join "," (ms.map mvS)
def shown (ms : List (Option Nat)) : PySem.Str := if ms = [] then "-" else movesS ms
theorem sum_ones : ∀ {l : List Nat}, (∀ x ∈ l, x = 1) → l.sum = l.length
  | [], _ => rfl
  | x :: l, h => by
    rw [List.sum_cons, List.length_cons, sum_ones fun y hy => h y (List.mem_cons_of_mem _ hy), h x List.mem_cons_self]
    omega
theorem ones {ms : List (Option Nat)} (low : Low 10 ms) : (List.map (fun x : PySem.Str => x.length) (ms.map mvS)).sum = ms.length := by
  rw [sum_ones (fun x hx => ?_), List.length_map, List.length_map]
  obtain ⟨y, hy, rfl⟩ := List.mem_map.mp hx
  obtain ⟨m, hm, rfl⟩ := List.mem_map.mp hy
  exact mvS_len (by decide) low m hm
theorem sqt_same {K : PySem.W.Frag} {H H' : Hp} {a : Addr} {xs : List V} (h : SqT K H a xs) (k : Same H H') : SqT K H' a xs := by
  rcases h with (h | ⟨o, h⟩) | h
  · exact .inl (.inl (k _ _ h))
  · exact .inl (.inr ⟨o, k _ _ h⟩)
  · exact .inr h
section
variable {P : Program} {w : World} {K : PySem.W.Frag} {mg : PySem.Str → Option Value} {base : Heap}
def sp_shown (K : PySem.W.Frag) : Sp := fun vs H Q _ => ∃ (p : Addr) (ms : List (Option Nat)), vs = [.ref p] ∧ SqT K H p (ms.map mvV) ∧ ms.length ≤ 1000 ∧ Low 10 ms ∧ ∀ H', Same H H' → Q (.str (shown ms)) H'
theorem ok_shown_states (T : Txt K mg) : FnOk P w K mg base CX0 1 T.a_shown_states T.d_shown_states P_shown_states (sp_shown K) := by
  refine T.F_shown_states.ok sc_shown_states (fun vs H Q E h => by obtain ⟨p, ms, rfl, _⟩ := h; rfl) (fun cdv A outer s H vs Q E hr h => ?_)
  refine ⟨_, (pss_one (ps_ret (pe_ifExp (pt_cmpR op_gt (pe_callB call_len_seq (by rfl) T.n_len (by decide +kernel) (pa_cons (pv 0) pa_nil)) pe_int (nomark _)) (pe_join pe_str (pe_lc (own := [("state", 1)]) rfl sc_shown_states.nd (pi_tup (pv 0)) (blkOk_by (own := [("state", 1)]) (N := N_shown_states) (sc := defScope s_shown_states) (by decide +kernel)) (fun _ _ _ _ _ => (pg_name (i := 1) sc_shown_states.nd rfl (Or.inl rfl))) (fun _ _ _ _ _ => pts_nil) (fun _ _ _ _ _ => (pe_ifExp (pt_cmpR op_isN (pv 1) pe_non (nomark _)) (C8.pe_gc rfl T.m_NOTHING) (pe_callTy call_str_int (by rfl) T.n_str (by decide +kernel) (pa_cons (pv 1) pa_nil)))))) (C8.pe_gc rfl T.m_NOTHING)))), ?_⟩
  obtain ⟨p, ms, rfl, hp, hl, low, q⟩ := h
  refine ⟨_, rfl, p, _, rfl, .inr hp, _, _, rfl, rfl, _, rfl, ?_⟩
  have get : ∀ {i : Nat} {y : V}, (ms.map mvV)[i]? = some y → ∃ m, ms[i]? = some m ∧ y = mvV m := fun {i y} hi => by
    rw [List.getElem?_map] at hi
    cases e : ms[i]? with
    | none => rw [e] at hi; cases hi
    | some m =>
      rw [e] at hi
      exact ⟨m, rfl, (Option.some.inj hi).symm⟩
  by_cases e0 : ms = []
  · subst e0
    exact q _ (Same.refl _)
  · have hp0 : 0 < ms.length := List.length_pos_iff.mpr e0
    rw [List.length_map, decide_eq_true (by omega : (0 : Int) < (ms.length : Nat))]
    refine ⟨⟨_, rfl⟩, _, rfl, p, rfl, ⟨_, hp⟩, fun D hD => ?_⟩
    refine lc_tup (K := K) (a := p) (xs := ms.map mvV) (fun i H' => Same H H' ∧ H' D = some (.lst (((ms.take i).map mvS).map V.str))) ⟨same_new hD, upd_same⟩ (fun i H' _ p => sqt_same hp p.1) ?_ ?_
    · rintro i y H2 hi ⟨k, hDl⟩
      obtain ⟨m, hm, rfl⟩ := get hi
      have put : ∀ (v : V), v = .str (mvS m) → ∃ acc, H2 D = some (.lst acc) ∧ acc.length < sizeLine ∧ (Same H (upd H2 D (.lst (acc ++ [v]))) ∧ (upd H2 D (.lst (acc ++ [v]))) D = some (.lst (((ms.take (i + 1)).map mvS).map V.str))) := fun v ev => by
        refine ⟨_, hDl, ?_, fun b o eb => ?_, ?_⟩
        · rw [List.length_map, List.length_map, List.length_take, sizeLine_eq]
          omega
        · rw [upd_ne (ne_of_none eb hD)]
          exact k _ _ eb
        · rw [upd_same, List.take_succ, hm, List.map_append, List.map_append, ev]
          rfl
      refine ⟨rfl, _, rfl, rfl, _, rfl, ?_⟩
      cases m with
      | none => exact put _ rfl
      | some j =>
        refine ⟨_, rfl, _, rfl, ?_, put _ rfl⟩
        have := low _ (List.mem_of_getElem? hm) j rfl
        show ((j : Nat) : Int).natAbs.log2 < 1920
        rw [Int.natAbs_natCast]
        exact Nat.lt_of_le_of_lt (Nat.log2_le_self j) (by omega)
    · rintro H2 ⟨k, hDl⟩
      rw [List.length_map, List.take_length] at hDl
      refine ⟨_, D, ms.map mvS, rfl, rfl, .inl (SqL.of hDl), ?_, ?_⟩
      · have e1 : (List.map (fun x : PySem.Str => x.length) (ms.map mvS)).sum = ms.length := by
          exact ones low
        rw [e1, List.length_map]
        show ms.length + ms.length * 1 ≤ 16777216
        omega
      · have q' := q H2 k
        unfold shown at q'
        rw [if_neg e0] at q'
        exact q'
end
end K04
set_option Elab.async false
set_option linter.all false
set_option maxRecDepth 100000
set_option maxHeartbeats 4000000
set_option pp.maxSteps 2500
/-! k04: Store.text. -/
namespace K04
open PySem PySem.Spec PyProof.Rows L2 Zg Zr Zd Zv
open TL (tl len_tl ext_tl)
def restD (rs : List Nat) : PyData := .tuple ((rs.map some).map mvD)
def actL (a : Act) : PySem.Str := "action " ++ a.1 ++ " " ++ shown a.2
def linesOf (n : Nat) (acts : List Act) (rs : List Nat) : List PySem.Str := ("size " ++ numS n) :: ("resting " ++ shown (rs.map some)) :: acts.map actL
def textOf (n : Nat) (acts : List Act) (rs : List Nat) : PySem.Str := Txt.join "\n" (linesOf n acts rs)
theorem emp_app (x : PySem.Str) : Str.empty ++ x = x := ext_tl (by rw [TL.tl_append]; rfl)
theorem app_len (x y : PySem.Str) : (x ++ y).length = x.length + y.length := by rw [len_tl, TL.tl_append, List.length_append, ← len_tl, ← len_tl]
theorem joinL_len (s : Nat) : ∀ l : List (List Nat), (TL.joinL [s] l).length ≤ (l.map List.length).sum + l.length
  | [] => Nat.zero_le _
  | [x] => by
    show x.length ≤ (x.length + 0) + 1
    omega
  | x :: y :: l => by
    have ih := joinL_len s (y :: l)
    show (x ++ ([s] ++ TL.joinL [s] (y :: l))).length ≤ (x.length + ((y :: l).map List.length).sum) + ((y :: l).length + 1)
    rw [List.length_append, List.length_append]
    show x.length + (1 + _) ≤ _
    omega
theorem join_len (s : Nat) (l : List PySem.Str) : (Txt.join (one s) l).length ≤ (l.map PySem.Str.length).sum + l.length := by
  rw [len_tl, TL.join_eq, TL.tl_join]
  have h := joinL_len s (l.map tl)
  rw [← lens, List.length_map] at h
  exact h
theorem shown_len {ms : List (Option Nat)} (low : Low 10 ms) : (shown ms).length ≤ 2 * ms.length + 1 := by
  unfold shown
  split
  · show 1 ≤ _
    omega
  · unfold movesS
    rw [comma]
    have h := join_len 44 (ms.map mvS)
    have h2 : ((ms.map mvS).map PySem.Str.length).sum = ms.length := ones low
    rw [h2, List.length_map] at h
    omega
theorem actL_len {a : Act} (hn : a.1.length ≤ 8) (low : Low 10 a.2) : (actL a).length ≤ 2 * a.2.length + 17 := by
  unfold actL
  rw [app_len, app_len, app_len]
  have := shown_len low
  show 7 + a.1.length + 1 + _ ≤ _
  omega
theorem sum_le {α : Type} {f : α → Nat} {k : Nat} : ∀ {l : List α}, (∀ a ∈ l, f a ≤ k) → (l.map f).sum ≤ l.length * k
  | [], _ => Nat.zero_le _
  | a :: l, h => by
    rw [List.map_cons, List.sum_cons, List.length_cons, Nat.add_mul, Nat.one_mul]
    have := h a List.mem_cons_self
    have := sum_le fun b hb => h b (List.mem_cons_of_mem _ hb)
    omega
theorem rest_low {n : Nat} {rs : List Nat} (h : areStates n (restD rs) = true) : Low n (rs.map some) := by
  have h' : (((rs.map some).map mvD).all (isSt n) && asc (((rs.map some).map mvD).map intOf)) = true := h
  rw [Bool.and_eq_true, List.all_eq_true] at h'
  intro m hm k e
  subst e
  have h2 := h'.1 _ (List.mem_map.mpr ⟨_, hm, rfl⟩)
  have h3 : (decide ((0 : Int) ≤ (k : Nat)) && decide (((k : Nat) : Int) < n)) = true := h2
  rw [Bool.and_eq_true, decide_eq_true_iff, decide_eq_true_iff] at h3
  omega
theorem Low.up {n k : Nat} {ms : List (Option Nat)} (h : Low n ms) (e : n ≤ k) : Low k ms := fun m hm j ej => Nat.lt_of_lt_of_le (h m hm j ej) e
theorem rv_rest {K : PySem.W.Frag} {S : List Addr} {H : Hp} {r : V} {rs : List Nat} (h : Rv K S H r (restD rs)) : ∃ t, r = .ref t ∧ SqT K H t ((rs.map some).map mvV) := by
  rcases h with h | ⟨t, rfl, e, he⟩
  · cases h with
    | tup h1 h2 h3 => exact ⟨_, rfl, by rw [← dvs_at h3]; exact SqT.of h1⟩
  · have e' : (rs.map some).map mvD = [] := by injection e
    have e2 : rs = [] := List.map_eq_nil_iff.mp (List.map_eq_nil_iff.mp e')
    subst e2
    exact ⟨t, rfl, Sq.sqt (.inr ⟨rfl, he⟩)⟩
theorem lg {k : Nat} (h : k ≤ 1000) : ((k : Nat) : Int).natAbs.log2 < 1920 := by
  rw [Int.natAbs_natCast]
  exact Nat.lt_of_le_of_lt (Nat.log2_le_self k) (by omega)
section
variable {P : Program} {w : World} {K : PySem.W.Frag} {mg : PySem.Str → Option Value} {base : Heap}
def sp_text (T : Txt K mg) : Sp := fun vs H Q _ => ∃ (p : Addr) (n : Nat) (acts : List Act) (rs : List Nat), vs = [.ref p] ∧ Sto T H p n acts (restD rs) ∧ rs.length ≤ 900 ∧ ∀ H', Same H H' → Q (.str (textOf n acts rs)) H'
theorem ok_Store_text (T : Txt K mg) : FnOk P w K mg base CX0 2 T.a_Store_text T.d_Store_text P_Store_text (sp_text T) := by
  refine T.F_Store_text.ok sc_Store_text (fun vs H Q E h => by obtain ⟨p, n, acts, rs, rfl, _⟩ := h; rfl) (fun cdv A outer s H vs Q E hr h => ?_)
  refine ⟨_, (pss_cons (ps_set (i := 1) sc_Store_text.nd rfl (Or.inl rfl) (pe_lst (pa_cons (pe_joined (.cons pe_str (.cons (pe_fmt (pe_fld (pv 0) rfl)) .nil))) (pa_cons (pe_op op_add_str pe_str (pe_call (ok_shown_states T) (hr.mono (by decide)) (by rfl) T.g_shown_states T.F_shown_states.kp T.b_shown_states .nil pass0 (pa_cons (pe_fld (pv 0) rfl) pa_nil))) pa_nil))))
    (pss_one (ps_ret (pe_join pe_str (pe_op op_cat (pv 1) (pe_lc (own := [("name", 2), ("moves", 3)]) rfl sc_Store_text.nd (pi_tup (pe_fld (pv 0) rfl)) (blkOk_by (own := [("name", 2), ("moves", 3)]) (N := N_Store_text) (sc := defScope s_Store_text) (by decide +kernel)) (fun _ _ _ _ _ => (show PG _ _ (gTup K 2 _) from (pg_tup (by rfl) (pgs_cons (pg_name (i := 2) sc_Store_text.nd rfl (Or.inl rfl)) (pgs_cons (pg_name (i := 3) sc_Store_text.nd rfl (Or.inl rfl)) pgs_nil))))) (fun _ _ _ _ _ => pts_nil) (fun _ _ _ _ _ => (pe_joined (.cons pe_str (.cons (pe_fmt (pv 2)) (.cons pe_str (.cons (pe_fmt (pe_call (ok_shown_states T) (hr.mono (by decide)) (by rfl) T.g_shown_states T.F_shown_states.kp T.b_shown_states .nil pass0 (pa_cons (pv 3) pa_nil))) .nil)))))))))))), ?_⟩
  obtain ⟨p, n, acts, rs, rfl, hs, hl, q⟩ := h
  obtain ⟨S, r, st, hrd⟩ := hs.ex
  obtain ⟨dx, aA, o, ps, dM, lW, kvs, ds, h1, h2, h3, h4, h5, _⟩ := st.ex
  have n3 := hs.A.sz
  have low : Low 10 (rs.map some) := (rest_low hs.st).up (by omega)
  have nl := numS_len (k := n) (by omega)
  have sl := shown_len low
  rw [List.length_map] at sl
  obtain ⟨t, rfl, ht⟩ := rv_rest hrd
  refine ⟨_, rfl, by rw [emp_app]; show 5 ≤ sizeLine; decide, ?_⟩
  refine ⟨_, rfl, p, T.C_Store, dx, _, _, rfl, h1, T.cl_Store, T.no_Store_size, flds_size, .inr ⟨_, rfl, lg (by omega), ?_⟩⟩
  rw [emp_app]
  refine ⟨_, rfl, ?_, ?_⟩
  · show (Str.ofString "size " ++ numS n).length ≤ _
    rw [app_len, nl, sizeLine_eq]
    decide
  refine ⟨_, rfl, p, T.C_Store, dx, _, _, rfl, h1, T.cl_Store, T.no_Store_resting, flds_resting, t, rs.map some, rfl, ht, by rw [List.length_map]; omega, low, fun H1 k1 => ⟨_, _, rfl, rfl, ?_, ?_⟩⟩
  · rw [sizeLine_eq]
    show 8 + _ ≤ _
    omega
  refine ⟨by show 2 ≤ sizeLine; decide, fun D0 hD0 => ?_⟩
  have k2 : Same H1 (upd H1 D0 (.lst [.str ("size " ++ numS n), .str ("resting " ++ shown (rs.map some))])) := same_new hD0
  have hD1 : (upd H1 D0 (.lst [.str ("size " ++ numS n), .str ("resting " ++ shown (rs.map some))])) D0 = some (.lst [.str ("size " ++ numS n), .str ("resting " ++ shown (rs.map some))]) := upd_same
  show (gName 1) (V.ref D0) _ (upd H1 D0 (.lst [.str ("size " ++ numS n), .str ("resting " ++ shown (rs.map some))])) _
  generalize upd H1 D0 (.lst [.str ("size " ++ numS n), .str ("resting " ++ shown (rs.map some))]) = H2 at k2 hD1 ⊢
  have kk := k1.trans k2
  refine ⟨⟨_, rfl⟩, _, rfl, _, rfl, p, T.C_Store, dx, _, _, rfl, kk _ _ h1, T.cl_Store, T.no_Store_actions, flds_actions, aA, rfl, ⟨_, .inl (.inr ⟨o, kk _ _ h2⟩)⟩, fun D hD => ?_⟩
  refine lc_tup (K := K) (a := aA) (xs := ps.map V.ref) (te := fun σ H Q => tJs [tC (V.str (Str.ofString "action ")), tFmt (tVar 2), tC (V.str (Str.ofString " ")), tFmt (tCall (sp_shown K) [] E0 (tCons (tVar 3) tNil))] Str.empty σ H fun out H1 => Q (V.str out) H1) (fun i H' => Same H2 H' ∧ H' D = some (.lst (((acts.take i).map actL).map V.str))) ⟨same_new hD, upd_same⟩ (fun i H' _ p => .inl (.inr ⟨o, p.1 _ _ (kk _ _ h2)⟩)) ?_ ?_
  · rintro i y H3 hi ⟨k, hDl⟩
    obtain ⟨a, ha, hda⟩ := acts_get h3 hi
    have ham := List.mem_of_getElem? ha
    have hda' : Dv S H3 y (.tuple [.str a.1, .tuple (a.2.map mvD)]) := (hda.kp (Kp.of kk)).kp (Kp.of k)
    obtain ⟨b, m, rfl, hb, hm⟩ : ∃ b m, y = .ref b ∧ H3 b = some (.tup [.str a.1, .ref m]) ∧ H3 m = some (.tup (a.2.map mvV)) := by
      cases hda' with
      | tup g1 g2 g3 =>
        cases g3 with
        | cons g4 g5 =>
          cases g4
          cases g5 with
          | cons g6 g7 =>
            cases g7
            cases g6 with
            | tup f1 f2 f3 => exact ⟨_, _, rfl, g1, by rw [← dvs_at f3]; exact f1⟩
    have nm := (isName_ok (hs.A.nm a ham)).2
    have lowa : Low n a.2 := hs.A.mv a ham
    have low10 : Low 10 a.2 := lowa.up (by omega)
    have sla := shown_len low10
    have lna := hs.A.ln a ham
    refine ⟨b, _, rfl, SqT.of hb, rfl, _, _, rfl, _, _, rfl, rfl, rfl, _, rfl, by rw [emp_app]; show 7 ≤ sizeLine; decide, ?_⟩
    rw [emp_app]
    have l1 : (Str.ofString "action " ++ a.1).length = 7 + a.1.length := app_len _ _
    have l2 : (Str.ofString "action " ++ a.1 ++ Str.ofString " ").length = 7 + a.1.length + 1 := by rw [app_len, l1]; rfl
    have l3 : (Str.ofString "action " ++ a.1 ++ Str.ofString " " ++ shown a.2).length = 7 + a.1.length + 1 + (shown a.2).length := by rw [app_len, l2]
    refine ⟨_, rfl, .inl ⟨_, rfl, by rw [sizeLine_eq]; omega, _, rfl, by rw [l1, sizeLine_eq]; omega, ?_⟩⟩
    refine ⟨_, rfl, by rw [l2, sizeLine_eq]; omega, ?_⟩
    refine ⟨_, rfl, m, a.2, rfl, SqT.of hm, by omega, low10, fun H4 k4 => .inl ⟨_, rfl, by rw [sizeLine_eq]; omega, _, rfl, by rw [l3, sizeLine_eq]; omega, ?_⟩⟩
    refine ⟨_, k4 _ _ hDl, ?_, fun b' o' eb => ?_, ?_⟩
    · rw [List.length_map, List.length_map, List.length_take, sizeLine_eq]
      have := hs.A.few
      omega
    · rw [upd_ne (ne_of_none eb hD)]
      exact k4 _ _ (k _ _ eb)
    · rw [upd_same, List.take_succ, ha, List.map_append, List.map_append]
      rfl
  · rintro H3 ⟨k, hDl⟩
    have few := hs.A.few
    have lp : (ps.map V.ref).length = acts.length := by rw [h3.length, List.length_map]
    rw [lp, List.take_length] at hDl
    refine ⟨D0, D, _, _, rfl, rfl, k _ _ hD1, hDl, ?_, fun p2 hp2 => ?_⟩
    · rw [List.length_map, List.length_map, sizeLine_eq]
      show 2 + acts.length ≤ _
      omega
    refine ⟨_, p2, linesOf n acts rs, rfl, rfl, .inl (SqL.of upd_same), ?_, q _ (kk.trans (k.trans (same_new hp2)))⟩
    have e1 : (linesOf n acts rs).map (fun x : PySem.Str => x.length) = ("size " ++ numS n).length :: ("resting " ++ shown (rs.map some)).length :: (acts.map fun a => (actL a).length) := by
      unfold linesOf
      rw [List.map_cons, List.map_cons, List.map_map]
      rfl
    have e2 : (acts.map fun a => (actL a).length).sum ≤ acts.length * 23 := by
      refine sum_le fun a ha => ?_
      have := actL_len (isName_ok (hs.A.nm a ha)).2.2 (Low.up (hs.A.mv a ha) (by omega))
      rw [hs.A.ln a ha] at this
      omega
    rw [e1, List.sum_cons, List.sum_cons, app_len, app_len, nl]
    show 5 + 1 + (8 + _ + _) + (linesOf n acts rs).length * 1 ≤ _
    have e3 : (linesOf n acts rs).length = acts.length + 2 := by
      unfold linesOf
      rw [List.length_cons, List.length_cons, List.length_map]
    rw [e3]
    omega
end
end K04
set_option Elab.async false
set_option linter.all false
set_option maxRecDepth 100000
set_option maxHeartbeats 4000000
set_option pp.maxSteps 2500
/-! k04: actions_in. -/
namespace K04
open PySem PySem.Spec PyProof.Rows L2 Zg Zr Zd Zv Xu
open TL (tl len_tl ext_tl)
section
variable {P : Program} {w : World} {K : PySem.W.Frag} {mg : PySem.Str → Option Value} {base : Heap}
theorem ok_InvalidText_init (T : Txt K mg) : FnOk P w K mg base CX0 1 T.a_InvalidText_init T.d_InvalidText_init P_InvalidText_init (spIni T.C_InvalidText ["line"]) := by
  refine T.F_InvalidText_init.ok sc_InvalidText_init (fun vs H Q E h => by obtain ⟨a, ws, H0, rfl, hl, _⟩ := h; rw [List.length_cons, hl]; rfl) (fun cdv A outer s H vs Q E hr h => ?_)
  refine ⟨_, (pss_one (Xu.ps_put (pv 0) (pv 1))), ?_⟩
  obtain ⟨a, ws, H0, rfl, hl, ha, h0, hr0, q⟩ := h
  obtain ⟨y0, rfl⟩ : ∃ y0, ws = [y0] := by
    match ws, hl with
    | [y], _ => exact ⟨y, rfl⟩
  exact ⟨_, rfl, _, rfl, a, T.C_InvalidText, rfl, T.E_InvalidText.ox, T.E_InvalidText.no _ List.mem_cons_self, .inl ⟨ha, fun dx hd ne => q dx _ (Made.first ha hd ne h0 hr0)⟩⟩
/-- what InvalidText tells -/
def BadL (T : Txt K mg) (H : Hp) (E : XK) (k : Nat) : Prop := ∀ (d : Addr) (H' : Hp), Same H H' → H' d = some (.xd [("line", .int (k : Nat))]) → E (.ref T.C_InvalidText) (some d) H'
theorem raise_line {T : Txt K mg} {H H1 : Hp} {E : XK} {k : Nat} (b : BadL T H E k) (k1 : Same H H1) : ∀ d, H1 d = none → E (.ref T.C_InvalidText) (some d) (upd H1 d (.xd [("line", .int (k : Nat))])) := fun d hd =>
  b d _ (k1.trans (same_new hd)) upd_same
def sp_actions (T : Txt K mg) : Sp := fun vs H Q E => ∃ (S : List Addr) (a : Addr) (ls : List PySem.Str) (n k : Nat), vs = [.ref a, .int (n : Nat), .int (k : Nat)] ∧ H a = some (.lst (ls.map V.str)) ∧ (∀ x ∈ ls, x.length ≤ 640) ∧ ls.length ≤ 900 ∧ k < 1000 ∧ Trk S H ∧
  match actsIn n ls k [] with
    | .inl j => BadL T H E j
    | .inr acts => ∀ (H' : Hp) (v : V), Same H H' → Dv S H' v (.tuple (acts.map actD)) → Q v H'
theorem ok_actions_in (T : Txt K mg) : FnOk P w K mg base (L2N.CX P w) 5 T.a_actions_in T.d_actions_in P_actions_in (sp_actions T) := by
  refine Xv.okXN T.F_actions_in sc_actions_in (fun vs H Q E h => by obtain ⟨S, a, ls, n, k, rfl, _⟩ := h; rfl) (fun cdv A outer s H vs Q E hr h => ?_)
  refine ⟨_, (pss_cons (ps_set (i := 3) sc_actions_in.nd rfl (Or.inl rfl) (pe_lst pa_nil))
    (pss_cons (ps_for (passes_of rfl) rfl (Xh.pi_enumS (by rfl) T.n_enumerate (pa_cons (pv 0) pa_nil) (pk_cons (pv 2) pk_nil)) (pg_tup (by rfl) (pgs_cons (pg_name (i := 4) sc_actions_in.nd rfl (Or.inl rfl)) (pgs_cons (pg_name (i := 5) sc_actions_in.nd rfl (Or.inl rfl)) pgs_nil))) (pss_cons (ps_set (i := 6) sc_actions_in.nd rfl (Or.inl rfl) (pe_call (ok_action_in T) (hr.mono (by decide)) (by rfl) T.g_action_in T.F_action_in.kp T.b_action_in .nil pass0 (pa_cons (pv 5) (pa_cons (pv 1) pa_nil))))
    (pss_cons (ps_if (PW.pt (pw_or (pt_cmpR op_isN (pv 6) pe_non (nomark _)) (pw_or1 (PW.pt (pw_and (pt_cmpR (op_neE (Nat.lt_of_le_of_lt (Nat.le_add_right _ 64) hr.units)) (pv 3) (pe_lst pa_nil) (nomark _)) (pw_and1 (pt_cmpR op_le_str (pe_ix ix_tup (pv 6) pe_int (fun _ _ => rfl)) (pe_ix ix_tup (pe_ix ix_list (pv 3) (pe_un un_neg pe_int) (fun _ _ => rfl)) pe_int (fun _ _ => rfl)) (nomark _)))))))) (pss_one (L2N.ps_raise rfl (L2N.takes_of rfl rfl rfl rfl) (Xw.pmk_E T.E_InvalidText.ox T.iC_InvalidText T.tI_InvalidText (ok_InvalidText_init T) (hr.mono (by decide)) T.b_InvalidText_init rfl pass0 rfl T.g_InvalidText (pa_cons (pv 4) pa_nil)))) pss_nil)
    (pss_one (ps_expr (pe_bm PySem.F.plainAttrs_list PySem.F.slot_list_append PySem.F.type_list_append mt_append (pv 3) (pa_cons (pv 6) pa_nil)))))))
    (pss_one (ps_ret (pe_callTy call_tuple_of (by rfl) T.n_tuple (by decide +kernel) (pa_cons (pv 3) pa_nil)))))), ?_⟩
  obtain ⟨S, a, ls, n, k, rfl, ha, hl, h9, hk, tr, q⟩ := h
  refine ⟨Nat.zero_le _, fun D hD => ?_⟩
  have k1 : Same H (upd H D (.lst [])) := same_new hD
  have hD1 : (upd H D (.lst [])) D = some (.lst []) := upd_same
  have aD : a ≠ D := ne_of_none ha hD
  show (gName 3) (V.ref D) _ (upd H D (.lst [])) _
  generalize upd H D (.lst []) = H1 at k1 hD1 ⊢
  have ha1 := k1 _ _ ha
  refine ⟨_, rfl, _, rfl, a, _, k, rfl, rfl, by omega, SqL.of ha1, ?_⟩
  refine for_it Xh.walk_enumS (fun i σ H' => ∃ (y5 y6 y7 : Option V) (xs : List V) (fnd : List Act), σ = [some (.ref a), some (.int (n : Nat)), some (.int (k : Nat)), some (.ref D), y5, y6, y7] ∧ Same H H' ∧ H' D = some (.lst xs) ∧ DvAll (D :: S) H' xs (fnd.map actD) ∧ fnd.length = i ∧ actsIn n ls k [] = actsIn n (ls.drop i) (k + i) fnd) ⟨none, none, none, [], [], rfl, k1, hD1, .nil, rfl, rfl⟩ (fun i σ H' _ ⟨_, _, _, _, _, _, k, _⟩ => SqL.of (k _ _ ha)) ?_ ?_
  · rintro i x σ H2 H3 hi ⟨y5, y6, y7, xs, fnd, rfl, k2, hD2, dv, hlen, he⟩ ⟨T', x1, x2, rfl, hT, rfl, e1, e2⟩
    rw [List.length_map] at hi
    have e1' : x1 = V.int ((k + i : Nat) : Int) := (Option.some.inj e1).symm
    subst e1'
    obtain ⟨ln, hln, rfl⟩ : ∃ ln, ls[i]? = some ln ∧ x2 = .str ln := by
      have e2' : (ls.map V.str)[i]? = some x2 := e2
      rw [List.getElem?_map, List.getElem?_eq_getElem hi] at e2'
      exact ⟨_, List.getElem?_eq_getElem hi, (Option.some.inj e2').symm⟩
    have lnl := hl ln (List.mem_of_getElem? hln)
    have hdrop : ls.drop i = ln :: ls.drop (i + 1) := by
      obtain ⟨h1, h2⟩ := List.getElem?_eq_some_iff.mp hln
      rw [← h2, List.getElem_cons_drop]
    rw [hdrop] at he
    have k3 : Same H2 (upd H2 T' (.tup [.int ((k + i : Nat) : Int), .str ln])) := same_new hT
    have hT3 : (upd H2 T' (.tup [.int ((k + i : Nat) : Int), .str ln])) T' = some (.tup [.int ((k + i : Nat) : Int), .str ln]) := upd_same
    generalize upd H2 T' (.tup [.int ((k + i : Nat) : Int), .str ln]) = H3 at k3 hT3 ⊢
    have tr3 : Trk (D :: S) H3 := fun b hb e => by
      rcases List.mem_cons.mp hb with rfl | hb
      · rw [k3 _ _ hD2] at e
        cases e
      · exact (tr.same (k2.trans k3)) b hb e
    refine ⟨T', _, rfl, SqT.of hT3, rfl, _, _, rfl, _, _, rfl, rfl, ?_⟩
    refine ⟨_, rfl, _, rfl, D :: S, ln, n, rfl, lnl, tr3, fun H4 v k4 dvv => ?_⟩
    have kk := k3.trans k4
    have eA : actsIn n ls k [] = match actIn n ln with
      | none => .inl (k + i)
      | some a => if (∃ b ∈ fnd.getLast?, ¬ b.1.cps.toList < a.1.cps.toList) then .inl (k + i) else actsIn n (ls.drop (i + 1)) (k + i + 1) (fnd ++ [a]) := he
    cases hA : actIn n ln with
    | none =>
      rw [hA] at dvv eA
      cases dvv
      rw [eA] at q
      exact ⟨_, rfl, rfl, _, rfl, _, rfl, rfl, raise_line q (k2.trans kk)⟩
    | some a' =>
      rw [hA] at dvv eA
      have dvv' : Dv (D :: S) H4 v (.tuple [.str a'.1, .tuple (a'.2.map mvD)]) := dvv
      obtain ⟨b, m, rfl, hb⟩ : ∃ b m, v = .ref b ∧ H4 b = some (.tup [.str a'.1, m]) := by
        cases dvv' with
        | tup g1 g2 g3 =>
          cases g3 with
          | cons g4 g5 =>
            cases g4
            cases g5 with
            | cons g6 g7 =>
              cases g7
              exact ⟨_, _, rfl, g1⟩
      have hD4 := kk _ _ hD2
      have dv4 := dv.kp (Kp.of kk)
      have app : ∀ H5, Same H4 H5 → (∃ b ∈ fnd.getLast?, ¬ b.1.cps.toList < a'.1.cps.toList) = False → ∃ l xs' y, V.ref D = .ref l ∧ [V.ref b] = [y] ∧ H5 l = some (.lst xs') ∧ xs'.length < sizeLine ∧ ∃ (y5' y6' y7' : Option V) (xs2 : List V) (fnd2 : List Act), [some (V.ref a), some (.int (n : Nat)), some (.int (k : Nat)), some (.ref D), some (.int ((k + i : Nat) : Int)), some (.str ln), some (.ref b)] = [some (.ref a), some (.int (n : Nat)), some (.int (k : Nat)), some (.ref D), y5', y6', y7'] ∧ Same H (upd H5 l (.lst (xs' ++ [y]))) ∧ (upd H5 l (.lst (xs' ++ [y]))) D = some (.lst xs2) ∧ DvAll (D :: S) (upd H5 l (.lst (xs' ++ [y]))) xs2 (fnd2.map actD) ∧ fnd2.length = i + 1 ∧ actsIn n ls k [] = actsIn n (ls.drop (i + 1)) (k + (i + 1)) fnd2 := fun H5 k5 ef => by
        have hxl := dv.length
        rw [List.length_map, hlen] at hxl
        have kp5 : Kp (D :: S) H5 (upd H5 D (.lst (xs ++ [.ref b]))) := fun c o hc e => by
          rw [upd_ne (fun z => hc (by rw [z]; exact List.mem_cons_self))]
          exact e
        refine ⟨D, xs, .ref b, rfl, rfl, k5 _ _ hD4, by rw [hxl, sizeLine_eq]; omega, _, _, _, xs ++ [.ref b], fnd ++ [a'], rfl, fun c o e => ?_, upd_same, ?_, ?_, ?_⟩
        · rw [upd_ne (ne_of_none e hD)]
          exact k5 _ _ (kk _ _ (k2 _ _ e))
        · rw [List.map_append]
          exact ((dv4.kp (Kp.of k5)).append (.cons (dvv'.kp (Kp.of k5)) .nil)).kp kp5
        · rw [List.length_append, hlen]
          rfl
        · rw [eA]
          show (if (∃ b ∈ fnd.getLast?, ¬ b.1.cps.toList < a'.1.cps.toList) then _ else _) = _
          rw [if_neg (by rw [ef]; exact id)]
          rfl
      refine ⟨_, rfl, rfl, _, rfl, _, rfl, by show 0 ≤ sizeLine; decide, fun p2 hp2 => ⟨D, p2, xs, rfl, rfl, .inl ⟨SqL.of (same_new hp2 _ _ hD4), SqL.of upd_same⟩, _, rfl, ?_⟩⟩
      have k5 : Same H4 (upd H4 p2 (.lst [])) := same_new hp2
      generalize upd H4 p2 (.lst []) = H5 at k5 ⊢
      rcases List.eq_nil_or_concat fnd with rfl | ⟨fr, b2, rfl⟩
      · cases dv
        exact ⟨_, rfl, .inl ⟨rfl, _, SqL.of (k5 _ _ hD4)⟩, _, rfl, app H5 k5 (by simp)⟩
      · have hxl := dv.length
        rw [List.length_map, List.concat_eq_append, List.length_append] at hxl
        rcases List.eq_nil_or_concat xs with rfl | ⟨xr, z, rfl⟩
        · cases hxl
        · rw [List.concat_eq_append] at *
          have hz : (xr ++ [z])[xr.length]? = some z := by simp
          have hfl : xr.length = fr.length := by
            rw [List.length_append] at hxl
            simp at hxl
            exact hxl
          obtain ⟨d, hd, hdz⟩ := dv4.get hz
          have hd' : d = actD b2 := by
            rw [hfl, List.concat_eq_append, List.map_append] at hd
            simp at hd
            exact hd.symm
          subst hd'
          obtain ⟨z', m2, rfl, hz'⟩ : ∃ z' m2, z = .ref z' ∧ H4 z' = some (.tup [.str b2.1, m2]) := by
            have hdz' : Dv (D :: S) H4 z (.tuple [.str b2.1, .tuple (b2.2.map mvD)]) := hdz
            cases hdz' with
            | tup g1 g2 g3 =>
              cases g3 with
              | cons g4 g5 =>
                cases g4
                cases g5 with
                | cons g6 g7 =>
                  cases g7
                  exact ⟨_, _, rfl, g1⟩
          have ne : (!(xr ++ [V.ref z']).isEmpty) = true := by
            cases xr <;> rfl
          show (if (!(xr ++ [V.ref z']).isEmpty) = true then _ else _)
          rw [if_pos ne]
          refine ⟨_, rfl, b, _, 0, .str a'.1, rfl, rfl, SqT.of (k5 _ _ hb), atI_nat (j := 0) rfl, _, rfl, ?_⟩
          refine ⟨1, rfl, D, _, -1, .ref z', rfl, rfl, SqL.of (k5 _ _ hD4), atI_last _ _, z', _, 0, .str b2.1, rfl, rfl, SqT.of (k5 _ _ hz'), atI_nat (j := 0) rfl, _, _, rfl, rfl, _, rfl, ?_⟩
          have el : ∀ {p : Act → Prop}, (∃ b ∈ (fr ++ [b2]).getLast?, p b) ↔ p b2 := by
            intro p
            rw [List.getLast?_append]
            constructor
            · rintro ⟨c, hc, pc⟩
              have : b2 = c := by simpa using hc
              rw [this]
              exact pc
            · exact fun h => ⟨b2, rfl, h⟩
          by_cases lt : b2.1.cps.toList < a'.1.cps.toList
          · rw [decide_eq_true lt]
            exact ⟨_, rfl, .inl ⟨rfl, _, SqL.of (k5 _ _ hD4)⟩, _, rfl, app H5 k5 (eq_false fun z => el.mp z lt)⟩
          · rw [decide_eq_false lt]
            have eA' : actsIn n ls k [] = .inl (k + i) := by
              rw [eA]
              exact if_pos (el.mpr lt)
            rw [eA'] at q
            exact ⟨_, rfl, rfl, raise_line q (k2.trans (kk.trans k5))⟩
  · rintro σ H2 ⟨y5, y6, y7, xs, fnd, rfl, k2, hD2, dv, hlen, he⟩
    rw [List.length_map, List.drop_length] at he
    have he' : actsIn n ls k [] = .inr fnd := he
    rw [he'] at q
    refine ⟨_, rfl, D, xs, rfl, .inl ⟨SqL.of hD2, fun p hp => q _ _ (k2.trans (same_new hp)) ?_⟩⟩
    have dv2 := (dv.sub (S' := S) fun a ha => List.mem_cons_of_mem _ ha)
    exact .tup upd_same ((tr.same k2).out hp) (dv2.kp (Kp.of (same_new hp)))
end
end K04
set_option Elab.async false
set_option linter.all false
set_option maxRecDepth 100000
set_option maxHeartbeats 4000000
set_option pp.maxSteps 2500
/-! k04: store_of_lines. -/
namespace K04
open PySem PySem.Spec PyProof.Rows L2 Zg Zr Zd Zv Xu
open TL (tl len_tl ext_tl)
theorem flt_rest {n : Int} {ds : List PyData} {rd : PyData} (h : isSz (.int n) = true) (h2 : badRow n [] ds = none) : flt (.int n) (.tuple ds) rd = if areStates n rd = true then none else some (.str "resting") := by
  show (if isSz (.int n) = true then chk (.int n) ds rd else _) = _
  rw [if_pos h, chk_int, if_pos h, h2]
theorem same_name {acts : List Act} (nd : (acts.map (·.1)).Nodup) {a b : Act} (ha : a ∈ acts) (hb : b ∈ acts) (e : a.1 = b.1) : a = b := by
  induction acts with
  | nil => cases ha
  | cons c l ih =>
    rw [List.map_cons, List.nodup_cons] at nd
    rcases List.mem_cons.mp ha with ea | ha'
    · rcases List.mem_cons.mp hb with eb | hb'
      · rw [ea, eb]
      · rw [ea] at e
        exact absurd (List.mem_map.mpr ⟨b, hb', e.symm⟩) nd.1
    · rcases List.mem_cons.mp hb with eb | hb'
      · rw [eb] at e
        exact absurd (List.mem_map.mpr ⟨a, ha', e⟩) nd.1
      · exact ih nd.2 ha' hb'
theorem badRow_ok {n : Int} : ∀ {acts : List Act} {ns : List PySem.Str}, (∀ a ∈ acts, isAct n (actD a) = true) → (acts.map (·.1)).Nodup → (∀ a ∈ acts, a.1 ∉ ns) → badRow n ns (acts.map actD) = none
  | [], _, _, _, _ => rfl
  | a :: acts, ns, h1, h2, h3 => by
    rw [List.map_cons, List.nodup_cons] at h2
    have en : nmOf (actD a) = a.1 := rfl
    rw [List.map_cons, badRow_cons, if_pos ⟨h1 a List.mem_cons_self, by rw [en]; exact h3 a List.mem_cons_self⟩]
    refine badRow_ok (fun b hb => h1 b (List.mem_cons_of_mem _ hb)) h2.2 fun b hb m => ?_
    rcases List.mem_append.mp m with m | m
    · exact h3 b (List.mem_cons_of_mem _ hb) m
    · rw [en] at m
      exact h2.1 (List.mem_map.mpr ⟨b, hb, List.mem_singleton.mp m⟩)
theorem flt_acts {n : Nat} {acts : List Act} {rd : PyData} (A : Acts n acts) (h1 : 1 ≤ n) (hs : areStates n rd = true) : flt (.int (n : Nat)) (.tuple (acts.map actD)) rd = none := by
  have hz : isSz (.int (n : Nat)) = true := by
    have := A.sz
    show (decide ((1 : Int) ≤ (n : Int)) && decide ((n : Int) ≤ 3)) = true
    rw [decide_eq_true (by omega), decide_eq_true (by omega)]
    rfl
  rw [flt_rest hz (badRow_ok A.isAct A.nd fun _ _ m => nomatch m), if_pos hs]
theorem asc_uniq {n : Nat} {a b : List Act} (A : Acts n a) (ha : Asc a) (hb : Asc b) (h : a.Perm b) : a = b :=
  List.Perm.eq_of_pairwise (le := fun x y : Act => ¬ y.1.cps.toList < x.1.cps.toList) (fun x y hx hy h1 h2 => same_name A.nd hx (h.mem_iff.mpr hy) (Zt.str_ext (List.le_antisymm (List.not_lt.mp h1) (List.not_lt.mp h2)))) ha hb h
theorem acts_inj : ∀ {l k : List Act}, l.map actD = k.map actD → l = k
  | [], [], _ => rfl
  | [], _ :: _, h => by cases h
  | _ :: _, [], h => by cases h
  | x :: l, y :: k, h => by
    rw [List.map_cons, List.map_cons] at h
    injection h with h1 h2
    rw [actD_inj h1, acts_inj h2]
/-! ### actions that lines write ascend -/
def AscS (acts : List Act) : Prop := acts.Pairwise fun x y => x.1.cps.toList < y.1.cps.toList
theorem ascS_last {f : List Act} {a : Act} (h : AscS f) (hl : ∀ b ∈ f.getLast?, b.1.cps.toList < a.1.cps.toList) : AscS (f ++ [a]) := by
  refine List.pairwise_append.mpr ⟨h, List.pairwise_singleton _ _, fun x hx y hy => ?_⟩
  rw [List.mem_singleton.mp hy]
  rcases List.eq_nil_or_concat f with rfl | ⟨r, b, rfl⟩
  · cases hx
  · rw [List.concat_eq_append] at h hl hx
    have hb := hl b (by simp)
    rcases List.mem_append.mp hx with hx | hx
    · exact List.lt_trans ((List.pairwise_append.mp h).2.2 x hx b (by simp)) hb
    · rw [List.mem_singleton.mp hx]
      exact hb
theorem actIn_ok {n : Nat} {x : PySem.Str} {a : Act} (h : actIn n x = some a) : isAct n (actD a) = true := by
  unfold actIn at h
  split at h
  · split at h
    · split at h
      · split at h
        · rename_i hz
          cases h
          exact hz
        · cases h
      · cases h
    · cases h
  · cases h
theorem actsIn_ok {n : Nat} : ∀ {ls : List PySem.Str} {k : Nat} {f acts : List Act}, actsIn n ls k f = .inr acts → (∀ a ∈ f, isAct n (actD a) = true) → AscS f → (∀ a ∈ acts, isAct n (actD a) = true) ∧ AscS acts ∧ acts.length ≤ f.length + ls.length
  | [], k, f, acts, h, h1, h2 => by
    cases h
    exact ⟨h1, h2, Nat.le_refl _⟩
  | x :: ls, k, f, acts, h, h1, h2 => by
    have h' : (match actIn n x with
      | none => .inl k
      | some a => if (∃ b ∈ f.getLast?, ¬ b.1.cps.toList < a.1.cps.toList) then .inl k else actsIn n ls (k + 1) (f ++ [a])) = Sum.inr acts := h
    cases ha : actIn n x with
    | none => rw [ha] at h'; cases h'
    | some a =>
      rw [ha] at h'
      by_cases hb : ∃ b ∈ f.getLast?, ¬ b.1.cps.toList < a.1.cps.toList
      · have h4 : (if (∃ b ∈ f.getLast?, ¬ b.1.cps.toList < a.1.cps.toList) then .inl k else actsIn n ls (k + 1) (f ++ [a])) = Sum.inr acts := h'
        rw [if_pos hb] at h4
        cases h4
      · have h3 : actsIn n ls (k + 1) (f ++ [a]) = .inr acts := by
          have h4 : (if (∃ b ∈ f.getLast?, ¬ b.1.cps.toList < a.1.cps.toList) then .inl k else actsIn n ls (k + 1) (f ++ [a])) = Sum.inr acts := h'
          rwa [if_neg hb] at h4
        have := actsIn_ok h3 (fun b hm => by
          rcases List.mem_append.mp hm with hm | hm
          · exact h1 b hm
          · rw [List.mem_singleton.mp hm]
            exact actIn_ok ha) (ascS_last h2 fun b hm => Decidable.byContradiction fun z => hb ⟨b, hm, z⟩)
        rw [List.length_append] at this
        refine ⟨this.1, this.2.1, ?_⟩
        have h5 := this.2.2
        rw [List.length_cons]
        have e1 : [a].length = 1 := rfl
        omega
theorem acts_of {n : Nat} {acts : List Act} (n3 : n ≤ 3) (h : ∀ a ∈ acts, isAct n (actD a) = true) (s : AscS acts) (hl : acts.length ≤ 900) : Acts n acts ∧ Asc acts := by
  have one : ∀ a ∈ acts, isName (.str a.1) = true ∧ a.2.length = n ∧ Low n a.2 := fun a ha => by
    have h' : (isName (.str a.1) && decide ((((a.2.map mvD).length : Nat) : Int) = (n : Int)) && (a.2.map mvD).all (isMv n)) = true := h a ha
    rw [Bool.and_eq_true, Bool.and_eq_true, decide_eq_true_iff, List.length_map, List.all_eq_true] at h'
    refine ⟨h'.1.1, by have := h'.1.2; omega, fun m hm k e => ?_⟩
    subst e
    have h2 : (decide ((0 : Int) ≤ (k : Nat)) && decide (((k : Nat) : Int) < n)) = true := h'.2 _ (List.mem_map.mpr ⟨_, hm, rfl⟩)
    rw [Bool.and_eq_true, decide_eq_true_iff, decide_eq_true_iff] at h2
    omega
  refine ⟨⟨fun a ha => (one a ha).1, fun a ha => (one a ha).2.1, fun a ha => (one a ha).2.2, ?_, hl, n3⟩, s.imp fun h1 h2 => List.lt_irrefl _ (List.lt_trans h1 h2)⟩
  exact List.pairwise_map.mpr (s.imp fun h e => by rw [e] at h; exact List.lt_irrefl _ h)
def readR (n : Nat) : List PySem.Str → Nat ⊕ (Nat × List Act × PyData)
  | [] => .inl 1
  | y :: r => match restIn n y with
    | none => .inl 1
    | some rd => match actsIn n r 2 [] with
      | .inl k => .inl k
      | .inr acts => .inr (n, acts, rd)
theorem readL_none {x : PySem.Str} {r : List PySem.Str} (h : sizeIn x = none) : readL (x :: r) = .inl 0 := by
  show (match sizeIn x with
    | none => _
    | some n => _) = _
  rw [h]
theorem readL_some {x : PySem.Str} {r : List PySem.Str} {n : Nat} (h : sizeIn x = some n) : readL (x :: r) = readR n r := by
  unfold readL readR
  dsimp only
  rw [h]
  try rfl
theorem restIn_ok {n : Nat} {y : PySem.Str} {rd : PyData} (hl : y.length ≤ 640) (h : restIn n y = some rd) : areStates n rd = true ∧ okw rd = true := by
  unfold restIn at h
  split at h
  · rename_i a b hw
    split at h
    · rename_i hz
      cases h
      refine ⟨hz.2, okw_states ?_⟩
      have := wds_part (x := y) (p := b) (by rw [hw]; exact List.mem_cons_of_mem _ List.mem_cons_self)
      omega
    · cases h
  · cases h
theorem sizeIn_ok {x : PySem.Str} {n : Nat} (h : sizeIn x = some n) : 1 ≤ n ∧ n ≤ 3 := by
  unfold sizeIn at h
  split at h
  · split at h
    · rename_i hz
      rw [h] at hz
      have h' : (decide ((1 : Int) ≤ (n : Nat)) && decide (((n : Nat) : Int) ≤ 3)) = true := hz.2
      rw [Bool.and_eq_true, decide_eq_true_iff, decide_eq_true_iff] at h'
      omega
    · cases h
  · cases h
theorem cut_from (xs : List V) (k : Nat) : cutV xs (some (k : Int)) none = xs.drop k := by
  unfold cutV
  rw [HT.sIx_nat, HT.sIx_none]
  by_cases h : k ≤ xs.length
  · rw [Nat.min_eq_left h, List.take_of_length_le (by rw [List.length_drop]; exact Nat.le_refl _)]
  · rw [Nat.min_eq_right (by omega), Nat.sub_self, List.take_zero, List.drop_of_length_le (by omega)]
theorem cut_to (xs : List V) (k : Nat) : cutV xs none (some (k : Int)) = xs.take k := by
  unfold cutV
  rw [HT.sIx_nat, HT.sIx_none, List.drop_zero, Nat.sub_zero]
  by_cases h : k ≤ xs.length
  · rw [Nat.min_eq_left h]
  · rw [Nat.min_eq_right (by omega), List.take_of_length_le (Nat.le_refl _), List.take_of_length_le (by omega)]
section
variable {P : Program} {w : World} {K : PySem.W.Frag} {mg : PySem.Str → Option Value} {base : Heap}
/-- Store.of where it makes one -/
theorem of_made {T : Txt K mg} {H : Hp} {Q : VK} {E : XK} {S : List Addr} {n : Nat} {av r : V} {acts acts0 : List Act} {rd : PyData} (A : Acts n acts) (one : 1 ≤ n) (hav : Dv S H av (.tuple (acts.map actD))) (hr : Dv S H r rd) (st : areStates n rd = true) (ok : okw rd = true) (asc : Asc acts0) (perm : acts0.Perm acts)
    (q : ∀ (H' : Hp) (p : Addr), Same H H' → H p = none → Sto T H' p n acts0 rd → Q (.ref p) H') : sp_of T [.ref T.C_Store, .int (n : Nat), av, r] H Q E := by
  refine ⟨S, .int (n : Nat), av, r, .int (n : Nat), .tuple (acts.map actD), rd, rfl, .int _, rfl, hav, ?_, ?_, hr, ok, ?_⟩
  · show (decide ((acts.map actD).length ≤ 1000) && okwAll (acts.map actD)) = true
    have := A.few
    rw [List.length_map, decide_eq_true (by omega), Bool.true_and, okwAll_iff]
    intro d hd
    obtain ⟨a, ha, rfl⟩ := List.mem_map.mp hd
    exact A.okw a ha
  · show (acts.map actD).length ≤ 900
    rw [List.length_map]
    exact A.few
  · rw [flt_acts A one st]
    intro n' acts1 e1 e2 A1 H' p acts' k hp pm ac sa
    have en : n = n' := by
      injection e1 with e1
      omega
    subst en
    have ea : acts = acts1 := acts_inj (by injection e2)
    subst ea
    have e3 : acts' = acts0 := asc_uniq (A.perm pm) ac asc (pm.trans perm.symm)
    subst e3
    exact q H' p k hp ⟨⟨S, r, sa, .inl (hr.kp (Kp.of k))⟩, A.perm pm, one, st, ok⟩
def sp_store_lines (T : Txt K mg) : Sp := fun vs H Q E => ∃ (a : Addr) (ls : List PySem.Str), vs = [.ref a] ∧ H a = some (.lst (ls.map V.str)) ∧ (∀ x ∈ ls, x.length ≤ 640) ∧ ls.length ≤ 900 ∧
  match readL ls with
    | .inl j => BadL T H E j
    | .inr (n, acts, rd) => ∀ (H' : Hp) (p : Addr), Same H H' → Sto T H' p n acts rd → Q (.ref p) H'
theorem ok_store_of_lines (T : Txt K mg) : FnOk P w K mg base (L2N.CX P w) 10 T.a_store_of_lines T.d_store_of_lines P_store_of_lines (sp_store_lines T) := by
  refine Xv.okXN T.F_store_of_lines sc_store_of_lines (fun vs H Q E h => by obtain ⟨a, ls, rfl, _⟩ := h; rfl) (fun cdv A outer s H vs Q E hr h => ?_)
  refine ⟨_, (pss_cons (ps_set (i := 1) sc_store_of_lines.nd rfl (Or.inl rfl) (pe_ifExp (pt_cmpR (op_neE (Nat.lt_of_le_of_lt (Nat.le_add_right _ 64) hr.units)) (pv 0) (pe_lst pa_nil) (nomark _)) (pe_call (ok_size_in T) (hr.mono (by omega)) (by rfl) T.g_size_in T.F_size_in.kp T.b_size_in .nil pass0 (pa_cons (pe_ix ix_list (pv 0) pe_int (fun _ _ => rfl)) pa_nil)) pe_non))
    (pss_cons (ps_if (pt_cmpR op_isN (pv 1) pe_non (nomark _)) (pss_one (L2N.ps_raise rfl (L2N.takes_of rfl rfl rfl rfl) (Xw.pmk_E T.E_InvalidText.ox T.iC_InvalidText T.tI_InvalidText (ok_InvalidText_init T) (hr.mono (by decide)) T.b_InvalidText_init rfl pass0 rfl T.g_InvalidText (pa_cons pe_int pa_nil)))) pss_nil)
    (pss_cons (ps_set (i := 2) sc_store_of_lines.nd rfl (Or.inl rfl) (pe_ifExp (pt_cmpR op_gt (pe_callB call_len_seq (by rfl) T.n_len (by decide +kernel) (pa_cons (pv 0) pa_nil)) pe_int (nomark _)) (pe_call (ok_resting_in T) (hr.mono (by omega)) (by rfl) T.g_resting_in T.F_resting_in.kp T.b_resting_in .nil pass0 (pa_cons (pe_ix ix_list (pv 0) pe_int (fun _ _ => rfl)) (pa_cons (pv 1) pa_nil))) pe_non))
    (pss_cons (ps_if (pt_cmpR op_isN (pv 2) pe_non (nomark _)) (pss_one (L2N.ps_raise rfl (L2N.takes_of rfl rfl rfl rfl) (Xw.pmk_E T.E_InvalidText.ox T.iC_InvalidText T.tI_InvalidText (ok_InvalidText_init T) (hr.mono (by decide)) T.b_InvalidText_init rfl pass0 rfl T.g_InvalidText (pa_cons pe_int pa_nil)))) pss_nil)
    (pss_one (ps_ret (ClX.pe_cmeth (pe_glob (v := .ref T.C_Store) rfl T.g_Store rfl) T.rd_Store T.me_Store_of ((ok_Store_of T).raw T.b_Store_of .nil) (hr.mono (by decide)) (L2N.passes_call (L2N.takes_of rfl rfl rfl rfl) (fun _ _ _ _ h => h)) (pa_cons (pv 1) (pa_cons (pe_call (ok_actions_in T) (hr.mono (by omega)) (by rfl) T.g_actions_in T.F_actions_in.kp T.b_actions_in .nil (L2N.passes_call (L2N.takes_of rfl rfl rfl rfl) (fun _ _ _ _ h => h)) (pa_cons (pe_slice sl_list (pv 0) (po_some (C8.pe_gc rfl T.m_PAIR)) po_none) (pa_cons (pv 1) (pa_cons (C8.pe_gc rfl T.m_PAIR) pa_nil)))) (pa_cons (pv 2) pa_nil)))))))))), ?_⟩
  obtain ⟨a, ls, rfl, ha, hl, h9, q⟩ := h
  have hlV : (ls.map V.str).length = ls.length := List.length_map _
  refine asg_via (fun v H' => v = mvV (ls.head?.bind sizeIn) ∧ Same H H') (fun R hR => ?_) ?_
  · refine ⟨_, rfl, by show 0 ≤ sizeLine; decide, fun p2 hp2 => ⟨a, p2, ls.map V.str, rfl, rfl, .inl ⟨SqL.of (same_new hp2 _ _ ha), SqL.of upd_same⟩, _, rfl, ?_⟩⟩
    have k1 : Same H (upd H p2 (.lst [])) := same_new hp2
    generalize upd H p2 (.lst []) = H1 at k1 ⊢
    cases ls with
    | nil => exact hR _ _ ⟨rfl, k1⟩
    | cons x r => exact ⟨_, rfl, a, _, 0, .str x, rfl, rfl, SqL.of (k1 _ _ ha), atI_nat (j := 0) rfl, x, rfl, hl x List.mem_cons_self, fun H2 k2 => hR _ _ ⟨rfl, k1.trans k2⟩⟩
  · rintro v H1 ⟨rfl, k1⟩
    cases ls with
    | nil => exact ⟨_, rfl, rfl, _, rfl, rfl, raise_line q k1⟩
    | cons x r =>
      have e00 : mvV ((x :: r).head?.bind sizeIn) = mvV (sizeIn x) := rfl
      rw [e00]
      cases hsz : sizeIn x with
      | none =>
        rw [readL_none hsz] at q
        exact ⟨_, rfl, rfl, _, rfl, rfl, raise_line q k1⟩
      | some n =>
        have ha1 := k1 _ _ ha
        rw [readL_some hsz] at q
        obtain ⟨n1, n3⟩ := sizeIn_ok hsz
        have em : mvV (some n) = V.int (n : Nat) := rfl
        rw [em]
        refine ⟨_, rfl, rfl, _, rfl, ?_⟩
        rw [show decide (V.int (n : Nat) = V.non) = false from decide_eq_false (fun z => by cases z)]
        refine iteF ?_
        unfold tNext; dsimp only
        refine asg_via (fun v H' => Dv [] H' v (optD (r.head?.bind (restIn n))) ∧ Same H1 H') (fun R hR => ?_) ?_
        · refine ⟨_, rfl, a, _, rfl, .inl (SqL.of ha1), _, _, rfl, rfl, _, rfl, ?_⟩
          cases r with
          | nil => exact hR _ _ ⟨.non, Same.refl _⟩
          | cons y r =>
            rw [decide_eq_true (show (1 : Int) < (((x :: y :: r).map V.str).length : Nat) from by
              rw [List.length_map, List.length_cons, List.length_cons]
              omega)]
            refine ⟨_, rfl, a, _, 1, .str y, rfl, rfl, SqL.of ha1, atI_nat (j := 1) rfl, _, rfl, [], y, n, rfl, hl y (List.mem_cons_of_mem _ List.mem_cons_self), (fun _ h => nomatch h), fun H2 v k2 dv => hR _ _ ⟨dv, k2⟩⟩
        · rintro v H2 ⟨dv, k2⟩
          have kk := k1.trans k2
          have out : v = .non → BadL T H E 1 → (gName 2 v (List.set (L2.start N_store_of_lines [V.ref a]) 1 (some (V.int (n : Nat)))) H2 fun σ2 H2 => tSeq (tIfS (tTest (tOp (fun x y H Q => y = V.non ∧ Q (V.bl (decide (x = V.non))) H) (tVar 2) (tC V.non))) (fun x σ H => tMkR T.C_InvalidText [Str.ofString "line"] (tCons (tC (V.int 1)) tNil) σ H fun cls d H' => E cls d H') fun D σ H => D.nx σ H) (tRet (ClX.tCMeth T.C_Store (fun vs H Q E => sp_of T (vs ++ []) H Q E) E (tC (V.ref T.C_Store)) (tCons (tVar 1) (tCons (tCall (sp_actions T) [] E (tCons (tSl (rSlL K) (tVar 0) (tPart (tC (V.int 2))) tNoPart) (tCons (tVar 1) (tCons (tC (V.int 2)) tNil)))) (tCons (tVar 2) tNil))))) { nx := fun x H' => Q V.non H', rt := Q } σ2 H2) := fun e b => by
            subst e
            exact ⟨_, rfl, rfl, _, rfl, rfl, raise_line b kk⟩
          cases r with
          | nil =>
            cases dv
            exact out rfl q
          | cons y r =>
            have q' : (match (match restIn n y with
              | none => (.inl 1 : Nat ⊕ (Nat × List Act × PyData))
              | some rd => match actsIn n r 2 [] with
                | .inl k => .inl k
                | .inr acts => .inr (n, acts, rd)) with
              | .inl j => BadL T H E j
              | .inr (n, acts, rd) => ∀ (H' : Hp) (p : Addr), Same H H' → Sto T H' p n acts rd → Q (.ref p) H') := q
            have dv' : Dv [] H2 v (optD (restIn n y)) := dv
            cases hrd : restIn n y with
            | none =>
              rw [hrd] at q' dv'
              cases dv'
              exact out rfl q'
            | some rd =>
              rw [hrd] at q' dv'
              obtain ⟨hst, hok⟩ := restIn_ok (hl y (List.mem_cons_of_mem _ List.mem_cons_self)) hrd
              have dv2 : Dv [] H2 v rd := dv'
              obtain ⟨t, rfl⟩ : ∃ t, v = .ref t := by
                unfold areStates at hst
                split at hst
                · cases dv2 with
                  | tup h1 h2 h3 => exact ⟨_, rfl⟩
                · cases hst
              refine ⟨_, rfl, rfl, _, rfl, ?_⟩
              rw [show decide (V.ref t = V.non) = false from decide_eq_false (fun z => by cases z)]
              refine iteF ?_
              refine ⟨rfl, _, rfl, _, rfl, 2, rfl, a, _, rfl, SqL.of (kk _ _ ha), fun p hp => ?_⟩
              have k3 : Same H2 (upd H2 p (.lst (cutV ((x :: y :: r).map V.str) (some 2) none))) := same_new hp
              have hp3 : (upd H2 p (.lst (cutV ((x :: y :: r).map V.str) (some 2) none))) p = some (.lst (r.map V.str)) := by
                rw [upd_same]
                exact congrArg (fun z => some (HO.lst z)) (cut_from ((x :: y :: r).map V.str) 2)
              generalize upd H2 p (.lst (cutV ((x :: y :: r).map V.str) (some 2) none)) = H3 at k3 hp3 ⊢
              have q3 : (match actsIn n r 2 [] with
                | .inl j => BadL T H E j
                | .inr acts => ∀ (H' : Hp) (p : Addr), Same H H' → Sto T H' p n acts rd → Q (.ref p) H') := by
                cases hA : actsIn n r 2 [] with
                | inl k => rw [hA] at q'; exact q'
                | inr acts => rw [hA] at q'; exact q'
              rw [List.length_cons, List.length_cons] at h9
              refine ⟨_, rfl, [], p, r, n, 2, rfl, hp3, fun z hz => hl z (List.mem_cons_of_mem _ (List.mem_cons_of_mem _ hz)), by omega, by decide, (fun _ h => nomatch h), ?_⟩
              cases hA : actsIn n r 2 [] with
              | inl k =>
                rw [hA] at q3
                exact fun d H' k' h => q3 d H' (kk.trans (k3.trans k')) h
              | inr acts =>
                rw [hA] at q3
                intro H4 v4 k4 dv4
                have k34 := k3.trans k4
                obtain ⟨h1, h2, h3⟩ := actsIn_ok hA (fun _ h => nomatch h) List.Pairwise.nil
                obtain ⟨A4, asc4⟩ := acts_of n3 h1 h2 (by
                  have e0 : ([] : List Act).length = 0 := rfl
                  omega)
                exact ⟨_, rfl, of_made A4 n1 dv4 (dv2.kp (Kp.of k34)) hst hok asc4 (.refl _) fun H' p' k5 _ st => q3 H' p' (kk.trans (k34.trans k5)) st⟩
end
end K04
set_option Elab.async false
set_option linter.all false
set_option maxRecDepth 100000
set_option maxHeartbeats 4000000
set_option pp.maxSteps 2500
/-! k04: Store.read. -/
namespace K04
open PySem PySem.Spec PyProof.Rows L2 Zg Zr Zd Zv Xu
open TL (tl len_tl ext_tl)
def cutN (x : PySem.Str) : List PySem.Str := Txt.split x "\n"
theorem cutN_part {x p : PySem.Str} (h : p ∈ cutN x) : p.length ≤ x.length := by
  unfold cutN at h
  rw [feed] at h
  exact cut_part (by decide) h
theorem cutN_len (x : PySem.Str) : (cutN x).length ≤ x.length + 1 := by
  unfold cutN
  rw [feed]
  exact cut_len (by decide) x
/-- what a value tells -/
def readD : PyData → Nat ⊕ (Nat × List Act × PyData)
  | .str x => readL (cutN x)
  | _ => .inl 0
section
variable {P : Program} {w : World} {K : PySem.W.Frag} {mg : PySem.Str → Option Value} {base : Heap}
/-- a value of these, its text of at most 640 signs -/
def sml : PyData → Bool
  | .str x => decide (x.length ≤ 640)
  | _ => true
def sp_read (T : Txt K mg) : Sp := fun vs H Q E => ∃ (S : List Addr) (v : V) (d : PyData), vs = [.ref T.C_Store, v] ∧ Dv S H v d ∧ sml d = true ∧
  match readD d with
    | .inl j => BadL T H E j
    | .inr (n, acts, rd) => ∀ (H' : Hp) (p : Addr), Same H H' → Sto T H' p n acts rd → Q (.ref p) H'
theorem ok_Store_read (T : Txt K mg) : FnOk P w K mg base (L2N.CX P w) 12 T.a_Store_read T.d_Store_read P_Store_read (sp_read T) := by
  refine Xv.okXN T.F_Store_read sc_Store_read (fun vs H Q E h => by obtain ⟨S, v, d, rfl, _⟩ := h; rfl) (fun cdv A outer s H vs Q E hr h => ?_)
  refine ⟨_, (pss_cons (ps_if (pt_not (pt_val (pe_callB call_isi (by rfl) T.n_isinstance (by decide +kernel) (pa_cons (pv 1) (pa_cons (pe_bltn (v := .ty "str") (u := .type "str") (by rfl) T.n_str (by decide +kernel) rfl) pa_nil))))) (pss_one (L2N.ps_raise rfl (L2N.takes_of rfl rfl rfl rfl) (Xw.pmk_E T.E_InvalidText.ox T.iC_InvalidText T.tI_InvalidText (ok_InvalidText_init T) (hr.mono (by decide)) T.b_InvalidText_init rfl pass0 rfl T.g_InvalidText (pa_cons pe_int pa_nil)))) pss_nil)
    (pss_one (ps_ret (pe_call (ok_store_of_lines T) (hr.mono (by omega)) (by rfl) T.g_store_of_lines T.F_store_of_lines.kp T.b_store_of_lines .nil (L2N.passes_call (L2N.takes_of rfl rfl rfl rfl) (fun _ _ _ _ h => h)) (pa_cons (pe_split (pv 1) pe_str) pa_nil))))), ?_⟩
  obtain ⟨S, v, d, rfl, hd, hs, q⟩ := h
  refine ⟨_, rfl, v, .ty "str", _, _, _, rfl, .ty _, hd.ty, kit_all K _ (by decide) _ (tyD_mem d), _, rfl, ?_⟩
  by_cases ht : isA "str" d = true
  · obtain ⟨x, rfl, rfl⟩ := hd.text ht
    rw [show isB "str" (tyD (.str x)) = true from rfl]
    have hl : x.length ≤ 640 := of_decide_eq_true hs
    refine iteF ?_
    refine ⟨_, rfl, ⟨_, rfl⟩, x, _, rfl, rfl, rfl, by rw [sizeLine_eq]; omega, fun pw hpw => ?_⟩
    have k1 : Same H (upd H pw (.lst ((cutN x).map V.str))) := same_new hpw
    have hpw1 : (upd H pw (.lst ((cutN x).map V.str))) pw = some (.lst ((cutN x).map V.str)) := upd_same
    refine ⟨pw, cutN x, rfl, hpw1, fun p hp => Nat.le_trans (cutN_part hp) hl, by have := cutN_len x; omega, ?_⟩
    have q' : (match readL (cutN x) with
      | .inl j => BadL T H E j
      | .inr (n, acts, rd) => ∀ (H' : Hp) (p : Addr), Same H H' → Sto T H' p n acts rd → Q (.ref p) H') := q
    cases hA : readL (cutN x) with
    | inl k =>
      rw [hA] at q'
      exact fun d H' k' h => q' d H' (k1.trans k') h
    | inr u =>
      obtain ⟨n, acts, rd⟩ := u
      rw [hA] at q'
      exact fun H' p k' st => q' H' p (k1.trans k') st
  · have ht2 : isB "str" (tyD d) = false := by
      have : isA "str" d = false := by simpa using ht
      exact this
    have e : readD d = .inl 0 := by
      cases d with
      | str x => exact absurd rfl ht
      | _ => rfl
    rw [e] at q
    rw [ht2]
    exact ⟨rfl, raise_line q (Same.refl _)⟩
end
end K04
set_option Elab.async false
set_option linter.all false
set_option maxRecDepth 100000
set_option maxHeartbeats 4000000
set_option pp.maxSteps 2500
/-! k04: the law draws names. -/
namespace K04
open PySem PySem.Spec PyProof.Rows L2 Zg Zr Zd Zv
theorem atI_of {α : Type} {xs : List α} {r : Int} (h0 : 0 ≤ r) (h1 : r < xs.length) : ∃ (h : r.toNat < xs.length), atI xs r = some xs[r.toNat] := by
  have h : r.toNat < xs.length := by omega
  refine ⟨h, ?_⟩
  have q := atI_nat (xs := xs) (j := r.toNat) (v := xs[r.toNat]) (List.getElem?_eq_getElem h)
  have e : ((r.toNat : Nat) : Int) = r := Int.toNat_of_nonneg h0
  rw [e] at q
  exact q
theorem two {w l a : Addr} (h1 : a ≠ w) (h2 : a ≠ l) : a ∉ [w, l] := by
  intro h
  rcases List.mem_cons.mp h with e | h
  · exact h1 e
  · rw [List.mem_singleton] at h
    exact h2 h
theorem Well.ne {H : Hp} {w l p : Addr} {C : Nat} (h : Well H w l C) (n : H p = none) : p ∉ [w, l] := by
  obtain ⟨_, b, c, ns, h1, h2, _⟩ := h
  exact two (fun e => by rw [e, h1] at n; cases n) (fun e => by rw [e, h2] at n; cases n)
/-- a new thing beside the well -/
theorem Well.new {H : Hp} {w l p : Addr} {C : Nat} {o : HO} (h : Well H w l C) (n : p ∉ [w, l]) : Well (upd H p o) w l C := by
  obtain ⟨d, b, c, ns, h1, h2, r⟩ := h
  have n1 : w ≠ p := fun e => n (e ▸ List.mem_cons_self)
  have n2 : l ≠ p := fun e => n (e ▸ List.mem_cons_of_mem _ List.mem_cons_self)
  exact ⟨d, b, c, ns, by rw [upd_ne n1]; exact h1, by rw [upd_ne n2]; exact h2, r⟩
/-- a name as they are drawn -/
def Nm (z : PySem.Str) : Prop := isName (.str z) = true
theorem abc_len : ((("abcdefghijklmnopqrstuvwxyz" : PySem.Str).cps.toList.length : Nat) : Int) = 26 := by decide +kernel
theorem abcw_ok : ∀ c ∈ ("abcdefghijklmnopqrstuvwxyz" : PySem.Str).cps.toList, c < 1114112 := by decide +kernel
theorem sum_onesS : ∀ zs : List PySem.Str, (∀ z ∈ zs, z.length = 1) → (zs.map (·.length)).sum = zs.length
  | [], _ => rfl
  | z :: r, h => by
    rw [List.map_cons, List.sum_cons, h z List.mem_cons_self, sum_onesS r fun y hy => h y (List.mem_cons_of_mem _ hy), List.length_cons]
    omega
theorem cps_append (x y : PySem.Str) : (x ++ y).cps.toList = x.cps.toList ++ y.cps.toList := by
  show (x.cps ++ y.cps).toList = _
  rw [Array.toList_append]
theorem abc_join : ∀ zs : List PySem.Str, (∀ z ∈ zs, ∀ c ∈ z.cps.toList, c ∈ ABC) → ∀ c ∈ (PySem.Str.join "" zs).cps.toList, c ∈ ABC
  | [], _ => by
    intro c hc
    have : (PySem.Str.join "" []).cps.toList = [] := by decide +kernel
    rw [this] at hc
    cases hc
  | [x], h => h x List.mem_cons_self
  | x :: y :: r, h => by
    intro c hc
    have e : (PySem.Str.join "" (x :: y :: r)) = (x ++ "") ++ PySem.Str.join "" (y :: r) := rfl
    rw [e, cps_append, cps_append] at hc
    rcases List.mem_append.mp hc with hc | hc
    · rcases List.mem_append.mp hc with hc | hc
      · exact h x List.mem_cons_self c hc
      · have : (("" : PySem.Str)).cps.toList = [] := by decide +kernel
        rw [this] at hc
        cases hc
    · exact abc_join (y :: r) (fun z hz => h z (List.mem_cons_of_mem _ hz)) c hc
theorem join_len1 : ∀ zs : List PySem.Str, (∀ z ∈ zs, z.length = 1) → (PySem.Str.join "" zs).length = zs.length
  | [], _ => by decide +kernel
  | [x], h => h x List.mem_cons_self
  | x :: y :: r, h => by
    have e : (PySem.Str.join "" (x :: y :: r)) = (x ++ "") ++ PySem.Str.join "" (y :: r) := rfl
    have l : ∀ a b : PySem.Str, (a ++ b).length = a.length + b.length := fun a b => by
      show (a.cps ++ b.cps).size = _
      rw [Array.size_append]
      rfl
    rw [e, l, l, join_len1 (y :: r) fun z hz => h z (List.mem_cons_of_mem _ hz), h x List.mem_cons_self]
    have : (("" : PySem.Str)).length = 0 := by decide +kernel
    rw [this, List.length_cons, List.length_cons, List.length_cons]
    omega
section
variable {P : Program} {w : World} {K : PySem.W.Frag} {mg : PySem.Str → Option Value} {base : Heap}
def sp_one_of (K : PySem.W.Frag) : Sp := fun vs H Q _ => ∃ (w l a : Addr) (xs : List V) (C : Nat), vs = [.ref w, .ref a] ∧ Well H w l C ∧ C < LIM ∧ a ∉ [w, l] ∧ SqL K H a xs ∧ 0 < xs.length ∧ xs.length ≤ 1000000 ∧
  ∀ (H' : Hp) (i : Nat) (h : i < xs.length), Kp [w, l] H H' → Well H' w l (C + 1) → Q xs[i] H'
theorem ok_one_of (T : Txt K mg) : FnOk P w K mg base CX0 2 T.a_one_of T.d_one_of P_one_of (sp_one_of K) := by
  refine T.F_one_of.ok sc_one_of (fun vs H Q E h => by obtain ⟨w, l, a, xs, C, rfl, _⟩ := h; rfl) (fun cdv A outer s H vs Q E hr h => ?_)
  refine ⟨_, (pss_one (ps_ret (pe_ix ix_list (pv 1) (pe_call (ok_drawn T) (hr.mono (by decide)) (by rfl) T.g_drawn T.F_drawn.kp T.b_drawn .nil pass0 (pa_cons (pv 0) (pa_cons (pe_callB call_len_seq (by rfl) T.n_len (by decide +kernel) (pa_cons (pv 1) pa_nil)) pa_nil))) (fun _ _ => rfl)))), ?_⟩
  obtain ⟨w, l, a, xs, C, rfl, hW, hC, ha, hS, h0, h1, q⟩ := h
  refine ⟨_, rfl, _, rfl, _, rfl, a, _, rfl, .inl hS, w, l, _, C, rfl, hW, hC, by omega, by omega, fun H' r k hW' r0 r1 => ?_⟩
  obtain ⟨hi, e⟩ := atI_of r0 r1
  exact ⟨a, xs, r, _, rfl, rfl, k.seq ha hS, e, q H' _ hi k hW'⟩
def sp_name : Sp := fun vs H Q _ => ∃ (w l : Addr) (C : Nat), vs = [.ref w] ∧ Well H w l C ∧ C + 10 < LIM ∧
  ∀ (H' : Hp) (z : PySem.Str), Kp [w, l] H H' → Well H' w l (C + 10) → Nm z → Q (.str z) H'
theorem ok_name (T : Txt K mg) : FnOk P w K mg base CX0 3 T.a_name T.d_name P_name sp_name := by
  refine T.F_name.ok sc_name (fun vs H Q E h => by obtain ⟨w, l, C, rfl, _⟩ := h; rfl) (fun cdv A outer s H vs Q E hr h => ?_)
  refine ⟨_, (pss_cons (ps_if (pt_cmpR op_eq (pe_call (ok_drawn T) (hr.mono (by decide)) (by rfl) T.g_drawn T.F_drawn.kp T.b_drawn .nil pass0 (pa_cons (pv 0) (pa_cons pe_int pa_nil))) pe_int (nomark _)) (pss_one (ps_ret (pe_call (ok_one_of T) (hr.mono (by decide)) (by rfl) T.g_one_of T.F_one_of.kp T.b_one_of .nil pass0 (pa_cons (pv 0) (pa_cons (pe_lst (pa_cons pe_str (pa_cons pe_str (pa_cons pe_str (pa_cons pe_str (pa_cons pe_str (pa_cons pe_str (pa_cons pe_str (pa_cons pe_str pa_nil))))))))) pa_nil))))) pss_nil)
    (pss_cons (ps_set (i := 1) sc_name.nd rfl (Or.inl rfl) (pe_call (ok_one_of T) (hr.mono (by decide)) (by rfl) T.g_one_of T.F_one_of.kp T.b_one_of .nil pass0 (pa_cons (pv 0) (pa_cons (pe_lst (pa_cons pe_int (pa_cons pe_int (pa_cons pe_int (pa_cons pe_int pa_nil))))) pa_nil))))
    (pss_one (ps_ret (pe_join pe_str (pe_lc (own := [("k", 2)]) rfl sc_name.nd (pi_range1 (by rfl) T.n_range (pa_cons (pv 1) pa_nil)) (blkOk_by (own := [("k", 2)]) (N := N_name) (sc := defScope s_name) (by decide +kernel)) (fun _ _ _ _ _ => (pg_name (i := 2) sc_name.nd rfl (Or.inl rfl))) (fun _ _ _ _ _ => pts_nil) (fun _ _ _ _ _ => (pe_ix ix_str pe_str (pe_call (ok_drawn T) (hr.mono (by decide)) (by rfl) T.g_drawn T.F_drawn.kp T.b_drawn .nil pass0 (pa_cons (pv 0) (pa_cons pe_int pa_nil))) (fun _ _ => rfl))))))))), ?_⟩
  obtain ⟨w, l, C, rfl, hW, hC, q⟩ := h
  refine ⟨_, rfl, w, l, 3, C, rfl, hW, by omega, by decide, by decide, fun H0 r0 k0 hW0 _ _ => ⟨rfl, _, rfl, ite2 (fun _ => ?_) fun _ => ?_⟩⟩
  · refine ⟨_, rfl, by show 8 ≤ sizeLine; decide, fun p hp => ?_⟩
    have np := hW0.ne hp
    refine ⟨w, l, p, [.str "size", .str "resting", .str "action", .str "a", .str "z", .str "external", .str "define", .str "aa"], C + 1, rfl, hW0.new np, by omega, np, SqL.of upd_same, by show 0 < 8; decide, by show 8 ≤ 1000000; decide, fun H1 i hi k1 hW1 => ?_⟩
    obtain ⟨z, ez, hz⟩ : ∃ z, ([.str "size", .str "resting", .str "action", .str "a", .str "z", .str "external", .str "define", .str "aa"] : List V)[i] = .str z ∧ Nm z := by
      have hi' : i < 8 := hi
      match i, hi' with
      | 0, _ => exact ⟨_, rfl, (by decide +kernel : isName (.str "size") = true)⟩
      | 1, _ => exact ⟨_, rfl, (by decide +kernel : isName (.str "resting") = true)⟩
      | 2, _ => exact ⟨_, rfl, (by decide +kernel : isName (.str "action") = true)⟩
      | 3, _ => exact ⟨_, rfl, (by decide +kernel : isName (.str "a") = true)⟩
      | 4, _ => exact ⟨_, rfl, (by decide +kernel : isName (.str "z") = true)⟩
      | 5, _ => exact ⟨_, rfl, (by decide +kernel : isName (.str "external") = true)⟩
      | 6, _ => exact ⟨_, rfl, (by decide +kernel : isName (.str "define") = true)⟩
      | 7, _ => exact ⟨_, rfl, (by decide +kernel : isName (.str "aa") = true)⟩
    rw [ez]
    exact q H1 z (k0.trans ((Kp.new hp).trans k1)) (hW1.mono (by omega)) hz
  refine ⟨_, rfl, by show 4 ≤ sizeLine; decide, fun p hp => ?_⟩
  have np := hW0.ne hp
  refine ⟨w, l, p, [.int 1, .int 2, .int 3, .int 8], C + 1, rfl, hW0.new np, by omega, np, SqL.of upd_same, by show 0 < 4; decide, by show 4 ≤ 1000000; decide, fun H1 i hi k1 hW1 => ?_⟩
  obtain ⟨m, em, m1, m8⟩ : ∃ m : Int, ([V.int 1, .int 2, .int 3, .int 8] : List V)[i] = .int m ∧ 1 ≤ m ∧ m ≤ 8 := by
    have hi' : i < 4 := hi
    match i, hi' with
    | 0, _ | 1, _ | 2, _ | 3, _ => exact ⟨_, rfl, by decide, by decide⟩
  rw [em]
  have k1 := k0.trans ((Kp.new hp).trans k1)
  refine ⟨⟨_, rfl⟩, _, rfl, _, rfl, by omega, by omega, fun D hD => ?_⟩
  have nD := hW1.ne hD
  refine lc_range (lo := 0) (n := m.toNat) (fun i H' => ∃ zs : List PySem.Str, zs.length = i ∧ (∀ z ∈ zs, z.length = 1 ∧ ∀ c ∈ z.cps.toList, c ∈ ABC) ∧ H' D = some (.lst (zs.map V.str)) ∧ Kp [w, l] H1 H' ∧ Well H' w l (C + 2 + i))
    ⟨[], rfl, (fun z hz => nomatch hz), upd_same, Kp.new hD, hW1.new nD⟩ ?_ ?_
  · rintro i H' hi ⟨zs, hzl, hz, hHD, k', hW'⟩
    refine ⟨rfl, ?_⟩
    refine ⟨_, rfl, w, l, 26, C + 2 + i, rfl, hW', by omega, by decide, by decide, fun H4 r4 k4 hW4 r40 r41 => ?_⟩
    obtain ⟨hi4, e4⟩ := atI_of (xs := ("abcdefghijklmnopqrstuvwxyz" : PySem.Str).cps.toList) (r := r4) r40 (by rw [abc_len]; exact r41)
    refine ⟨_, _, _, rfl, rfl, by rw [sizeLine_eq]; decide +kernel, e4, zs.map V.str, k4 _ _ nD hHD, by rw [List.length_map, sizeLine_eq]; omega, zs ++ [⟨#[("abcdefghijklmnopqrstuvwxyz" : PySem.Str).cps.toList[r4.toNat]]⟩], ?_, ?_, ?_, ?_, ?_⟩
    · rw [List.length_append, List.length_singleton, hzl]
    · intro z hzm
      rcases List.mem_append.mp hzm with h | h
      · exact hz z h
      · rw [List.mem_singleton] at h
        subst h
        refine ⟨rfl, fun c hc => ?_⟩
        have hc' : c = ("abcdefghijklmnopqrstuvwxyz" : PySem.Str).cps.toList[r4.toNat] := by simpa using hc
        rw [hc']
        exact List.getElem_mem hi4
    · rw [upd_same, List.map_append]
      rfl
    · exact (k'.trans k4).wr (.inr hD)
    · exact (hW4.mono (by omega)).new nD
  · rintro H' ⟨zs, hzl, hz, hHD, k', hW'⟩
    have h8 : zs.length ≤ 8 := by omega
    have hsum : (zs.map (·.length)).sum = zs.length := sum_onesS zs fun z h => (hz z h).1
    refine ⟨_, D, zs, rfl, rfl, .inl (SqL.of hHD), ?_, ?_⟩
    · rw [hsum]
      show zs.length + zs.length * 0 ≤ 16777216
      omega
    · refine q H' _ (k1.trans k') (hW'.mono (by omega)) ?_
      show (decide _ && decide _ && _) = true
      rw [TL.join_eq]
      have q2 := join_len1 zs fun z h => (hz z h).1
      rw [q2, decide_eq_true (by omega), decide_eq_true (by omega), List.all_eq_true.mpr fun c hc => decide_eq_true (abc_join zs (fun z h => (hz z h).2) c hc)]
      rfl
end
end K04
set_option Elab.async false
set_option linter.all false
set_option maxRecDepth 100000
set_option maxHeartbeats 4000000
set_option pp.maxSteps 2500
/-! k04: a drawn store. -/
namespace K04
open PySem PySem.Spec PyProof.Rows L2 Zg Zr Zd Zv
theorem dv_act {S : List Addr} {H : Hp} {p t : Addr} {z : PySem.Str} {ms : List (Option Nat)} (hp : H p = some (.tup [.str z, .ref t])) (np : p ∉ S) (ht : H t = some (.tup (ms.map mvV))) (nt : t ∉ S) : Dv S H (.ref p) (actD (z, ms)) := by
  have h : ∀ ms : List (Option Nat), DvAll S H (ms.map mvV) (ms.map mvD) := fun ms => by
    induction ms with
    | nil => exact .nil
    | cons m ms ih =>
      refine .cons ?_ ih
      cases m with
      | none => exact .non
      | some k => exact .int _
  exact .tup hp np (.cons (.str _) (.cons (.tup ht nt (h ms)) .nil))
theorem asc_pw : ∀ l : List Nat, l.Pairwise (· < ·) → asc (l.map fun k : Nat => (k : Int)) = true
  | [], _ => rfl
  | [_], _ => rfl
  | a :: b :: r, h => by
    have h1 := (List.pairwise_cons.mp h).1 b List.mem_cons_self
    show (decide ((a : Int) < (b : Int)) && asc ((b :: r).map fun k : Nat => (k : Int))) = true
    rw [decide_eq_true (by omega), asc_pw (b :: r) (List.pairwise_cons.mp h).2]
    rfl
theorem pw_len {n : Nat} {zs : List Nat} (h : zs.Pairwise (· < ·)) (hl : ∀ z ∈ zs, z < n) : zs.length ≤ n := nodup_len (h.imp fun h e => absurd (e ▸ h) (Nat.lt_irrefl _)) hl
theorem restD_eq (rs : List Nat) : restD rs = .tuple (rs.map fun k => .int (k : Nat)) := by
  unfold restD
  rw [List.map_map]
  rfl
theorem rests_st {n : Nat} {zs : List Nat} (h : zs.Pairwise (· < ·)) (hl : ∀ z ∈ zs, z < n) : areStates n (restD zs) = true := by
  rw [restD_eq]
  show ((zs.map fun k => PyData.int (k : Nat)).all (isSt n) && asc ((zs.map fun k => PyData.int (k : Nat)).map intOf)) = true
  have e : (zs.map fun k => PyData.int (k : Nat)).map intOf = zs.map fun k : Nat => (k : Int) := by
    rw [List.map_map]
    rfl
  rw [e, asc_pw zs h, Bool.and_true, List.all_eq_true]
  intro d hd
  obtain ⟨z, hz, rfl⟩ := List.mem_map.mp hd
  have := hl z hz
  show (decide ((0 : Int) ≤ (z : Int)) && decide ((z : Int) < (n : Int))) = true
  rw [decide_eq_true (by omega), decide_eq_true (by omega)]
  rfl
theorem mem_putK {kvs : List (Key × V)} {k : Key} {v : V} {kv : Key × V} (h : kv ∈ putK kvs k v) : kv ∈ kvs ∨ kv = (k, v) := by
  unfold putK at h
  split at h
  · obtain ⟨x, hx, rfl⟩ := List.mem_map.mp h
    by_cases e : x.1 = k
    · rw [if_pos e]
      exact .inr (by rw [← e])
    · rw [if_neg e]
      exact .inl hx
  · rcases List.mem_append.mp h with h | h
    · exact .inl h
    · exact .inr (List.mem_singleton.mp h)
theorem putK_keys {kvs : List (Key × V)} {ks : List PySem.Str} {z : PySem.Str} {v : V} (e : kvs.map (·.1) = ks.map Sum.inr) : (putK kvs (.inr z) v).map (·.1) = (if z ∈ ks then ks else ks ++ [z]).map Sum.inr := by
  have iff : (kvs.any fun kv => decide (kv.1 = (.inr z : Key))) = true ↔ z ∈ ks := by
    rw [List.any_eq_true]
    constructor
    · rintro ⟨x, hx, h⟩
      have : x.1 ∈ ks.map (Sum.inr : PySem.Str → Key) := by
        rw [← e]
        exact List.mem_map.mpr ⟨x, hx, rfl⟩
      obtain ⟨y, hy, h2⟩ := List.mem_map.mp this
      have h3 : (.inr y : Key) = .inr z := h2.trans (of_decide_eq_true h)
      injection h3 with h3
      rw [← h3]
      exact hy
    · intro h
      have : (.inr z : Key) ∈ kvs.map (·.1) := by
        rw [e]
        exact List.mem_map.mpr ⟨z, h, rfl⟩
      obtain ⟨x, hx, h2⟩ := List.mem_map.mp this
      exact ⟨x, hx, decide_eq_true h2⟩
  unfold putK
  by_cases h : z ∈ ks
  · rw [if_pos (iff.mpr h), if_pos h, ← e, List.map_map]
    refine List.map_congr_left fun x _ => ?_
    show (if x.1 = .inr z then (x.1, v) else x).1 = x.1
    split <;> rfl
  · rw [if_neg (fun q => h (iff.mp q)), if_neg h, List.map_append, e, List.map_append]
    rfl
theorem keyed {kvs : List (Key × V)} {ks : List PySem.Str} (e : kvs.map (·.1) = ks.map Sum.inr) {z : PySem.Str} (h : z ∈ ks) : ∃ kv ∈ kvs, valV kvs (.inr z) = some kv.2 := by
  have hm : (.inr z : Key) ∈ kvs.map (·.1) := by
    rw [e]
    exact List.mem_map.mpr ⟨z, h, rfl⟩
  cases q : valV kvs (.inr z) with
  | none => exact absurd hm (valV_not q)
  | some v =>
    unfold valV at q
    cases f : kvs.find? (fun kv => decide (kv.1 = (.inr z : Key))) with
    | none => rw [f] at q; cases q
    | some kv =>
      rw [f] at q
      exact ⟨kv, List.mem_of_find?_eq_some f, by rw [← q]; rfl⟩
def mvDr (n j : Nat) : Option Nat := if j = n then none else some j
section
variable {P : Program} {w : World} {K : PySem.W.Frag} {mg : PySem.Str → Option Value} {base : Heap}
/-- the moves in a dict -/
def Vls (H : Hp) (n : Nat) (S : List Addr) (kvs : List (Key × V)) : Prop := ∀ kv ∈ kvs, ∃ (t : Addr) (ms : List (Option Nat)), kv.2 = .ref t ∧ t ∉ S ∧ H t = some (.tup (ms.map mvV)) ∧ ms.length = n ∧ Low n ms
theorem Vls.kp {H H' : Hp} {n : Nat} {S S' : List Addr} {kvs : List (Key × V)} (h : Vls H n S kvs) (k : Kp S' H H') (hs : ∀ a ∈ S', a ∈ S) : Vls H' n S kvs := fun kv m => by
  obtain ⟨t, ms, e, nt, ht, r⟩ := h kv m
  exact ⟨t, ms, e, nt, k _ _ (fun z => nt (hs _ z)) ht, r⟩
def sp_store : Sp := fun vs H Q _ => ∃ (w l : Addr) (C : Nat), vs = [.ref w] ∧ Well H w l C ∧ C + 120 < LIM ∧
  ∀ (H' : Hp) (p a b : Addr) (n : Nat) (acts : List Act) (rs : List Nat), Kp [w, l] H H' → Well H' w l (C + 120) → p ∉ [w, l] → H' p = some (.lst [.int (n : Nat), .ref a, .ref b]) → Dv [w, l] H' (.ref a) (.tuple (acts.map actD)) → Dv [w, l] H' (.ref b) (restD rs) → Acts n acts → Asc acts → acts.length ≤ 6 → 1 ≤ n →
    areStates n (restD rs) = true → okw (restD rs) = true → rs.length ≤ 3 → Q (.ref p) H'
theorem ok_store (T : Txt K mg) : FnOk P w K mg base CX0 4 T.a_store T.d_store P_store sp_store := by
  refine T.F_store.ok sc_store (fun vs H Q E h => by obtain ⟨w, l, C, rfl, _⟩ := h; rfl) (fun cdv A outer s H vs Q E hr h => ?_)
  refine ⟨_, (pss_cons (ps_asg (pe_tup (pa_cons (pe_op op_add pe_int (pe_call (ok_drawn T) (hr.mono (by decide)) (by rfl) T.g_drawn T.F_drawn.kp T.b_drawn .nil pass0 (pa_cons (pv 0) (pa_cons pe_int pa_nil)))) (pa_cons pe_dnewK pa_nil))) (pg_tup (by rfl) (pgs_cons (pg_name (i := 1) sc_store.nd rfl (Or.inr rfl)) (pgs_cons (pg_name (i := 2) sc_store.nd rfl (Or.inr rfl)) pgs_nil))))
    (pss_cons (ps_for PassesOwn.never rfl (pi_range1 (by rfl) T.n_range (pa_cons (pe_call (ok_drawn T) (hr.mono (by decide)) (by rfl) T.g_drawn T.F_drawn.kp T.b_drawn .nil pass0 (pa_cons (pv 0) (pa_cons pe_int pa_nil))) pa_nil)) (pg_name (i := 3) sc_store.nd rfl (Or.inl rfl)) (pss_cons (ps_setLc (i := 4) (own := [("state", 5)]) rfl sc_store.nd rfl rfl (sw_true rfl rfl rfl (by decide +kernel)) (pi_range1 (by rfl) T.n_range (pa_cons (pv 1) pa_nil)) (blkOk_by (own := [("state", 5)]) (N := N_store) (sc := defScope s_store) (by decide +kernel)) (fun _ _ _ _ _ => (pg_name (i := 5) sc_store.nd rfl (Or.inl rfl))) (fun _ _ _ _ _ => pts_nil) (fun _ _ _ _ _ => (pe_call (ok_drawn T) (hr.mono (by decide)) (by rfl) T.g_drawn T.F_drawn.kp T.b_drawn .nil pass0 (pa_cons (pv 0) (pa_cons (pe_op op_add (pv 1) pe_int) pa_nil)))))
    (pss_one (ps_dput (hu_of hr) (pv 2) (pe_call (ok_name T) (hr.mono (by decide)) (by rfl) T.g_name T.F_name.kp T.b_name .nil pass0 (pa_cons (pv 0) pa_nil)) (pe_callTy call_tuple_of (by rfl) T.n_tuple (by decide +kernel) (pa_cons (pe_lc (own := [("then", 6)]) rfl sc_store.nd (pi_list (pv 4)) (blkOk_by (own := [("then", 6)]) (N := N_store) (sc := defScope s_store) (by decide +kernel)) (fun _ _ _ _ _ => (pg_name (i := 6) sc_store.nd rfl (Or.inl rfl))) (fun _ _ _ _ _ => pts_nil) (fun _ _ _ _ _ => (pe_ifExp (pt_cmpR op_eq (pv 6) (pv 1) (nomark _)) pe_non (pv 6)))) pa_nil)) rfl))))
    (pss_cons (ps_set (i := 7) sc_store.nd rfl (Or.inl rfl) (pe_callTy call_tuple_of (by rfl) T.n_tuple (by decide +kernel) (pa_cons (pe_lc (own := [("state", 5)]) rfl sc_store.nd (pi_range1 (by rfl) T.n_range (pa_cons (pv 1) pa_nil)) (blkOk_by (own := [("state", 5)]) (N := N_store) (sc := defScope s_store) (by decide +kernel)) (fun _ _ _ _ _ => (pg_name (i := 5) sc_store.nd rfl (Or.inl rfl))) (fun _ _ _ _ _ => (pts_one (pt_cmpR op_eq (pe_call (ok_drawn T) (hr.mono (by decide)) (by rfl) T.g_drawn T.F_drawn.kp T.b_drawn .nil pass0 (pa_cons (pv 0) (pa_cons pe_int pa_nil))) pe_int (nomark _)))) (fun _ _ _ _ _ => (pv 5))) pa_nil)))
    (pss_one (ps_ret (pe_lst (pa_cons (pv 1) (pa_cons (pe_callTy call_tuple_of (by rfl) T.n_tuple (by decide +kernel) (pa_cons (pe_lc (own := [("name", 8)]) rfl sc_store.nd (pi_list (pe_callB (call_sortedD rfl) (by rfl) T.n_sorted (by decide +kernel) (pa_cons (pv 2) pa_nil))) (blkOk_by (own := [("name", 8)]) (N := N_store) (sc := defScope s_store) (by decide +kernel)) (fun _ _ _ _ _ => (pg_name (i := 8) sc_store.nd rfl (Or.inl rfl))) (fun _ _ _ _ _ => pts_nil) (fun _ _ _ _ _ => (pe_tup (pa_cons (pv 8) (pa_cons (pe_dget (hu_of hr) (pv 2) (pv 8) (fun _ _ => rfl)) pa_nil))))) pa_nil)) (pa_cons (pv 7) pa_nil))))))))), ?_⟩
  obtain ⟨w, l, C, rfl, hW, hC, q⟩ := h
  refine ⟨_, rfl, w, l, 3, C, rfl, hW, by omega, by decide, by decide, fun H1 r k1 hW1 r0 r1 => ⟨_, _, rfl, rfl, fun D hD => ?_⟩⟩
  obtain ⟨j, rfl⟩ := Int.eq_ofNat_of_zero_le r0
  obtain ⟨n, hn, n1, n3⟩ : ∃ n : Nat, (1 : Int) + (j : Int) = (n : Nat) ∧ 1 ≤ n ∧ n ≤ 3 := ⟨j + 1, by omega, by omega, by omega⟩
  refine ⟨by show 2 ≤ sizeLine; decide, fun p0 hp0 => ⟨p0, [.int (n : Nat), .ref D], rfl, SqT.of (by rw [← hn]; exact upd_same), rfl, _, _, rfl, _, _, rfl, rfl, ?_⟩⟩
  have nD := hW1.ne hD
  have hDH : H D = none := k1.free nD hD
  have k2 : Kp [w, l] H (upd (upd H1 D (.dK [])) p0 (.tup [.int (1 + (j : Int)), .ref D])) := (k1.trans (Kp.new hD)).trans (Kp.of (same_new hp0))
  have hW2 : Well (upd (upd H1 D (.dK [])) p0 (.tup [.int (1 + (j : Int)), .ref D])) w l (C + 1) := (hW1.new nD).same (same_new hp0)
  have hD2 : (upd (upd H1 D (.dK [])) p0 (.tup [.int (1 + (j : Int)), .ref D])) D = some (.dK []) := same_new hp0 _ _ upd_same
  generalize upd (upd H1 D (.dK [])) p0 (.tup [.int (1 + (j : Int)), .ref D]) = H2 at k2 hW2 hD2 ⊢
  refine ⟨_, rfl, w, l, 7, C + 1, rfl, hW2, by omega, by decide, by decide, fun H3 r3 k3 hW3 r30 r31 => ?_⟩
  have k03 := k2.trans k3
  have hD3 := k3 _ _ nD hD2
  refine ⟨r3, rfl, by omega, by omega, for_range (lo := 0) (n := r3.toNat) (fun i σ H' => ∃ (y3 y4 : Option V) (kvs : List (Key × V)) (ks : List PySem.Str), σ = [some (.ref w), some (.int (n : Nat)), some (.ref D), y3, y4, none, none, none, none] ∧ Kp [w, l] H H' ∧ Well H' w l (C + 2 + i * 15) ∧ H' D = some (.dK kvs) ∧ kvs.map (·.1) = ks.map Sum.inr ∧ ks.Nodup ∧ ks.length ≤ i ∧ (∀ z ∈ ks, Nm z) ∧ Vls H' n [D, w, l] kvs)
    ⟨none, none, [], [], rfl, k03, hW3, hD3, rfl, List.nodup_nil, Nat.le_refl 0, (fun z h => nomatch h), (fun z h => nomatch h)⟩ ?_ ?_⟩
  · rintro i σ H4 hi ⟨y3, y4, kvs, ks, rfl, k4, hW4, hD4, ek, nd, kl, nms, vl⟩
    have hi6 : i < 6 := by omega
    refine ⟨_, rfl, _, rfl, by omega, by omega, fun D4 hD4' => ?_⟩
    have nD4 := hW4.ne hD4'
    refine lc_range (lo := 0) (n := ((n : Nat) : Int).toNat) (fun j H' => ∃ js : List Nat, js.length = j ∧ (∀ x ∈ js, x ≤ n) ∧ H' D4 = some (.lst (js.map fun x : Nat => V.int (x : Nat))) ∧ Kp [w, l] H4 H' ∧ Well H' w l (C + 2 + i * 15 + j))
      ⟨[], rfl, (fun x h => nomatch h), upd_same, Kp.new hD4', hW4.new nD4⟩ ?_ ?_
    · rintro j H5 hj ⟨js, jl, jle, hDl, k5, hW5⟩
      rw [Int.toNat_natCast] at hj
      refine ⟨rfl, ?_⟩
      refine ⟨_, rfl, _, rfl, _, _, rfl, rfl, w, l, (n : Int) + 1, C + 2 + i * 15 + j, rfl, hW5, by omega, by omega, by omega, fun H6 t k6 hW6 t0 t1 => ?_⟩
      obtain ⟨x, rfl⟩ := Int.eq_ofNat_of_zero_le t0
      refine ⟨_, k6 _ _ nD4 hDl, by rw [List.length_map, sizeLine_eq]; omega, js ++ [x], by rw [List.length_append, jl]; rfl, fun y hy => ?_, by rw [upd_same, List.map_append]; rfl, (k5.trans k6).wr (.inr hD4'), (hW6.mono (by omega)).new nD4⟩
      rcases List.mem_append.mp hy with hy | hy
      · exact jle y hy
      · rw [List.mem_singleton.mp hy]
        omega
    · rintro H5 ⟨js, jl, jle, hDl, k5, hW5⟩
      rw [Int.toNat_natCast] at jl hW5
      have k05 := k4.trans k5
      refine ⟨_, rfl, D4, rfl, ⟨_, SqL.of hDl⟩, fun D6 hD6 => ?_⟩
      have nD6 := hW5.ne hD6
      refine lc_list (K := K) (a := D4) (xs := js.map fun x : Nat => V.int (x : Nat)) (fun i H' => Same H5 H' ∧ H' D6 = some (.lst (((js.take i).map (mvDr n)).map mvV))) ⟨same_new hD6, upd_same⟩ (fun i H' _ p => SqL.of (p.1 _ _ hDl)) ?_ ?_
      · rintro i' y H6 hi' ⟨k6, hDl6⟩
        obtain ⟨x, hx, rfl⟩ : ∃ x, js[i']? = some x ∧ y = V.int (x : Nat) := by
          rw [List.getElem?_map] at hi'
          cases e : js[i']? with
          | none => rw [e] at hi'; cases hi'
          | some x => rw [e] at hi'; exact ⟨x, rfl, (Option.some.inj hi').symm⟩
        have put : ∀ v : V, v = mvV (mvDr n x) → ∃ acc, H6 D6 = some (.lst acc) ∧ acc.length < sizeLine ∧ Same H5 (upd H6 D6 (.lst (acc ++ [v]))) ∧ (upd H6 D6 (.lst (acc ++ [v]))) D6 = some (.lst (((js.take (i' + 1)).map (mvDr n)).map mvV)) := fun v ev => by
          refine ⟨_, hDl6, ?_, fun b o eb => ?_, ?_⟩
          · rw [List.length_map, List.length_map, List.length_take, sizeLine_eq]
            omega
          · rw [upd_ne (ne_of_none eb hD6)]
            exact k6 _ _ eb
          · rw [upd_same, List.take_succ, hx, List.map_append, List.map_append, ev]
            rfl
        refine ⟨rfl, _, rfl, _, rfl, rfl, _, rfl, ite2 (fun e => ?_) fun e => ?_⟩
        · refine put _ ?_
          have := of_decide_eq_true e
          unfold mvDr
          rw [if_pos (by injection this with z; omega)]
          rfl
        · refine ⟨_, rfl, put _ ?_⟩
          unfold mvDr
          rw [if_neg (fun z => e (decide_eq_true (by rw [z])))]
          rfl
      · rintro H6 ⟨k6, hDl6⟩
        rw [List.length_map, List.take_length] at hDl6
        refine ⟨D6, _, rfl, .inl ⟨SqL.of hDl6, fun t ht => ?_⟩⟩
        have sub2 : ∀ a ∈ [w, l], a ∈ [D, w, l] := fun a h => List.mem_cons_of_mem _ h
        have k7 : Same H6 (upd H6 t (.tup (((js.map (mvDr n))).map mvV))) := same_new ht
        have hW7 := (hW5.same k6).same k7
        have k57 : Same H5 (upd H6 t (.tup (((js.map (mvDr n))).map mvV))) := k6.trans k7
        have ht7 : (upd H6 t (.tup (((js.map (mvDr n))).map mvV))) t = some (.tup (((js.map (mvDr n))).map mvV)) := upd_same
        have nt : t ∉ [D, w, l] := fun h => by
          rcases List.mem_cons.mp h with h | h
          · rw [h, k6 _ _ (k5 _ _ nD hD4)] at ht
            cases ht
          · exact (hW5.same k6).ne ht h
        generalize upd H6 t (.tup (((js.map (mvDr n))).map mvV)) = H7 at k7 hW7 k57 ht7 ⊢
        have k07 := k05.trans (Kp.of k57)
        have hD7 := k57 _ _ (k5 _ _ nD hD4)
        have vl7 : Vls H7 n [D, w, l] kvs := (vl.kp k5 sub2).kp (Kp.of (S := []) k57) (fun a h => nomatch h)
        refine ⟨_, rfl, _, rfl, w, l, C + 2 + i * 15 + n, rfl, hW7, by omega, fun H8 z k8 hW8 hz => ?_⟩
        have hD8 := k8 _ _ nD hD7
        have kvl : kvs.length ≤ i := by
          have := congrArg List.length ek
          rw [List.length_map, List.length_map] at this
          omega
        refine ⟨D, _, rfl, DPut.k (k := .inr z) hD8 (by rw [sizeLine_eq]; omega), _, _, putK kvs (.inr z) (.ref t), if z ∈ ks then ks else ks ++ [z], rfl, (k07.trans k8).wr (.inr hDH), (hW8.new nD).mono (by omega), upd_same, putK_keys ek, ?_, ?_, ?_, ?_⟩
        · split
          · exact nd
          · rename_i hz'
            exact nd_snoc nd hz'
        · split
          · omega
          · rw [List.length_append]
            exact Nat.succ_le_succ kl
        · intro y hy
          split at hy
          · exact nms y hy
          · rcases List.mem_append.mp hy with hy | hy
            · exact nms y hy
            · rw [List.mem_singleton.mp hy]
              exact hz
        · have kS : Kp [D, w, l] H8 (upd H8 D (.dK (putK kvs (.inr z) (.ref t)))) := (Kp.refl _ _).wr (.inl List.mem_cons_self)
          have vl8 := (vl7.kp k8 sub2).kp kS fun a h => h
          intro kv hkv
          rcases mem_putK hkv with hkv | rfl
          · exact vl8 kv hkv
          · refine ⟨t, js.map (mvDr n), rfl, nt, kS _ _ nt (k8 _ _ (fun h => nt (sub2 _ h)) ht7), by rw [List.length_map, jl], ?_⟩
            intro m hm k ek
            obtain ⟨x, hx, rfl⟩ := List.mem_map.mp hm
            have := jle x hx
            unfold mvDr at ek
            split at ek
            · cases ek
            · rename_i hne
              injection ek with ek
              omega
  · rintro σ H4 ⟨y3, y4, kvs, ks, rfl, k4, hW4, hD4, ek, nd, kl, nms, vl⟩
    have hr6 : r3.toNat ≤ 6 := by omega
    refine ⟨_, rfl, _, rfl, by omega, by omega, fun D3 hD3 => ?_⟩
    have nD3 := hW4.ne hD3
    refine lc_range (lo := 0) (n := ((n : Nat) : Int).toNat) (fun j H' => ∃ zs : List Nat, Kp [w, l] H4 H' ∧ Well H' w l (C + 2 + r3.toNat * 15 + j) ∧ H' D3 = some (.lst (zs.map fun k => V.int (k : Nat))) ∧ zs.Pairwise (· < ·) ∧ ∀ z ∈ zs, z < j)
      ⟨[], Kp.new hD3, hW4.new nD3, upd_same, List.Pairwise.nil, fun z h => nomatch h⟩ ?_ ?_
    · rintro j H5 hj ⟨zs, k5, hW5, hDl, hpw, hlt⟩
      rw [Int.toNat_natCast] at hj
      have hzl := pw_len hpw hlt
      refine ⟨rfl, _, rfl, w, l, 2, _, rfl, hW5, by omega, by decide, by decide, fun H6 r6 k6 hW6 r60 r61 => ?_⟩
      have hDl6 := k6 _ _ nD3 hDl
      refine ⟨rfl, _, congrArg V.bl dec_int, ite2 (fun e => ?_) (fun e => ?_)⟩
      · refine ⟨_, rfl, _, hDl6, by rw [List.length_map, sizeLine_eq]; omega, zs ++ [j], (k5.trans k6).wr (.inr hD3), (hW6.new nD3).mono (by omega), by rw [upd_same, List.map_append]; congr 3; show [V.int (0 + (j : Int))] = _; rw [Int.zero_add]; rfl, ?_, ?_⟩
        · rw [List.pairwise_append]
          exact ⟨hpw, List.pairwise_singleton _ _, fun a ha b hb => by rw [List.mem_singleton.mp hb]; exact hlt a ha⟩
        · intro z hz
          rcases List.mem_append.mp hz with hz | hz
          · exact Nat.lt_succ_of_lt (hlt z hz)
          · rw [List.mem_singleton.mp hz]
            exact Nat.lt_succ_self _
      · exact ⟨zs, k5.trans k6, hW6.mono (by omega), hDl6, hpw, fun z hz => Nat.lt_succ_of_lt (hlt z hz)⟩
    · rintro H5 ⟨zs, k5, hW5, hDl, hpw, hlt⟩
      rw [Int.toNat_natCast] at hlt hW5
      have hzl := pw_len hpw hlt
      refine ⟨D3, _, rfl, .inl ⟨SqL.of hDl, fun b hb => ?_⟩⟩
      have kb := same_new (o := .tup (zs.map fun k => V.int (k : Nat))) hb
      have nb := hW5.ne hb
      have hb6 : (upd H5 b (.tup (zs.map fun k => V.int (k : Nat)))) b = some (.tup (zs.map fun k => V.int (k : Nat))) := upd_same
      have hW6 := hW5.same kb
      have k46 := k5.trans (Kp.of kb)
      generalize upd H5 b (.tup (zs.map fun k => V.int (k : Nat))) = H6 at kb hb6 hW6 k46 ⊢
      have hD6 := k46 _ _ nD hD4
      have sub2 : ∀ a ∈ [w, l], a ∈ [D, w, l] := fun a h => List.mem_cons_of_mem _ h
      have vl6 : Vls H6 n [D, w, l] kvs := vl.kp k46 sub2
      refine ⟨_, rfl, _, rfl, D, kvs, ks, rfl, .inl hD6, ek, by omega, fun ys py perm sorted hpy => ?_⟩
      have k7 : Same H6 (upd H6 py (.lst (ys.map V.str))) := same_new hpy
      have hpy7 : (upd H6 py (.lst (ys.map V.str))) py = some (.lst (ys.map V.str)) := upd_same
      generalize upd H6 py (.lst (ys.map V.str)) = H7 at k7 hpy7 ⊢
      have hD7 := k7 _ _ hD6
      refine ⟨py, rfl, ⟨_, SqL.of hpy7⟩, fun D8 hD8 => ?_⟩
      have nD8 : ∀ a ∈ [w, l], a ≠ D8 := fun a h e => by
        rw [e] at h
        exact (hW6.same k7).ne hD8 h
      have k67 : Kp [w, l] H4 H7 := k46.trans (Kp.of k7)
      have vl7 : Vls H7 n [D, w, l] kvs := vl6.kp (Kp.of (S := []) k7) (fun a h => nomatch h)
      have nn : ∀ {q : Addr} {Hq : Hp}, Same H7 Hq → Hq q = none → q ∉ [w, l] := fun {q Hq} k hq => ((hW6.same k7).same k).ne hq
      refine lc_list (K := K) (a := py) (xs := ys.map V.str) (fun i H' => ∃ (xs : List V) (acts : List Act), Same H7 H' ∧ H' D8 = some (.lst xs) ∧ DvAll [D8, w, l] H' xs (acts.map actD) ∧ acts.map (·.1) = ys.take i ∧ ∀ a ∈ acts, a.2.length = n ∧ Low n a.2) ⟨[], [], same_new hD8, upd_same, .nil, rfl, fun a h => nomatch h⟩ (fun i H' _ ⟨_, _, p, _⟩ => SqL.of (p _ _ hpy7)) ?_ ?_
      · rintro i y H8 hi ⟨xs, acts, k8, hDl, hx, en, pa⟩
        obtain ⟨z, hz, rfl⟩ : ∃ z, ys[i]? = some z ∧ y = .str z := by
          rw [List.getElem?_map] at hi
          cases e : ys[i]? with
          | none => rw [e] at hi; cases hi
          | some z => rw [e] at hi; exact ⟨z, rfl, (Option.some.inj hi).symm⟩
        obtain ⟨kv, hkv, ekv⟩ := keyed ek (perm.mem_iff.mp (List.mem_of_getElem? hz))
        obtain ⟨t, ms, et, nt, ht, ml, mlow⟩ := vl7 kv hkv
        rw [et] at ekv
        have ht8 := k8 _ _ ht
        have tD8 : t ∉ [D8, w, l] := fun h => by
          rcases List.mem_cons.mp h with h | h
          · rw [h, hD8] at ht
            cases ht
          · exact nt (List.mem_cons_of_mem _ h)
        have xl : xs.length = acts.length := by rw [hx.length, List.length_map]
        have al : acts.length ≤ i := by
          have := congrArg List.length en
          rw [List.length_map, List.length_take] at this
          omega
        have yl : ys.length ≤ 6 := by rw [perm.length_eq]; omega
        have il : i < ys.length := (List.getElem?_eq_some_iff.mp hz).1
        refine ⟨rfl, _, rfl, _, rfl, _, rfl, D, .ref t, rfl, by rw [← ekv]; exact DGet.k (k := .inr z) (k8 _ _ hD7), by show 2 ≤ sizeLine; decide, fun pt hpt => ?_⟩
        have k9 : Same H8 (upd H8 pt (.tup [.str z, .ref t])) := same_new hpt
        have hpt9 : (upd H8 pt (.tup [.str z, .ref t])) pt = some (.tup [.str z, .ref t]) := upd_same
        have ptD : pt ∉ [D8, w, l] := fun h => by
          rcases List.mem_cons.mp h with h | h
          · rw [h, hDl] at hpt
            cases hpt
          · exact nn k8 hpt h
        generalize upd H8 pt (.tup [.str z, .ref t]) = H9 at k9 hpt9 ⊢
        have kS : Kp [D8, w, l] H9 (upd H9 D8 (.lst (xs ++ [.ref pt]))) := (Kp.refl _ _).wr (.inl List.mem_cons_self)
        refine ⟨xs, k9 _ _ hDl, by rw [xl, sizeLine_eq]; omega, xs ++ [.ref pt], acts ++ [(z, ms)], fun b o eb => ?_, upd_same, ?_, ?_, ?_⟩
        · rw [upd_ne (ne_of_none eb hD8)]
          exact k9 _ _ (k8 _ _ eb)
        · rw [List.map_append]
          exact ((hx.kp (Kp.of k9)).append (.cons (dv_act hpt9 ptD (k9 _ _ ht8) tD8) .nil)).kp kS
        · rw [List.map_append, en, List.take_succ, hz]
          rfl
        · intro a ha
          rcases List.mem_append.mp ha with ha | ha
          · exact pa a ha
          · rw [List.mem_singleton.mp ha]
            exact ⟨ml, mlow⟩
      · rintro H8 ⟨xs, acts, k8, hDl, hx, en, pa⟩
        rw [List.length_map, List.take_length] at en
        refine ⟨D8, _, rfl, .inl ⟨SqL.of hDl, fun a ha => ?_⟩⟩
        have k9 : Same H8 (upd H8 a (.tup xs)) := same_new ha
        have na := nn k8 ha
        refine ⟨_, rfl, by show 3 ≤ sizeLine; decide, fun p hp => ?_⟩
        have kp : Same (upd H8 a (.tup xs)) (upd (upd H8 a (.tup xs)) p (.lst [.int (n : Nat), .ref a, .ref b])) := same_new hp
        have k89 := k8.trans (k9.trans kp)
        have hWp := (hW6.same k7).same k89
        have np := nn (k8.trans k9) hp
        have yl : ys.length ≤ 6 := by rw [perm.length_eq]; omega
        have al : acts.length = ys.length := by rw [← en, List.length_map]
        have ia : ∀ l2 : List Nat, DvAll [w, l] (upd (upd H8 a (.tup xs)) p (.lst [.int (n : Nat), .ref a, .ref b])) (l2.map fun k => V.int (k : Nat)) (l2.map fun k => PyData.int (k : Nat)) := fun l2 => by
          induction l2 with
          | nil => exact .nil
          | cons z l2 ih => exact .cons (.int _) ih
        refine q _ p a b n acts zs ((k4.trans k67).trans (Kp.of k89)) (hWp.mono (by omega)) np upd_same ?_ ?_ ⟨fun a ha => ?_, fun a ha => (pa a ha).1, fun a ha => (pa a ha).2, ?_, by omega, n3⟩ ?_ (by omega) n1 (rests_st hpw hlt) ?_ (by omega)
        · exact .tup (kp _ _ upd_same) na (((hx.sub fun a m => List.mem_cons_of_mem _ m).kp (Kp.of k9)).kp (Kp.of kp))
        · rw [restD_eq]
          exact .tup (k89 _ _ (k7 _ _ hb6)) nb (ia zs)
        · exact nms a.1 (perm.mem_iff.mp (by rw [← en]; exact List.mem_map.mpr ⟨a, ha, rfl⟩))
        · rw [en]
          exact perm.nodup_iff.mpr nd
        · have h := Zt.sorted_pw _ sorted
          rw [← en] at h
          exact List.pairwise_map.mp h
        · refine okw_mvs ?_
          rw [List.length_map]
          omega
end
end K04
set_option Elab.async false
set_option linter.all false
set_option maxRecDepth 100000
set_option maxHeartbeats 4000000
set_option pp.maxSteps 2500
/-! k04: the lines of a text, as the law writes them. -/
namespace K04
open PySem PySem.Spec PyProof.Rows L2 Zg Zr Zd Zv
open TL (tl len_tl ext_tl)
section
variable {P : Program} {w : World} {K : PySem.W.Frag} {mg : PySem.Str → Option Value} {base : Heap}
def sp_lines (K : PySem.W.Frag) : Sp := fun vs H Q _ => ∃ (S : List Addr) (n : Nat) (a b : Addr) (xs : List V) (acts : List Act) (rs : List Nat), vs = [.int (n : Nat), .ref a, .ref b] ∧ SqT K H a xs ∧ DvAll S H xs (acts.map actD) ∧ SqT K H b ((rs.map some).map mvV) ∧ Acts n acts ∧ 1 ≤ n ∧ Low n (rs.map some) ∧ rs.length ≤ 3 ∧
  ∀ (H' : Hp) (p : Addr), Same H H' → H p = none → H' p = some (.lst ((linesOf n acts rs).map V.str)) → Q (.ref p) H'
theorem ok_lines (T : Txt K mg) : FnOk P w K mg base CX0 1 T.a_lines T.d_lines P_lines (sp_lines K) := by
  refine T.F_lines.ok sc_lines (fun vs H Q E h => by obtain ⟨S, n, a, b, xs, acts, rs, rfl, _⟩ := h; rfl) (fun cdv A outer s H vs Q E hr h => ?_)
  refine ⟨_, (pss_cons (ps_set (i := 3) sc_lines.nd rfl (Or.inl rfl) (pe_lst (pa_cons (pe_op op_add_str pe_str (pe_callTy call_str_int (by rfl) T.n_str (by decide +kernel) (pa_cons (pv 0) pa_nil))) (pa_cons (pe_op op_add_str pe_str (pe_ifExp (pt_cmpR (op_neE (Nat.lt_of_le_of_lt (Nat.le_add_right _ 64) hr.units)) (pv 2) (pe_tup pa_nil) (nomark _)) (pe_join pe_str (pe_lc (own := [("state", 4)]) rfl sc_lines.nd (pi_tup (pv 2)) (blkOk_by (own := [("state", 4)]) (N := N_lines) (sc := defScope s_lines) (by decide +kernel)) (fun _ _ _ _ _ => (pg_name (i := 4) sc_lines.nd rfl (Or.inl rfl))) (fun _ _ _ _ _ => pts_nil) (fun _ _ _ _ _ => (pe_callTy call_str_int (by rfl) T.n_str (by decide +kernel) (pa_cons (pv 4) pa_nil))))) pe_str)) pa_nil))))
    (pss_cons (ps_for PassesOwn.never rfl (pi_tup (pv 1)) (pg_tup (by rfl) (pgs_cons (pg_name (i := 5) sc_lines.nd rfl (Or.inl rfl)) (pgs_cons (pg_name (i := 6) sc_lines.nd rfl (Or.inl rfl)) pgs_nil))) (pss_one (ps_expr (pe_bm PySem.F.plainAttrs_list PySem.F.slot_list_append PySem.F.type_list_append mt_append (pv 3) (pa_cons (pe_op op_add_str (pe_op op_add_str (pe_op op_add_str pe_str (pv 5)) pe_str) (pe_join pe_str (pe_lc (own := [("then", 7)]) rfl sc_lines.nd (pi_tup (pv 6)) (blkOk_by (own := [("then", 7)]) (N := N_lines) (sc := defScope s_lines) (by decide +kernel)) (fun _ _ _ _ _ => (pg_name (i := 7) sc_lines.nd rfl (Or.inl rfl))) (fun _ _ _ _ _ => pts_nil) (fun _ _ _ _ _ => (pe_ifExp (pt_cmpR op_isN (pv 7) pe_non (nomark _)) pe_str (pe_callTy call_str_int (by rfl) T.n_str (by decide +kernel) (pa_cons (pv 7) pa_nil))))))) pa_nil)))))
    (pss_one (ps_ret (pv 3))))), ?_⟩
  obtain ⟨S, n, a, b, xs, acts, rs, rfl, ha, hx, hb, AA, n1, low, rl, q⟩ := h
  have n3 := AA.sz
  have low10 : Low 10 (rs.map some) := low.up (by omega)
  have nl := numS_len (k := n) (by omega)
  have sl := shown_len low10
  rw [List.length_map] at sl
  have hd : ∃ L, L = [("size " ++ numS n : PySem.Str), "resting " ++ shown (rs.map some)] := ⟨_, rfl⟩
  obtain ⟨L, eL⟩ := hd
  have e12 : linesOf n acts rs = L ++ acts.map actL := by rw [eL]; rfl
  refine asg_via (fun v H' => ∃ D, v = .ref D ∧ H D = none ∧ Same H H' ∧ H' D = some (.lst (L.map V.str))) (fun R hR => ?_) ?_
  · refine ⟨_, rfl, _, rfl, lg (by omega), _, _, rfl, rfl, ?_, ?_⟩
    · show 5 + (numS n).length ≤ _
      rw [nl, sizeLine_eq]
      decide
    have fin : ∀ H1, Same H H1 → ∃ i j : PySem.Str, V.str "resting " = V.str i ∧ V.str (shown (rs.map some)) = V.str j ∧ i.length + j.length ≤ sizeLine ∧ (2 ≤ sizeLine ∧ ∀ p, H1 p = none → R (.ref p) (upd H1 p (.lst [.str ("size " ++ numS n), .str (i ++ j)]))) := fun H1 k1 => by
      refine ⟨_, _, rfl, rfl, ?_, by decide, fun p hp => hR _ _ ⟨p, rfl, k1.free hp, k1.trans (same_new hp), ?_⟩⟩
      · rw [sizeLine_eq]
        show 8 + _ ≤ _
        omega
      · rw [upd_same, eL]
        rfl
    refine ⟨_, rfl, by show 0 ≤ sizeLine; decide, fun p2 hp2 => ⟨b, p2, (rs.map some).map mvV, rfl, rfl, .inr ⟨sqt_same hb (same_new hp2), SqT.of upd_same⟩, _, rfl, ?_⟩⟩
    have k1 : Same H (upd H p2 (.tup [])) := same_new hp2
    generalize upd H p2 (.tup []) = H1 at k1 ⊢
    cases rs with
    | nil => exact fin H1 k1
    | cons r0 rs =>
      refine ⟨⟨_, rfl⟩, _, rfl, b, rfl, ⟨_, sqt_same hb k1⟩, fun D hD => ?_⟩
      have get : ∀ {i : Nat} {y : V}, (((r0 :: rs).map some).map mvV)[i]? = some y → ∃ k, (r0 :: rs)[i]? = some k ∧ y = V.int (k : Nat) := fun {i y} hi => by
        rw [List.getElem?_map, List.getElem?_map] at hi
        cases e : (r0 :: rs)[i]? with
        | none => rw [e] at hi; cases hi
        | some k =>
          rw [e] at hi
          exact ⟨k, rfl, (Option.some.inj hi).symm⟩
      refine lc_tup (K := K) (a := b) (xs := ((r0 :: rs).map some).map mvV) (fun i H' => Same H1 H' ∧ H' D = some (.lst ((((r0 :: rs).take i).map numS).map V.str))) ⟨same_new hD, upd_same⟩ (fun i H' _ p => sqt_same hb (k1.trans p.1)) ?_ ?_
      · rintro i y H2 hi ⟨k, hDl⟩
        obtain ⟨m, hm, rfl⟩ := get hi
        have := low10 (some m) (List.mem_map.mpr ⟨m, List.mem_of_getElem? hm, rfl⟩) m rfl
        refine ⟨rfl, _, rfl, _, rfl, lg (by omega), _, hDl, ?_, fun b o eb => ?_, ?_⟩
        · rw [List.length_map, List.length_map, List.length_take, sizeLine_eq]
          omega
        · rw [upd_ne (ne_of_none eb hD)]
          exact k _ _ eb
        · rw [upd_same, List.take_succ, hm, List.map_append, List.map_append]
          rfl
      · rintro H2 ⟨k, hDl⟩
        rw [List.length_map, List.length_map, List.take_length] at hDl
        have em : ((r0 :: rs).map some).map mvS = (r0 :: rs).map numS := by
          rw [List.map_map]
          rfl
        refine ⟨_, D, (r0 :: rs).map numS, rfl, rfl, .inl (SqL.of hDl), ?_, ?_⟩
        · have e1 := ones low10
          rw [em, List.length_map] at e1
          rw [e1, List.length_map]
          show (r0 :: rs).length + (r0 :: rs).length * 1 ≤ 16777216
          omega
        · have es : shown ((r0 :: rs).map some) = Txt.join "," ((r0 :: rs).map numS) := by
            unfold shown movesS
            rw [if_neg (fun z => by cases z), em]
          have f := fin H2 (k1.trans k)
          rw [es] at f
          exact f
  · rintro v H1 ⟨D, rfl, hD, k1, hDl⟩
    refine ⟨_, rfl, a, rfl, ⟨_, sqt_same ha k1⟩, ?_⟩
    refine for_tup (K := K) (a := a) (xs := xs) (fun i σ H' => ∃ (y5 y6 : Option V), σ = [some (.int (n : Nat)), some (.ref a), some (.ref b), some (.ref D), none, y5, y6, none] ∧ Same H H' ∧ H' D = some (.lst ((L ++ (acts.take i).map actL).map V.str))) ⟨none, none, rfl, k1, by rw [List.take_zero, List.map_nil, List.append_nil]; exact hDl⟩ (fun i σ H' _ ⟨_, _, _, k, _⟩ => sqt_same ha k) ?_ ?_
    · rintro i y σ H2 hi ⟨y5, y6, rfl, k, hDl2⟩
      obtain ⟨ac, hac, hda⟩ := acts_get hx hi
      have ham := List.mem_of_getElem? hac
      obtain ⟨p, m, rfl, hp, _, hm⟩ := act_at (hda.kp (Kp.of k))
      have hm' := moves_at hm
      have nm := (isName_ok (AA.nm ac ham)).2
      have low2 : Low 10 ac.2 := Low.up (AA.mv ac ham) (by omega)
      have ml := AA.ln ac ham
      have sla := shown_len low2
      refine ⟨p, _, rfl, SqT.of hp, rfl, _, _, rfl, _, _, rfl, rfl, ?_⟩
      have l1 : (Str.ofString "action " ++ ac.1).length = 7 + ac.1.length := app_len _ _
      have l2 : (Str.ofString "action " ++ ac.1 ++ Str.ofString " ").length = 7 + ac.1.length + 1 := by rw [app_len, l1]; rfl
      refine ⟨_, rfl, .inl ⟨rfl, _, SqL.of hDl2⟩, _, rfl, _, _, rfl, rfl, ?_, _, _, rfl, rfl, ?_, ⟨_, rfl⟩, _, rfl, m, rfl, ⟨_, SqT.of hm'⟩, fun D7 hD7 => ?_⟩
      · rw [sizeLine_eq]
        show 7 + _ ≤ _
        omega
      · rw [l1, sizeLine_eq]
        show _ + 1 ≤ _
        omega
      have get : ∀ {i : Nat} {y : V}, (ac.2.map mvV)[i]? = some y → ∃ m, ac.2[i]? = some m ∧ y = mvV m := fun {i y} hi => by
        rw [List.getElem?_map] at hi
        cases e : ac.2[i]? with
        | none => rw [e] at hi; cases hi
        | some m =>
          rw [e] at hi
          exact ⟨m, rfl, (Option.some.inj hi).symm⟩
      refine lc_tup (K := K) (a := m) (xs := ac.2.map mvV) (fun i H' => Same H2 H' ∧ H' D7 = some (.lst (((ac.2.take i).map mvS).map V.str))) ⟨same_new hD7, upd_same⟩ (fun i H' _ p => SqT.of (p.1 _ _ hm')) ?_ ?_
      · rintro i' y H3 hi' ⟨k3, hD3⟩
        obtain ⟨mo, hmo, rfl⟩ := get hi'
        have put : ∀ (v : V), v = .str (mvS mo) → ∃ acc, H3 D7 = some (.lst acc) ∧ acc.length < sizeLine ∧ (Same H2 (upd H3 D7 (.lst (acc ++ [v]))) ∧ (upd H3 D7 (.lst (acc ++ [v]))) D7 = some (.lst (((ac.2.take (i' + 1)).map mvS).map V.str))) := fun v ev => by
          refine ⟨_, hD3, ?_, fun b o eb => ?_, ?_⟩
          · rw [List.length_map, List.length_map, List.length_take, sizeLine_eq]
            omega
          · rw [upd_ne (ne_of_none eb hD7)]
            exact k3 _ _ eb
          · rw [upd_same, List.take_succ, hmo, List.map_append, List.map_append, ev]
            rfl
        refine ⟨rfl, _, rfl, rfl, _, rfl, ?_⟩
        cases mo with
        | none => exact put _ rfl
        | some j =>
          refine ⟨_, rfl, _, rfl, ?_, put _ rfl⟩
          have := low2 _ (List.mem_of_getElem? hmo) j rfl
          exact lg (by omega)
      · rintro H3 ⟨k3, hD3⟩
        rw [List.length_map, List.take_length] at hD3
        have es : shown ac.2 = Txt.join "," (ac.2.map mvS) := by
          unfold shown movesS
          rw [if_neg (fun z => by rw [z] at ml; simp at ml; omega)]
        have k23 := k.trans k3
        refine ⟨_, D7, ac.2.map mvS, rfl, rfl, .inl (SqL.of hD3), ?_, _, _, rfl, rfl, ?_, D, _, _, rfl, rfl, k3 _ _ hDl2, ?_, _, _, rfl, fun c o ec => ?_, ?_⟩
        · rw [ones low2, List.length_map]
          show ac.2.length + ac.2.length * 1 ≤ 16777216
          omega
        · rw [← es, sizeLine_eq]
          show (Str.ofString "action " ++ ac.1 ++ Str.ofString " ").length + _ ≤ _
          rw [l2]
          omega
        · have fw := AA.few
          have e1 : ((acts.take i).map actL).length ≤ acts.length := by
            rw [List.length_map, List.length_take]
            exact Nat.min_le_right _ _
          rw [List.length_map, List.length_append, eL, sizeLine_eq]
          show 2 + _ < _
          omega
        · rw [upd_ne (ne_of_none ec hD)]
          exact k23 _ _ ec
        · rw [upd_same, List.take_succ, hac, List.map_append, List.map_append, List.map_append, List.map_append, ← List.append_assoc, ← es]
          rfl
    · rintro σ H2 ⟨y5, y6, rfl, k, hDl2⟩
      have xl : xs.length = acts.length := by rw [hx.length, List.length_map]
      rw [xl, List.take_length, ← e12] at hDl2
      exact ⟨_, rfl, q _ _ k hD hDl2⟩
end
end K04
set_option Elab.async false
set_option linter.all false
set_option maxRecDepth 100000
set_option maxHeartbeats 4000000
set_option pp.maxSteps 2500
/-! k04: words and lines bent. -/
namespace K04
open PySem PySem.Spec PyProof.Rows L2 Zg Zr Zd Zv
open TL (tl len_tl ext_tl)
def wordsA : List PySem.Str := ["0", "1", "2", "3", "4", "00", "01", "-1", "+1", "-", "--", "", "0,1", "1,0", "0,0", "0,1,2", "-,-", "-,0"]
def wordsB : List PySem.Str := ["0,-", ",", "0,", ",0", "0,-,1", "a", "b", "A", "a1", "zzzzzzzzz", "size", "resting", "action"]
def wordsC : List PySem.Str := ["0;1"]
theorem words_len : ∀ z ∈ wordsA ++ wordsB ++ wordsC, z.length ≤ 9 := by decide +kernel
/-! ### weights -/
/-- signs and one for each text -/
def wt (l : List PySem.Str) : Nat := (l.map PySem.Str.length).sum + l.length
theorem wt_app (a b : List PySem.Str) : wt (a ++ b) = wt a + wt b := by
  unfold wt
  rw [List.map_append, List.sum_append, List.length_append]
  omega
theorem wt_one (z : PySem.Str) : wt [z] = z.length + 1 := rfl
theorem wt_cons (z : PySem.Str) (l : List PySem.Str) : wt (z :: l) = z.length + 1 + wt l := wt_app [z] l
theorem wt_split (l : List PySem.Str) (a : Nat) : wt (l.take a) + wt (l.drop a) = wt l := by rw [← wt_app, List.take_append_drop]
theorem wt_drop (l : List PySem.Str) (a b : Nat) (h : a ≤ b) : wt (l.drop b) ≤ wt (l.drop a) := by
  have e : l.drop b = (l.drop a).drop (b - a) := by rw [List.drop_drop]; congr 1; omega
  have := wt_split (l.drop a) (b - a)
  rw [e]
  omega
theorem wt_rev (l : List PySem.Str) : wt l.reverse = wt l := by
  induction l with
  | nil => rfl
  | cons x l ih =>
    rw [List.reverse_cons, wt_app, ih, wt_one, wt_cons]
    omega
theorem joinL_len2 (s : Nat) : ∀ l : List (List Nat), l ≠ [] → (TL.joinL [s] l).length + 1 = (l.map List.length).sum + l.length
  | [], h => absurd rfl h
  | [x], _ => by
    show x.length + 1 = (x.length + 0) + 1
    omega
  | x :: y :: l, _ => by
    have ih := joinL_len2 s (y :: l) (List.cons_ne_nil _ _)
    show (x ++ ([s] ++ TL.joinL [s] (y :: l))).length + 1 = (x.length + ((y :: l).map List.length).sum) + ((y :: l).length + 1)
    rw [List.length_append, List.length_append]
    show x.length + (1 + _) + 1 = _
    omega
theorem join_wt (s : Nat) {l : List PySem.Str} (h : l ≠ []) : (Txt.join (one s) l).length + 1 = wt l := by
  unfold wt
  rw [len_tl, TL.join_eq, TL.tl_join]
  have h1 := joinL_len2 s (l.map tl) (fun e => h (List.map_eq_nil_iff.mp e))
  rw [← lens, List.length_map] at h1
  exact h1
theorem join_le (s : Nat) (l : List PySem.Str) : (Txt.join (one s) l).length ≤ wt l := join_len s l
theorem wds_wt (x : PySem.Str) : wt (wds x) = x.length + 1 := by
  unfold wt wds
  rw [blank]
  exact cut_sum (by decide) x
theorem wt_mem {l : List PySem.Str} {z : PySem.Str} (h : z ∈ l) : z.length + 1 ≤ wt l := by
  obtain ⟨a, b, rfl⟩ := List.append_of_mem h
  rw [wt_app, wt_cons]
  omega
theorem wt_at {l : List PySem.Str} {a : Nat} {z : PySem.Str} (h : l[a]? = some z) : wt (l.take a) + (z.length + 1) + wt (l.drop (a + 1)) = wt l := by
  obtain ⟨h1, h2⟩ := List.getElem?_eq_some_iff.mp h
  have e : l.drop a = z :: l.drop (a + 1) := by rw [← h2, List.getElem_cons_drop]
  have := wt_split l a
  rw [e, wt_cons] at this
  omega
theorem replL_len : ∀ (l : List Nat), (StrLaws.replL [32] [32, 32] l).length ≤ 2 * l.length
  | [] => by rw [StrLaws.replL_nil]; exact Nat.zero_le _
  | c :: r => by
    have ih := replL_len r
    by_cases h : (c :: r).take [32].length = [32]
    · rw [StrLaws.replL_hit (List.cons_ne_nil _ _) h]
      show ([32, 32] ++ StrLaws.replL [32] [32, 32] r).length ≤ _
      rw [List.length_append, List.length_cons (a := c)]
      show 2 + _ ≤ _
      omega
    · rw [StrLaws.replL_miss h, List.length_cons, List.length_cons]
      omega
theorem repl_len (x : PySem.Str) : (Txt.replace x " " "  ").length ≤ 2 * x.length := by
  have h := StrLaws.replace_list (x := x) (y := " ") (z := "  ") (by decide)
  have e1 : (" " : PySem.Str).cps.toList = [32] := by decide +kernel
  have e2 : ("  " : PySem.Str).cps.toList = [32, 32] := by decide +kernel
  rw [e1, e2] at h
  rw [len_tl, len_tl]
  show (Txt.replace x " " "  ").cps.toList.length ≤ 2 * x.cps.toList.length
  rw [h]
  exact replL_len _
theorem wt_sum (l : List PySem.Str) : (l.map (fun x : PySem.Str => x.length)).sum + l.length * 1 = wt l := by
  rw [Nat.mul_one]
  rfl
section
variable {P : Program} {w : World} {K : PySem.W.Frag} {mg : PySem.Str → Option Value} {base : Heap}
def sp_word : Sp := fun vs H Q _ => ∃ (w l : Addr) (C : Nat), vs = [.ref w] ∧ Well H w l C ∧ C + 5 < LIM ∧
  ∀ (H' : Hp) (z : PySem.Str), Kp [w, l] H H' → Well H' w l (C + 1) → z.length ≤ 9 → Q (.str z) H'
theorem ok_word (T : Txt K mg) : FnOk P w K mg base CX0 3 T.a_word T.d_word P_word sp_word := by
  refine T.F_word.ok sc_word (fun vs H Q E h => by obtain ⟨w, l, C, rfl, _⟩ := h; rfl) (fun cdv A outer s H vs Q E hr h => ?_)
  refine ⟨_, (pss_cons (ps_set (i := 1) sc_word.nd rfl (Or.inl rfl) (pe_lst (pa_cons pe_str (pa_cons pe_str (pa_cons pe_str (pa_cons pe_str (pa_cons pe_str (pa_cons pe_str (pa_cons pe_str (pa_cons pe_str (pa_cons pe_str (pa_cons pe_str (pa_cons pe_str (pa_cons pe_str (pa_cons pe_str (pa_cons pe_str (pa_cons pe_str (pa_cons pe_str (pa_cons pe_str (pa_cons pe_str pa_nil))))))))))))))))))))
    (pss_cons (ps_set (i := 1) sc_word.nd rfl (Or.inl rfl) (pe_op op_cat (pv 1) (pe_lst (pa_cons pe_str (pa_cons pe_str (pa_cons pe_str (pa_cons pe_str (pa_cons pe_str (pa_cons pe_str (pa_cons pe_str (pa_cons pe_str (pa_cons pe_str (pa_cons pe_str (pa_cons pe_str (pa_cons pe_str (pa_cons pe_str pa_nil))))))))))))))))
    (pss_one (ps_ret (pe_call (ok_one_of T) (hr.mono (by decide)) (by rfl) T.g_one_of T.F_one_of.kp T.b_one_of .nil pass0 (pa_cons (pv 0) (pa_cons (pe_op op_cat (pv 1) (pe_lst (pa_cons pe_str pa_nil))) pa_nil))))))), ?_⟩
  obtain ⟨w, l, C, rfl, hW, hC, q⟩ := h
  refine ⟨by show 18 ≤ sizeLine; decide, fun p1 hp1 => ?_⟩
  have k1 : Same H (upd H p1 (.lst (wordsA.map V.str))) := same_new hp1
  have h1 : (upd H p1 (.lst (wordsA.map V.str))) p1 = some (.lst (wordsA.map V.str)) := upd_same
  refine ⟨_, rfl, by show 13 ≤ sizeLine; decide, fun p2 hp2 => ?_⟩
  have k2 : Same (upd H p1 (.lst (wordsA.map V.str))) (upd (upd H p1 (.lst (wordsA.map V.str))) p2 (.lst (wordsB.map V.str))) := same_new hp2
  refine ⟨p1, p2, wordsA.map V.str, wordsB.map V.str, rfl, rfl, k2 _ _ h1, upd_same, by show 31 ≤ sizeLine; decide, fun p3 hp3 => ?_⟩
  have k3 : Same H (upd (upd (upd H p1 (.lst (wordsA.map V.str))) p2 (.lst (wordsB.map V.str))) p3 (.lst (wordsA.map V.str ++ wordsB.map V.str))) := k1.trans (k2.trans (same_new hp3))
  have h3 : (upd (upd (upd H p1 (.lst (wordsA.map V.str))) p2 (.lst (wordsB.map V.str))) p3 (.lst (wordsA.map V.str ++ wordsB.map V.str))) p3 = some (.lst (wordsA.map V.str ++ wordsB.map V.str)) := upd_same
  show (gName 1) (V.ref p3) _ (upd (upd (upd H p1 (.lst (wordsA.map V.str))) p2 (.lst (wordsB.map V.str))) p3 (.lst (wordsA.map V.str ++ wordsB.map V.str))) _
  generalize upd (upd (upd H p1 (.lst (wordsA.map V.str))) p2 (.lst (wordsB.map V.str))) p3 (.lst (wordsA.map V.str ++ wordsB.map V.str)) = H3 at k3 h3 ⊢
  refine ⟨_, rfl, _, rfl, by show 1 ≤ sizeLine; decide, fun p4 hp4 => ⟨p3, p4, wordsA.map V.str ++ wordsB.map V.str, wordsC.map V.str, rfl, rfl, same_new hp4 _ _ h3, upd_same, by show 32 ≤ sizeLine; decide, fun p5 hp5 => ?_⟩⟩
  have k5 : Same H3 (upd (upd H3 p4 (.lst (wordsC.map V.str))) p5 (.lst (wordsA.map V.str ++ wordsB.map V.str ++ wordsC.map V.str))) := (same_new hp4).trans (same_new hp5)
  have h5 : (upd (upd H3 p4 (.lst (wordsC.map V.str))) p5 (.lst (wordsA.map V.str ++ wordsB.map V.str ++ wordsC.map V.str))) p5 = some (.lst ((wordsA ++ wordsB ++ wordsC).map V.str)) := by rw [upd_same, List.map_append, List.map_append]
  have n5 : p5 ∉ [w, l] := (hW.same (k3.trans (same_new hp4))).ne hp5
  refine ⟨w, l, p5, _, C, rfl, hW.same (k3.trans k5), by omega, n5, SqL.of h5, by show 0 < 32; decide, by show 32 ≤ 1000000; decide, fun H6 i hi k6 hW6 => ?_⟩
  rw [List.getElem_map]
  exact q H6 _ ((Kp.of (k3.trans k5)).trans k6) hW6 (words_len _ (List.getElem_mem _))
/-- a line that is bent -/
def sp_line_bent : Sp := fun vs H Q _ => ∃ (w l : Addr) (C M : Nat) (x : PySem.Str), vs = [.ref w, .str x] ∧ Well H w l C ∧ C + 10 < LIM ∧ x.length ≤ M ∧ 8 ≤ M ∧ M ≤ 1000 ∧
  ∀ (H' : Hp) (z : PySem.Str), Kp [w, l] H H' → Well H' w l (C + 10) → z.length ≤ x.length + 2 * M → Q (.str z) H'
theorem ok_line_bent (T : Txt K mg) : FnOk P w K mg base CX0 4 T.a_line_bent T.d_line_bent P_line_bent sp_line_bent := by
  refine T.F_line_bent.ok sc_line_bent (fun vs H Q E h => by obtain ⟨w, l, C, M, x, rfl, _⟩ := h; rfl) (fun cdv A outer s H vs Q E hr h => ?_)
  refine ⟨_, (pss_cons (ps_set (i := 2) sc_line_bent.nd rfl (Or.inl rfl) (pe_split (pv 1) pe_str))
    (pss_cons (ps_par (i := 3) (j := 4) (by rfl) sc_line_bent.nd rfl rfl (by decide) rfl rfl (pa_cons (pe_call (ok_drawn T) (hr.mono (by decide)) (by rfl) T.g_drawn T.F_drawn.kp T.b_drawn .nil pass0 (pa_cons (pv 0) (pa_cons (pe_callB call_len_seq (by rfl) T.n_len (by decide +kernel) (pa_cons (pv 2) pa_nil)) pa_nil))) (pa_cons (pe_call (ok_drawn T) (hr.mono (by decide)) (by rfl) T.g_drawn T.F_drawn.kp T.b_drawn .nil pass0 (pa_cons (pv 0) (pa_cons pe_int pa_nil))) pa_nil)) (by rfl))
    (pss_cons (ps_if (pt_cmpR op_eq (pv 4) pe_int (nomark _)) (pss_one (ps_ret (pe_join pe_str (pe_op op_cat (pe_slice sl_list (pv 2) po_none (po_some (pv 3))) (pe_slice sl_list (pv 2) (po_some (pe_op op_add (pv 3) pe_int)) po_none))))) pss_nil)
    (pss_cons (ps_if (pt_cmpR op_eq (pv 4) pe_int (nomark _)) (pss_one (ps_ret (pe_join pe_str (pe_op op_cat (pe_slice sl_list (pv 2) po_none (po_some (pe_op op_add (pv 3) pe_int))) (pe_slice sl_list (pv 2) (po_some (pv 3)) po_none))))) pss_nil)
    (pss_cons (ps_if (pt_cmpR op_eq (pv 4) pe_int (nomark _)) (pss_one (ps_ret (pe_call (ok_one_of T) (hr.mono (by decide)) (by rfl) T.g_one_of T.F_one_of.kp T.b_one_of .nil pass0 (pa_cons (pv 0) (pa_cons (pe_lst (Xg.pa_text op_add_str (pv 1) (pat_cons (CwR.PET.of (pe_op op_add_str (pv 1) pe_str)) (pat_cons (CwR.PET.of (pe_upper (pv 1))) (pat_cons (CwR.PET.of (pe_op op_add_str (pv 1) pe_str)) (pat_cons (CwR.pet_replC (pv 1)) pat_nil)))))) pa_nil))))) pss_nil)
    (pss_cons (ps_if (pt_cmpR op_eq (pv 4) pe_int (nomark _)) (pss_one (ps_ret (pe_join pe_str (pe_revL (pv 2))))) pss_nil)
    (pss_one (ps_ret (pe_join pe_str (pe_op op_cat (pe_op op_cat (pe_slice sl_list (pv 2) po_none (po_some (pv 3))) (pe_lst (pa_cons (pe_call (ok_word T) (hr.mono (by decide)) (by rfl) T.g_word T.F_word.kp T.b_word .nil pass0 (pa_cons (pv 0) pa_nil)) pa_nil))) (pe_slice sl_list (pv 2) (po_some (pe_op op_add (pv 3) pe_int)) po_none))))))))))), ?_⟩
  obtain ⟨w, l, C, M, x, rfl, hW, hC, hl, m5, m1, q⟩ := h
  refine ⟨_, rfl, ⟨_, rfl⟩, x, " ", rfl, rfl, rfl, by rw [sizeLine_eq]; omega, fun pw hpw => ?_⟩
  have k1 : Same H (upd H pw (.lst ((Txt.split x " ").map V.str))) := same_new hpw
  have hpw1 : (upd H pw (.lst ((Txt.split x " ").map V.str))) pw = some (.lst ((wds x).map V.str)) := upd_same
  have npw := hW.ne hpw
  generalize upd H pw (.lst ((Txt.split x " ").map V.str)) = H1 at k1 hpw1 ⊢
  have hW1 := hW.same k1
  have wl := wds_len x
  have wn := wds_ne x
  have wp : 0 < (wds x).length := List.length_pos_iff.mpr wn
  refine ⟨_, rfl, _, rfl, pw, _, rfl, .inl (SqL.of hpw1), w, l, _, C, rfl, hW1, by omega, by rw [List.length_map]; omega, by rw [List.length_map]; omega, fun H2 a k2 hW2 a0 a1 => ?_⟩
  rw [List.length_map] at a1
  obtain ⟨at', rfl⟩ := Int.eq_ofNat_of_zero_le a0
  have hpw2 := k2 _ _ npw hpw1
  refine ⟨_, rfl, w, l, 8, C + 1, rfl, hW2, by omega, by decide, by decide, fun H3 y k3 hW3 y0 y1 => ?_⟩
  have hpw3 := k3 _ _ npw hpw2
  have k03 := (Kp.of (S := [w, l]) k1).trans (k2.trans k3)
  have sl0 : ∀ (Hh : Hp) (k : Nat) (R : VK), Hh pw = some (.lst ((wds x).map V.str)) → (∀ p, Hh p = none → R (.ref p) (upd Hh p (.lst (((wds x).take k).map V.str)))) → rSlL K (.ref pw) none (some (k : Int)) Hh R := fun Hh k R h r => ⟨pw, _, rfl, SqL.of h, fun p hp => by rw [cut_to, ← List.map_take]; exact r p hp⟩
  have fin : ∀ (Hh : Hp) (p : Addr) (ys : List PySem.Str) (k : Nat), k ≤ 10 → Kp [w, l] H Hh → Well Hh w l (C + k) → Hh p = some (.lst (ys.map V.str)) → wt ys ≤ x.length + 2 * M → ∃ a p' zs, V.str " " = .str a ∧ [V.ref p] = [V.ref p'] ∧ (SqL K Hh p' (zs.map V.str) ∨ SqT K Hh p' (zs.map V.str)) ∧ (zs.map (fun x : PySem.Str => x.length)).sum + zs.length * a.length ≤ 16777216 ∧ Q (.str (Txt.join a zs)) Hh := fun Hh p ys k hk kp hw h hwt => by
    refine ⟨" ", p, ys, rfl, rfl, .inl (SqL.of h), ?_, q Hh _ kp (hw.mono (by omega)) ?_⟩
    · have e : ("one" : PySem.Str) = "one" := rfl
      show (ys.map (fun x : PySem.Str => x.length)).sum + ys.length * 1 ≤ 16777216
      rw [wt_sum]
      omega
    · have := join_le 32 ys
      rw [← blank] at this
      omega
  have cat : ∀ (Hh : Hp) (p4 p5 : Addr) (as bs : List PySem.Str) (k : Nat), k ≤ 10 → Kp [w, l] H Hh → Well Hh w l (C + k) → Hh p4 = some (.lst (as.map V.str)) → Hh p5 = some (.lst (bs.map V.str)) → wt as + wt bs ≤ x.length + 2 * M → rCat (.ref p4) (.ref p5) Hh fun v H' => ∃ a p' zs, V.str " " = .str a ∧ [v] = [V.ref p'] ∧ (SqL K H' p' (zs.map V.str) ∨ SqT K H' p' (zs.map V.str)) ∧ (zs.map (fun x : PySem.Str => x.length)).sum + zs.length * a.length ≤ 16777216 ∧ Q (.str (Txt.join a zs)) H' := fun Hh p4 p5 as bs k hk kp hw h4 h5 hwt => by
    have la : as.length ≤ wt as := Nat.le_add_left _ _
    have lb : bs.length ≤ wt bs := Nat.le_add_left _ _
    refine ⟨p4, p5, _, _, rfl, rfl, h4, h5, ?_, fun p6 hp6 => fin _ p6 (as ++ bs) k hk (kp.trans (Kp.of (same_new hp6))) (hw.same (same_new hp6)) (by rw [upd_same, List.map_append]) (by rw [wt_app]; exact hwt)⟩
    rw [List.length_map, List.length_map, sizeLine_eq]
    omega
  have ww := wds_wt x
  refine ⟨_, _, rfl, ?_⟩
  refine ⟨_, rfl, rfl, _, rfl, ite2 (fun _ => ?_) fun _ => ?_⟩
  · refine ⟨⟨_, rfl⟩, _, rfl, _, rfl, at', rfl, sl0 _ _ _ hpw3 fun p4 hp4 => ?_⟩
    have k4 : Same H3 (upd H3 p4 (.lst (((wds x).take at').map V.str))) := same_new hp4
    refine ⟨_, rfl, _, rfl, _, _, rfl, rfl, ((at' + 1 : Nat) : Int), rfl, pw, _, rfl, SqL.of (k4 _ _ hpw3), fun p5 hp5 => ?_⟩
    rw [cut_from, ← List.map_drop]
    refine cat _ p4 p5 _ _ 2 (by omega) (k03.trans ((Kp.of k4).trans (Kp.of (same_new hp5)))) ((hW3.same k4).same (same_new hp5)) (same_new hp5 _ _ upd_same) upd_same ?_
    have h1 := wt_split (wds x) at'
    have h2 := wt_drop (wds x) at' (at' + 1) (by omega)
    omega
  refine ⟨_, rfl, rfl, _, rfl, ite2 (fun _ => ?_) fun _ => ?_⟩
  · refine ⟨⟨_, rfl⟩, _, rfl, _, rfl, _, _, rfl, rfl, ((at' + 1 : Nat) : Int), rfl, sl0 _ _ _ hpw3 fun p4 hp4 => ?_⟩
    have k4 : Same H3 (upd H3 p4 (.lst (((wds x).take (at' + 1)).map V.str))) := same_new hp4
    refine ⟨_, rfl, _, rfl, at', rfl, pw, _, rfl, SqL.of (k4 _ _ hpw3), fun p5 hp5 => ?_⟩
    rw [cut_from, ← List.map_drop]
    refine cat _ p4 p5 _ _ 2 (by omega) (k03.trans ((Kp.of k4).trans (Kp.of (same_new hp5)))) ((hW3.same k4).same (same_new hp5)) (same_new hp5 _ _ upd_same) upd_same ?_
    have h1 := wt_split (wds x) at'
    have h2 := wt_split (wds x) (at' + 1)
    omega
  refine ⟨_, rfl, rfl, _, rfl, ite2 (fun _ => ?_) fun _ => ?_⟩
  · have lu := len_upper x
    have lrp := repl_len x
    refine ⟨_, rfl, _, rfl, _, _, rfl, rfl, ?_, _, rfl, _, _, rfl, rfl, ?_, _, rfl, ⟨_, rfl⟩, x, rfl, rfl, by omega, _, rfl, _, _, rfl, rfl, ?_, _, rfl, x, rfl, ?_, by show 5 ≤ sizeLine; decide, fun p hp => ?_⟩
    · rw [sizeLine_eq]
      show 1 + x.length ≤ _
      omega
    · rw [sizeLine_eq]
      show x.length + 1 ≤ _
      omega
    · rw [sizeLine_eq]
      show x.length + 2 ≤ _
      omega
    · show x.length + (x.length + 1) * 2 ≤ _
      omega
    have np := hW3.ne hp
    refine ⟨w, l, p, _, C + 2, rfl, hW3.new np, by omega, np, SqL.of upd_same, by show 0 < 5; decide, by show 5 ≤ 1000000; decide, fun H4 i hi k4 hW4 => ?_⟩
    obtain ⟨z, ez, hz⟩ : ∃ z, ([.str (" " ++ x), .str (x ++ " "), .str (Txt.upper x), .str (x ++ " 0"), .str (Txt.replace x " " "  ")] : List V)[i] = .str z ∧ z.length ≤ x.length + 2 * M := by
      have hi' : i < 5 := hi
      match i, hi' with
      | 0, _ => exact ⟨_, rfl, by rw [app_len]; show 1 + x.length ≤ _; omega⟩
      | 1, _ => exact ⟨_, rfl, by rw [app_len]; show x.length + 1 ≤ _; omega⟩
      | 2, _ => exact ⟨_, rfl, by omega⟩
      | 3, _ => exact ⟨_, rfl, by rw [app_len]; show x.length + 2 ≤ _; omega⟩
      | 4, _ => exact ⟨_, rfl, by omega⟩
    show Q (([.str (" " ++ x), .str (x ++ " "), .str (Txt.upper x), .str (x ++ " 0"), .str (Txt.replace x " " "  ")] : List V)[i]) H4
    rw [ez]
    exact q H4 z (k03.trans ((Kp.new hp).trans k4)) (hW4.mono (by omega)) hz
  refine ⟨_, rfl, rfl, _, rfl, ite2 (fun _ => ?_) fun _ => ?_⟩
  · refine ⟨⟨_, rfl⟩, _, rfl, pw, _, rfl, SqL.of hpw3, fun p4 hp4 => ?_⟩
    rw [← List.map_reverse]
    refine fin _ p4 _ 2 (by omega) (k03.trans (Kp.of (same_new hp4))) (hW3.same (same_new hp4)) upd_same ?_
    rw [wt_rev]
    omega
  refine ⟨⟨_, rfl⟩, _, rfl, _, rfl, at', rfl, sl0 _ _ _ hpw3 fun p4 hp4 => ?_⟩
  have k4 : Same H3 (upd H3 p4 (.lst (((wds x).take at').map V.str))) := same_new hp4
  have h4 : (upd H3 p4 (.lst (((wds x).take at').map V.str))) p4 = some (.lst (((wds x).take at').map V.str)) := upd_same
  have k04 := k03.trans (Kp.of k4)
  have hW4 := hW3.same k4
  have hpw4 := k4 _ _ hpw3
  have n4 := hW3.ne hp4
  generalize upd H3 p4 (.lst (((wds x).take at').map V.str)) = H4 at k4 h4 k04 hW4 hpw4 ⊢
  refine ⟨_, rfl, w, l, C + 2, rfl, hW4, by omega, fun H5 z k5 hW5 hz => ⟨by show 1 ≤ sizeLine; decide, fun p6 hp6 => ?_⟩⟩
  have k56 : Same H5 (upd H5 p6 (.lst [.str z])) := same_new hp6
  have h6 : (upd H5 p6 (.lst [.str z])) p6 = some (.lst [.str z]) := upd_same
  have hW6 := hW5.same k56
  have k06 := (k04.trans k5).trans (Kp.of k56)
  have h46 := k56 _ _ (k5 _ _ n4 h4)
  have hpw6 := k56 _ _ (k5 _ _ npw hpw4)
  generalize upd H5 p6 (.lst [.str z]) = H6 at k56 h6 hW6 k06 h46 hpw6 ⊢
  refine ⟨p4, p6, _, _, rfl, rfl, h46, h6, ?_, fun p7 hp7 => ?_⟩
  · rw [List.length_map, List.length_take, sizeLine_eq]
    show _ + 1 ≤ _
    omega
  have k7 : Same H6 (upd H6 p7 (.lst (((wds x).take at').map V.str ++ [.str z]))) := same_new hp7
  have h7 : (upd H6 p7 (.lst (((wds x).take at').map V.str ++ [.str z]))) p7 = some (.lst (((wds x).take at' ++ [z]).map V.str)) := by rw [upd_same, List.map_append]; rfl
  refine ⟨_, rfl, _, rfl, _, _, rfl, rfl, ((at' + 1 : Nat) : Int), rfl, pw, _, rfl, SqL.of (k7 _ _ hpw6), fun p8 hp8 => ?_⟩
  rw [cut_from, ← List.map_drop]
  refine cat _ p7 p8 _ _ 10 (by omega) (k06.trans ((Kp.of k7).trans (Kp.of (same_new hp8)))) (((hW6.same k7).same (same_new hp8)).mono (by omega)) (same_new hp8 _ _ h7) upd_same ?_
  have h1 := wt_split (wds x) at'
  have h2 := wt_drop (wds x) at' (at' + 1) (by omega)
  rw [wt_app, wt_one]
  omega
end
end K04
set_option Elab.async false
set_option linter.all false
set_option maxRecDepth 100000
set_option maxHeartbeats 4000000
set_option pp.maxSteps 2500
/-! k04: texts bent. -/
namespace K04
open PySem PySem.Spec PyProof.Rows L2 Zg Zr Zd Zv
open TL (tl len_tl ext_tl)
def moreL : List PySem.Str := ["", "size 2", "resting -", "resting 0", "action a 0", "action z -,-", "action b 0,1,2", "action m 1,-"]
theorem more_len : ∀ z ∈ moreL, z.length ≤ 14 := by decide +kernel
/-- lines of at most M signs, all of them with a weight of at most t -/
structure Ln (M t : Nat) (ls : List PySem.Str) : Prop where
  ne : ls ≠ []
  le : ∀ x ∈ ls, x.length ≤ M
  wt : wt ls ≤ t
section
variable {P : Program} {w : World} {K : PySem.W.Frag} {mg : PySem.Str → Option Value} {base : Heap}
def sp_bent : Sp := fun vs H Q _ => ∃ (w l a : Addr) (C M t : Nat) (ls : List PySem.Str), vs = [.ref w, .ref a] ∧ Well H w l C ∧ C + 20 < LIM ∧ a ∉ [w, l] ∧ H a = some (.lst (ls.map V.str)) ∧ Ln M t ls ∧ 15 ≤ M ∧ M ≤ 1000 ∧ t ≤ 2000 ∧
  ∀ (H' : Hp) (p : Addr) (ls' : List PySem.Str), Kp [w, l] H H' → Well H' w l (C + 20) → H p = none → p ∉ [w, l] → H' p = some (.lst (ls'.map V.str)) → Ln (3 * M) (t + 2 * M) ls' → Q (.ref p) H'
theorem ok_bent (T : Txt K mg) : FnOk P w K mg base CX0 5 T.a_bent T.d_bent P_bent sp_bent := by
  refine T.F_bent.ok sc_bent (fun vs H Q E h => by obtain ⟨w, l, a, C, M, t, ls, rfl, _⟩ := h; rfl) (fun cdv A outer s H vs Q E hr h => ?_)
  refine ⟨_, (pss_cons (ps_par (i := 2) (j := 3) (by rfl) sc_bent.nd rfl rfl (by decide) rfl rfl (pa_cons (pe_call (ok_drawn T) (hr.mono (by decide)) (by rfl) T.g_drawn T.F_drawn.kp T.b_drawn .nil pass0 (pa_cons (pv 0) (pa_cons (pe_callB call_len_seq (by rfl) T.n_len (by decide +kernel) (pa_cons (pv 1) pa_nil)) pa_nil))) (pa_cons (pe_call (ok_drawn T) (hr.mono (by decide)) (by rfl) T.g_drawn T.F_drawn.kp T.b_drawn .nil pass0 (pa_cons (pv 0) (pa_cons pe_int pa_nil))) pa_nil)) (by rfl))
    (pss_cons (ps_if (pt_cmpR op_eq (pv 3) pe_int (nomark _)) (pss_one (ps_ret (pe_op op_cat (pe_op op_cat (pe_slice sl_list (pv 1) po_none (po_some (pv 2))) (pe_slice sl_list (pv 1) (po_some (pe_op op_add (pv 2) pe_int)) po_none)) (pe_op op_rep (pe_lst (pa_cons pe_str pa_nil)) (pe_callTy call_int1 (by rfl) T.n_int (by decide +kernel) (pa_cons (pe_cmpR op_eq (pe_callB call_len_seq (by rfl) T.n_len (by decide +kernel) (pa_cons (pv 1) pa_nil)) pe_int (nomark _)) pa_nil)))))) pss_nil)
    (pss_cons (ps_if (pt_cmpR op_eq (pv 3) pe_int (nomark _)) (pss_one (ps_ret (pe_op op_cat (pe_slice sl_list (pv 1) po_none (po_some (pe_op op_add (pv 2) pe_int))) (pe_slice sl_list (pv 1) (po_some (pv 2)) po_none)))) pss_nil)
    (pss_cons (ps_if (pt_cmpR op_eq (pv 3) pe_int (nomark _)) (pss_cons (ps_set (i := 4) sc_bent.nd rfl (Or.inl rfl) (pe_lst (pa_cons pe_str (pa_cons pe_str (pa_cons pe_str (pa_cons pe_str (pa_cons pe_str (pa_cons pe_str (pa_cons pe_str (pa_cons pe_str pa_nil))))))))))
    (pss_one (ps_ret (pe_op op_cat (pe_op op_cat (pe_slice sl_list (pv 1) po_none (po_some (pv 2))) (pe_lst (pa_cons (pe_call (ok_one_of T) (hr.mono (by decide)) (by rfl) T.g_one_of T.F_one_of.kp T.b_one_of .nil pass0 (pa_cons (pv 0) (pa_cons (pv 4) pa_nil))) pa_nil))) (pe_slice sl_list (pv 1) (po_some (pv 2)) po_none))))) pss_nil)
    (pss_cons (ps_if (pt_cmpR op_eq (pv 3) pe_int (nomark _)) (pss_one (ps_ret (pe_revL (pv 1)))) pss_nil)
    (pss_cons (ps_if (pt_cmpR op_eq (pv 3) pe_int (nomark _)) (pss_one (ps_ret (pe_call (ok_one_of T) (hr.mono (by decide)) (by rfl) T.g_one_of T.F_one_of.kp T.b_one_of .nil pass0 (pa_cons (pv 0) (pa_cons (pe_lst (pa_cons (pe_op op_cat (pv 1) (pe_lst (pa_cons pe_str pa_nil))) (pa_cons (pe_op op_cat (pe_lst (pa_cons pe_str pa_nil)) (pv 1)) (pa_cons (pe_slice sl_list (pv 1) po_none (po_some (pe_op op_add (pv 2) pe_int))) (pa_cons (pe_slice sl_list (pv 1) po_none (po_some pe_int)) (pa_cons (pe_slice sl_list (pv 1) po_none (po_some pe_int)) pa_nil)))))) pa_nil))))) pss_nil)
    (pss_one (ps_ret (pe_op op_cat (pe_op op_cat (pe_slice sl_list (pv 1) po_none (po_some (pv 2))) (pe_lst (pa_cons (pe_call (ok_line_bent T) (hr.mono (by decide)) (by rfl) T.g_line_bent T.F_line_bent.kp T.b_line_bent .nil pass0 (pa_cons (pv 0) (pa_cons (pe_ix ix_list (pv 1) (pv 2) (fun _ _ => rfl)) pa_nil))) pa_nil))) (pe_slice sl_list (pv 1) (po_some (pe_op op_add (pv 2) pe_int)) po_none)))))))))), ?_⟩
  obtain ⟨w, l, a, C, M, t, ls, rfl, hW, hC, na, ha, ln, m15, m1, ht, q⟩ := h
  have lp : 0 < ls.length := List.length_pos_iff.mpr ln.ne
  have lw : ls.length ≤ wt ls := Nat.le_add_left _ _
  have lt := ln.wt
  refine ⟨_, rfl, _, rfl, a, _, rfl, .inl (SqL.of ha), w, l, _, C, rfl, hW, by omega, by rw [List.length_map]; omega, by rw [List.length_map]; omega, fun H2 i0 k2 hW2 a0 a1 => ?_⟩
  rw [List.length_map] at a1
  obtain ⟨i, rfl⟩ := Int.eq_ofNat_of_zero_le a0
  have ha2 := k2 _ _ na ha
  refine ⟨_, rfl, w, l, 9, C + 1, rfl, hW2, by omega, by decide, by decide, fun H3 y k3 hW3 y0 y1 => ?_⟩
  have ha3 := k3 _ _ na ha2
  have k03 := k2.trans k3
  obtain ⟨z, hz⟩ : ∃ z, ls[i]? = some z := ⟨_, List.getElem?_eq_getElem (by omega : i < ls.length)⟩
  have hwi := wt_at hz
  have hzm := List.mem_of_getElem? hz
  have hzl := ln.le z hzm
  have fin : ∀ (Hh : Hp) (p : Addr) (ys : List PySem.Str) (k : Nat) (H9 : Hp), k ≤ 20 → Kp [w, l] H Hh → Well Hh w l (C + k) → Hh p = none → H9 = upd Hh p (.lst (ys.map V.str)) → Ln (3 * M) (t + 2 * M) ys → Q (.ref p) H9 := fun Hh p ys k H9 hk kp hw hp e h => by
    subst e
    have np := hw.ne hp
    exact q _ p ys (kp.trans (Kp.of (same_new hp))) ((hw.same (same_new hp)).mono (by omega)) (kp.free np hp) np upd_same h
  have tk : ∀ k, ∀ x ∈ ls.take k, x.length ≤ M := fun k x hx => ln.le x (List.mem_of_mem_take hx)
  have dk : ∀ k, ∀ x ∈ ls.drop k, x.length ≤ M := fun k x hx => ln.le x (List.mem_of_mem_drop hx)
  have both : ∀ (as bs : List PySem.Str), (∀ x ∈ as, x.length ≤ 3 * M) → (∀ x ∈ bs, x.length ≤ 3 * M) → ∀ x ∈ as ++ bs, x.length ≤ 3 * M := fun as bs h1 h2 x hx => (List.mem_append.mp hx).elim (h1 x) (h2 x)
  have up : ∀ (as : List PySem.Str), (∀ x ∈ as, x.length ≤ M) → ∀ x ∈ as, x.length ≤ 3 * M := fun as h x hx => by have := h x hx; omega
  have htk : ∀ k, ((ls.take k).map V.str).length ≤ 2000 := fun k => by
    rw [List.length_map, List.length_take]
    omega
  have hdk : ∀ k, ((ls.drop k).map V.str).length ≤ 2000 := fun k => by
    rw [List.length_map, List.length_drop]
    omega
  have nz : ∀ ys : List PySem.Str, 0 < wt ys → ys ≠ [] := fun ys h e => by
    rw [e] at h
    exact Nat.lt_irrefl 0 h
  have e1 : ∀ x ∈ [("" : PySem.Str)], x.length ≤ 3 * M := fun x hx => by
    rw [List.mem_singleton.mp hx]
    exact Nat.zero_le _
  have w1 : wt [("" : PySem.Str)] = 1 := rfl
  refine ⟨_, _, rfl, ?_⟩
  refine ⟨_, rfl, rfl, _, rfl, ite2 (fun _ => ?_) fun _ => ?_⟩
  · refine ⟨_, rfl, _, rfl, i, rfl, a, _, rfl, SqL.of ha3, fun p4 hp4 => ?_⟩
    rw [cut_to, ← List.map_take]
    have k4 : Same H3 (upd H3 p4 (.lst ((ls.take i).map V.str))) := same_new hp4
    have h4 : (upd H3 p4 (.lst ((ls.take i).map V.str))) p4 = some (.lst ((ls.take i).map V.str)) := upd_same
    generalize upd H3 p4 (.lst ((ls.take i).map V.str)) = H4 at k4 h4 ⊢
    refine ⟨_, rfl, _, rfl, _, _, rfl, rfl, ((i + 1 : Nat) : Int), rfl, a, _, rfl, SqL.of (k4 _ _ ha3), fun p5 hp5 => ?_⟩
    rw [cut_from, ← List.map_drop]
    have k5 : Same H4 (upd H4 p5 (.lst ((ls.drop (i + 1)).map V.str))) := same_new hp5
    have h5 : (upd H4 p5 (.lst ((ls.drop (i + 1)).map V.str))) p5 = some (.lst ((ls.drop (i + 1)).map V.str)) := upd_same
    generalize upd H4 p5 (.lst ((ls.drop (i + 1)).map V.str)) = H5 at k5 h5 ⊢
    refine ⟨p4, p5, _, _, rfl, rfl, k5 _ _ h4, h5, by have := htk i; have := hdk (i + 1); rw [sizeLine_eq]; omega, fun p6 hp6 => ?_⟩
    have k6 : Same H5 (upd H5 p6 (.lst ((ls.take i).map V.str ++ (ls.drop (i + 1)).map V.str))) := same_new hp6
    have h6 : (upd H5 p6 (.lst ((ls.take i).map V.str ++ (ls.drop (i + 1)).map V.str))) p6 = some (.lst ((ls.take i ++ ls.drop (i + 1)).map V.str)) := by rw [upd_same, List.map_append]
    generalize upd H5 p6 (.lst ((ls.take i).map V.str ++ (ls.drop (i + 1)).map V.str)) = H6 at k6 h6 ⊢
    refine ⟨by show 1 ≤ sizeLine; decide, fun p7 hp7 => ?_⟩
    have k7 : Same H6 (upd H6 p7 (.lst [.str ""])) := same_new hp7
    have h7 : (upd H6 p7 (.lst [.str ""])) p7 = some (.lst [.str ""]) := upd_same
    have S7 := k4.trans (k5.trans (k6.trans k7))
    have h67 := k7 _ _ h6
    have ha7 := S7 _ _ ha3
    generalize upd H6 p7 (.lst [.str ""]) = H7 at k7 h7 S7 h67 ha7 ⊢
    obtain ⟨kk, hkk, E', eE, hE, hE1⟩ : ∃ kk : Int, (if decide (V.int ((ls.map V.str).length : Nat) = V.int 1) = true then (1 : Int) else 0) = kk ∧ ∃ E' : List PySem.Str, (List.replicate kk.toNat [V.str ""]).flatten = E'.map V.str ∧ (kk = 0 ∧ ls.length ≠ 1 ∧ E' = [] ∨ kk = 1 ∧ E' = [("" : PySem.Str)]) ∧ 0 ≤ kk ∧ kk ≤ 1 := by
      rw [List.length_map]
      by_cases h1 : ls.length = 1
      · rw [decide_eq_true (by rw [h1]; rfl)]
        exact ⟨1, rfl, [("" : PySem.Str)], rfl, .inr ⟨rfl, rfl⟩, by decide, by decide⟩
      · rw [decide_eq_false (fun e => h1 (by injection e with e; omega))]
        exact ⟨0, rfl, [], rfl, .inl ⟨rfl, h1, rfl⟩, by decide, by decide⟩
    refine ⟨_, rfl, a, _, rfl, .inl (SqL.of ha7), rfl, .inr ⟨_, rfl, p7, kk, [.str ""], rfl, congrArg V.int hkk, h7, by omega, by omega, ?_, fun p8 hp8 => ?_⟩⟩
    · rw [sizeLine_eq]
      show 1 * _ ≤ _
      omega
    rw [eE]
    have k8 : Same H7 (upd H7 p8 (.lst (E'.map V.str))) := same_new hp8
    have h8 : (upd H7 p8 (.lst (E'.map V.str))) p8 = some (.lst (E'.map V.str)) := upd_same
    generalize upd H7 p8 (.lst (E'.map V.str)) = H8 at k8 h8 ⊢
    have S8 := S7.trans k8
    have hwt : wt (ls.take i ++ ls.drop (i + 1)) = wt ls - (z.length + 1) := by
      rw [wt_app]
      omega
    have hwE : wt E' ≤ 1 := by
      rcases hE with ⟨_, _, rfl⟩ | ⟨_, rfl⟩
      · exact Nat.zero_le _
      · exact Nat.le_refl _
    have hlE : (E'.map V.str).length ≤ 1 := by
      rcases hE with ⟨_, _, rfl⟩ | ⟨_, rfl⟩
      · exact Nat.zero_le _
      · exact Nat.le_refl _
    refine ⟨p6, p8, _, _, rfl, rfl, k8 _ _ h67, h8, by have := htk i; have := hdk (i + 1); rw [List.map_append, List.length_append, sizeLine_eq]; omega, fun p9 hp9 => ?_⟩
    refine fin H8 p9 (ls.take i ++ ls.drop (i + 1) ++ E') 2 _ (by omega) (k03.trans (Kp.of S8)) (hW3.same S8) hp9 (by rw [List.map_append (l₂ := E')]) ⟨fun e => ?_, both _ _ (both _ _ (up _ (tk _)) (up _ (dk _))) (fun x hx => ?_), by rw [wt_app]; omega⟩
    · rcases hE with ⟨_, h1, rfl⟩ | ⟨_, rfl⟩
      · have := congrArg List.length e
        rw [List.append_nil, List.length_append, List.length_take, List.length_drop, List.length_nil] at this
        omega
      · exact absurd (List.append_eq_nil_iff.mp e).2 (List.cons_ne_nil _ _)
    · rcases hE with ⟨_, h1, rfl⟩ | ⟨_, rfl⟩
      · cases hx
      · exact e1 x hx
  refine ⟨_, rfl, rfl, _, rfl, ite2 (fun _ => ?_) fun _ => ?_⟩
  · refine ⟨_, rfl, _, rfl, _, _, rfl, rfl, ((i + 1 : Nat) : Int), rfl, a, _, rfl, SqL.of ha3, fun p4 hp4 => ?_⟩
    rw [cut_to, ← List.map_take]
    have k4 : Same H3 (upd H3 p4 (.lst ((ls.take (i + 1)).map V.str))) := same_new hp4
    have h4 : (upd H3 p4 (.lst ((ls.take (i + 1)).map V.str))) p4 = some (.lst ((ls.take (i + 1)).map V.str)) := upd_same
    generalize upd H3 p4 (.lst ((ls.take (i + 1)).map V.str)) = H4 at k4 h4 ⊢
    refine ⟨_, rfl, _, rfl, i, rfl, a, _, rfl, SqL.of (k4 _ _ ha3), fun p5 hp5 => ?_⟩
    rw [cut_from, ← List.map_drop]
    have k5 : Same H4 (upd H4 p5 (.lst ((ls.drop i).map V.str))) := same_new hp5
    have h5 : (upd H4 p5 (.lst ((ls.drop i).map V.str))) p5 = some (.lst ((ls.drop i).map V.str)) := upd_same
    generalize upd H4 p5 (.lst ((ls.drop i).map V.str)) = H5 at k5 h5 ⊢
    have S5 := k4.trans k5
    have hw2 := wt_split ls i
    have hw3 := wt_split ls (i + 1)
    have hwt : wt (ls.take (i + 1) ++ ls.drop i) = wt ls + z.length + 1 := by
      rw [wt_app]
      omega
    refine ⟨p4, p5, _, _, rfl, rfl, k5 _ _ h4, h5, by have := htk (i + 1); have := hdk i; rw [sizeLine_eq]; omega, fun p6 hp6 => ?_⟩
    exact fin H5 p6 (ls.take (i + 1) ++ ls.drop i) 2 _ (by omega) (k03.trans (Kp.of S5)) (hW3.same S5) hp6 (by rw [List.map_append]) ⟨nz _ (by omega), both _ _ (up _ (tk _)) (up _ (dk _)), by omega⟩
  refine ⟨_, rfl, rfl, _, rfl, ite2 (fun _ => ?_) fun _ => ?_⟩
  · refine ⟨by show 8 ≤ sizeLine; decide, fun p4 hp4 => ?_⟩
    have k4 : Same H3 (upd H3 p4 (.lst (moreL.map V.str))) := same_new hp4
    have h4 : (upd H3 p4 (.lst (moreL.map V.str))) p4 = some (.lst (moreL.map V.str)) := upd_same
    have n4 := hW3.ne hp4
    show (gName 4) (V.ref p4) _ (upd H3 p4 (.lst (moreL.map V.str))) _
    generalize upd H3 p4 (.lst (moreL.map V.str)) = H4 at k4 h4 ⊢
    refine ⟨_, rfl, _, rfl, i, rfl, a, _, rfl, SqL.of (k4 _ _ ha3), fun p5 hp5 => ?_⟩
    rw [cut_to, ← List.map_take]
    have k5 : Same H4 (upd H4 p5 (.lst ((ls.take i).map V.str))) := same_new hp5
    have h5 : (upd H4 p5 (.lst ((ls.take i).map V.str))) p5 = some (.lst ((ls.take i).map V.str)) := upd_same
    have n5 := (hW3.same k4).ne hp5
    generalize upd H4 p5 (.lst ((ls.take i).map V.str)) = H5 at k5 h5 ⊢
    have S5 := k4.trans k5
    refine ⟨_, rfl, _, rfl, w, l, p4, moreL.map V.str, C + 2, rfl, hW3.same S5, by omega, n4, SqL.of (k5 _ _ h4), by show 0 < 8; decide, by show 8 ≤ 1000000; decide, fun H6 j hj k6 hW6 => ?_⟩
    rw [List.getElem_map]
    have hj' : j < moreL.length := by rw [List.length_map] at hj; exact hj
    have hzz := more_len _ (List.getElem_mem hj')
    generalize moreL[j] = zz at hzz ⊢
    refine ⟨by show 1 ≤ sizeLine; decide, fun p7 hp7 => ?_⟩
    have k7 : Same H6 (upd H6 p7 (.lst [.str zz])) := same_new hp7
    have h7 : (upd H6 p7 (.lst [.str zz])) p7 = some (.lst ([zz].map V.str)) := upd_same
    show rCat _ _ (upd H6 p7 (.lst [.str zz])) _
    generalize upd H6 p7 (.lst [.str zz]) = H7 at k7 h7 ⊢
    refine ⟨p5, p7, _, _, rfl, rfl, k7 _ _ (k6 _ _ n5 h5), h7, by have := htk i; rw [sizeLine_eq]; show _ + 1 ≤ _; omega, fun p8 hp8 => ?_⟩
    have k8 : Same H7 (upd H7 p8 (.lst ((ls.take i).map V.str ++ [zz].map V.str))) := same_new hp8
    have h8 : (upd H7 p8 (.lst ((ls.take i).map V.str ++ [zz].map V.str))) p8 = some (.lst ((ls.take i ++ [zz]).map V.str)) := by rw [upd_same, List.map_append]
    generalize upd H7 p8 (.lst ((ls.take i).map V.str ++ [zz].map V.str)) = H8 at k8 h8 ⊢
    have ha8 := k8 _ _ (k7 _ _ (k6 _ _ na (S5 _ _ ha3)))
    refine ⟨_, rfl, _, rfl, i, rfl, a, _, rfl, SqL.of ha8, fun p9 hp9 => ?_⟩
    rw [cut_from, ← List.map_drop]
    have k9 : Same H8 (upd H8 p9 (.lst ((ls.drop i).map V.str))) := same_new hp9
    have h9 : (upd H8 p9 (.lst ((ls.drop i).map V.str))) p9 = some (.lst ((ls.drop i).map V.str)) := upd_same
    generalize upd H8 p9 (.lst ((ls.drop i).map V.str)) = H9 at k9 h9 ⊢
    have hw2 := wt_split ls i
    have hwt : wt (ls.take i ++ [zz] ++ ls.drop i) = wt ls + zz.length + 1 := by
      rw [wt_app, wt_app, wt_one]
      omega
    have S9 := k7.trans (k8.trans k9)
    refine ⟨p8, p9, _, _, rfl, rfl, k9 _ _ h8, h9, by have := htk i; have := hdk i; rw [List.map_append, List.length_append, sizeLine_eq]; show _ + 1 + _ ≤ _; omega, fun p10 hp10 => ?_⟩
    exact fin H9 p10 (ls.take i ++ [zz] ++ ls.drop i) 3 _ (by omega) ((k03.trans (Kp.of S5)).trans (k6.trans (Kp.of S9))) (hW6.same S9) hp10 (by rw [List.map_append (l₂ := ls.drop i)]) ⟨nz _ (by omega), both _ _ (both _ _ (up _ (tk _)) (fun x hx => by rw [List.mem_singleton.mp hx]; omega)) (up _ (dk _)), by omega⟩
  refine ⟨_, rfl, rfl, _, rfl, ite2 (fun _ => ?_) fun _ => ?_⟩
  · refine ⟨_, rfl, a, _, rfl, SqL.of ha3, fun p4 hp4 => ?_⟩
    exact fin H3 p4 ls.reverse 2 _ (by omega) k03 hW3 hp4 (by rw [List.map_reverse]) ⟨fun e => ln.ne (List.reverse_eq_nil_iff.mp e), up _ fun x hx => ln.le x (List.mem_reverse.mp hx), by rw [wt_rev]; omega⟩
  refine ⟨_, rfl, rfl, _, rfl, ite2 (fun _ => ?_) fun _ => ?_⟩
  · refine ⟨_, rfl, _, rfl, by show 1 ≤ sizeLine; decide, fun p4 hp4 => ?_⟩
    have k4 : Same H3 (upd H3 p4 (.lst [.str ""])) := same_new hp4
    have h4 : (upd H3 p4 (.lst [.str ""])) p4 = some (.lst ([("" : PySem.Str)].map V.str)) := upd_same
    generalize upd H3 p4 (.lst [.str ""]) = H4 at k4 h4 ⊢
    have hlm : (ls.map V.str).length ≤ 2000 := by rw [List.length_map]; omega
    refine ⟨a, p4, _, _, rfl, rfl, k4 _ _ ha3, h4, by rw [sizeLine_eq]; show _ + 1 ≤ _; omega, fun p5 hp5 => ?_⟩
    have k5 : Same H4 (upd H4 p5 (.lst (ls.map V.str ++ [("" : PySem.Str)].map V.str))) := same_new hp5
    have h5 : (upd H4 p5 (.lst (ls.map V.str ++ [("" : PySem.Str)].map V.str))) p5 = some (.lst ((ls ++ [("" : PySem.Str)]).map V.str)) := by rw [upd_same, List.map_append]
    have n5 := (k03.trans (Kp.of k4)).free ((hW3.same k4).ne hp5) hp5
    have o5 := (hW3.same k4).ne hp5
    generalize upd H4 p5 (.lst (ls.map V.str ++ [("" : PySem.Str)].map V.str)) = H5 at k5 h5 ⊢
    have S5 := k4.trans k5
    refine ⟨by show 1 ≤ sizeLine; decide, fun p6 hp6 => ?_⟩
    have k6 : Same H5 (upd H5 p6 (.lst [.str ""])) := same_new hp6
    have h6 : (upd H5 p6 (.lst [.str ""])) p6 = some (.lst ([("" : PySem.Str)].map V.str)) := upd_same
    generalize upd H5 p6 (.lst [.str ""]) = H6 at k6 h6 ⊢
    have S6 := S5.trans k6
    refine ⟨_, rfl, p6, a, _, _, rfl, rfl, h6, S6 _ _ ha3, by rw [sizeLine_eq]; show 1 + _ ≤ _; omega, fun p7 hp7 => ?_⟩
    have k7 : Same H6 (upd H6 p7 (.lst ([("" : PySem.Str)].map V.str ++ ls.map V.str))) := same_new hp7
    have h7 : (upd H6 p7 (.lst ([("" : PySem.Str)].map V.str ++ ls.map V.str))) p7 = some (.lst (([("" : PySem.Str)] ++ ls).map V.str)) := by rw [upd_same, List.map_append]
    have o7 := (hW3.same S6).ne hp7
    have n7 := (k03.trans (Kp.of S6)).free o7 hp7
    generalize upd H6 p7 (.lst ([("" : PySem.Str)].map V.str ++ ls.map V.str)) = H7 at k7 h7 ⊢
    have S7 := S6.trans k7
    refine ⟨_, rfl, _, rfl, _, _, rfl, rfl, ((i + 1 : Nat) : Int), rfl, a, _, rfl, SqL.of (S7 _ _ ha3), fun p8 hp8 => ?_⟩
    rw [cut_to, ← List.map_take]
    have k8 : Same H7 (upd H7 p8 (.lst ((ls.take (i + 1)).map V.str))) := same_new hp8
    have h8 : (upd H7 p8 (.lst ((ls.take (i + 1)).map V.str))) p8 = some (.lst ((ls.take (i + 1)).map V.str)) := upd_same
    have o8 := (hW3.same S7).ne hp8
    have n8 := (k03.trans (Kp.of S7)).free o8 hp8
    generalize upd H7 p8 (.lst ((ls.take (i + 1)).map V.str)) = H8 at k8 h8 ⊢
    have S8 := S7.trans k8
    refine ⟨_, rfl, ((2 : Nat) : Int), rfl, a, _, rfl, SqL.of (S8 _ _ ha3), fun p9 hp9 => ?_⟩
    rw [cut_to, ← List.map_take]
    have k9 : Same H8 (upd H8 p9 (.lst ((ls.take 2).map V.str))) := same_new hp9
    have h9 : (upd H8 p9 (.lst ((ls.take 2).map V.str))) p9 = some (.lst ((ls.take 2).map V.str)) := upd_same
    have o9 := (hW3.same S8).ne hp9
    have n9 := (k03.trans (Kp.of S8)).free o9 hp9
    generalize upd H8 p9 (.lst ((ls.take 2).map V.str)) = H9 at k9 h9 ⊢
    have S9 := S8.trans k9
    refine ⟨_, rfl, ((1 : Nat) : Int), rfl, a, _, rfl, SqL.of (S9 _ _ ha3), fun p10 hp10 => ?_⟩
    rw [cut_to, ← List.map_take]
    have k10 : Same H9 (upd H9 p10 (.lst ((ls.take 1).map V.str))) := same_new hp10
    have h10 : (upd H9 p10 (.lst ((ls.take 1).map V.str))) p10 = some (.lst ((ls.take 1).map V.str)) := upd_same
    have o10 := (hW3.same S9).ne hp10
    have n10 := (k03.trans (Kp.of S9)).free o10 hp10
    generalize upd H9 p10 (.lst ((ls.take 1).map V.str)) = H10 at k10 h10 ⊢
    have S10 := S9.trans k10
    refine ⟨by show 5 ≤ sizeLine; decide, fun p11 hp11 => ?_⟩
    have k11 : Same H10 (upd H10 p11 (.lst [.ref p5, .ref p7, .ref p8, .ref p9, .ref p10])) := same_new hp11
    have h11 : (upd H10 p11 (.lst [.ref p5, .ref p7, .ref p8, .ref p9, .ref p10])) p11 = some (.lst [.ref p5, .ref p7, .ref p8, .ref p9, .ref p10]) := upd_same
    have o11 := (hW3.same S10).ne hp11
    have S11 := S10.trans k11
    refine ⟨w, l, p11, _, C + 2, rfl, hW3.same S11, by omega, o11, SqL.of h11, by show 0 < 5; decide, by show 5 ≤ 1000000; decide, fun H12 j hj k12 hW12 => ?_⟩
    have K12 := (k03.trans (Kp.of S11)).trans k12
    have end' : ∀ (p : Addr) (ys : List PySem.Str) (Hh : Hp), Same Hh H10 → H p = none → p ∉ [w, l] → Hh p = some (.lst (ys.map V.str)) → Ln (3 * M) (t + 2 * M) ys → Q (.ref p) H12 := fun p ys Hh Sh hp np h hl => q H12 p ys K12 (hW12.mono (by omega)) hp np (k12 _ _ np (k11 _ _ (Sh _ _ h))) hl
    have tln : ∀ k, 1 ≤ k → Ln (3 * M) (t + 2 * M) (ls.take k) := fun k hk => ⟨fun e => by
        have := congrArg List.length e
        rw [List.length_take, List.length_nil] at this
        omega, up _ (tk k), by have := wt_split ls k; omega⟩
    have hj' : j < 5 := hj
    match j, hj' with
    | 0, _ => exact end' p5 _ H5 (k6.trans (k7.trans (k8.trans (k9.trans k10)))) n5 o5 h5 ⟨nz _ (by rw [wt_app, w1]; omega), both _ _ (up _ ln.le) e1, by rw [wt_app, w1]; omega⟩
    | 1, _ => exact end' p7 _ H7 (k8.trans (k9.trans k10)) n7 o7 h7 ⟨nz _ (by rw [wt_app, w1]; omega), both _ _ e1 (up _ ln.le), by rw [wt_app, w1]; omega⟩
    | 2, _ => exact end' p8 _ H8 (k9.trans k10) n8 o8 h8 (tln _ (by omega))
    | 3, _ => exact end' p9 _ H9 k10 n9 o9 h9 (tln _ (by omega))
    | 4, _ => exact end' p10 _ H10 (Same.refl _) n10 o10 h10 (tln _ (by omega))
  refine ⟨_, rfl, _, rfl, i, rfl, a, _, rfl, SqL.of ha3, fun p5 hp5 => ?_⟩
  rw [cut_to, ← List.map_take]
  have k5 : Same H3 (upd H3 p5 (.lst ((ls.take i).map V.str))) := same_new hp5
  have h5 : (upd H3 p5 (.lst ((ls.take i).map V.str))) p5 = some (.lst ((ls.take i).map V.str)) := upd_same
  have n5 := hW3.ne hp5
  generalize upd H3 p5 (.lst ((ls.take i).map V.str)) = H5 at k5 h5 ⊢
  refine ⟨_, rfl, _, rfl, _, rfl, a, _, _, _, rfl, rfl, SqL.of (k5 _ _ ha3), atI_nat (j := i) (by rw [List.getElem?_map, hz]; rfl), w, l, C + 2, M, z, rfl, hW3.same k5, by omega, hzl, by omega, m1, fun H6 zz k6 hW6 hzz => ?_⟩
  refine ⟨by show 1 ≤ sizeLine; decide, fun p7 hp7 => ?_⟩
  have k7 : Same H6 (upd H6 p7 (.lst [.str zz])) := same_new hp7
  have h7 : (upd H6 p7 (.lst [.str zz])) p7 = some (.lst ([zz].map V.str)) := upd_same
  show rCat _ _ (upd H6 p7 (.lst [.str zz])) _
  generalize upd H6 p7 (.lst [.str zz]) = H7 at k7 h7 ⊢
  refine ⟨p5, p7, _, _, rfl, rfl, k7 _ _ (k6 _ _ n5 h5), h7, by have := htk i; rw [sizeLine_eq]; show _ + 1 ≤ _; omega, fun p8 hp8 => ?_⟩
  have k8 : Same H7 (upd H7 p8 (.lst ((ls.take i).map V.str ++ [zz].map V.str))) := same_new hp8
  have h8 : (upd H7 p8 (.lst ((ls.take i).map V.str ++ [zz].map V.str))) p8 = some (.lst ((ls.take i ++ [zz]).map V.str)) := by rw [upd_same, List.map_append]
  generalize upd H7 p8 (.lst ((ls.take i).map V.str ++ [zz].map V.str)) = H8 at k8 h8 ⊢
  have ha8 := k8 _ _ (k7 _ _ (k6 _ _ na (k5 _ _ ha3)))
  refine ⟨_, rfl, _, rfl, _, _, rfl, rfl, ((i + 1 : Nat) : Int), rfl, a, _, rfl, SqL.of ha8, fun p9 hp9 => ?_⟩
  rw [cut_from, ← List.map_drop]
  have k9 : Same H8 (upd H8 p9 (.lst ((ls.drop (i + 1)).map V.str))) := same_new hp9
  have h9 : (upd H8 p9 (.lst ((ls.drop (i + 1)).map V.str))) p9 = some (.lst ((ls.drop (i + 1)).map V.str)) := upd_same
  generalize upd H8 p9 (.lst ((ls.drop (i + 1)).map V.str)) = H9 at k9 h9 ⊢
  have hwt : wt (ls.take i ++ [zz] ++ ls.drop (i + 1)) + z.length = wt ls + zz.length := by
    rw [wt_app, wt_app, wt_one]
    omega
  have S9 := k7.trans (k8.trans k9)
  refine ⟨p8, p9, _, _, rfl, rfl, k9 _ _ h8, h9, by have := htk i; have := hdk (i + 1); rw [List.map_append, List.length_append, sizeLine_eq]; show _ + 1 + _ ≤ _; omega, fun p10 hp10 => ?_⟩
  exact fin H9 p10 (ls.take i ++ [zz] ++ ls.drop (i + 1)) 12 _ (by omega) ((k03.trans (Kp.of k5)).trans (k6.trans (Kp.of S9))) (hW6.same S9) hp10 (by rw [List.map_append (l₂ := ls.drop (i + 1))]) ⟨nz _ (by rw [wt_app, wt_app, wt_one]; omega), both _ _ (both _ _ (up _ (tk _)) (fun x hx => by rw [List.mem_singleton.mp hx]; omega)) (up _ (dk _)), by omega⟩
end
end K04
set_option Elab.async false
set_option linter.all false
set_option maxRecDepth 100000
set_option maxHeartbeats 4000000
set_option pp.maxSteps 2500
/-! k04: states, moves, names, as the law reads them. -/
namespace K04
open PySem PySem.Spec PyProof.Rows L2 Zg Zr Zd Zv
open TL (tl len_tl ext_tl)
/-- the states that a word writes, as the law reads them -/
def stL (n : Nat) (w : PySem.Str) : Option (List Nat) := if none ∈ (cm w).map intIn ∨ (((cm w).map intIn).any fun m => decide (n ≤ m.getD 0)) = true then none else some (((cm w).map intIn).map fun m => m.getD 0)
def badM (n : Nat) (p : PySem.Str) : Bool := decide (p ≠ "-") && (match intIn p with
  | none => true
  | some k => decide (n ≤ k))
def mvL (n : Nat) (w : PySem.Str) : Option (List (Option Nat)) := if ((cm w).any (badM n)) = true then none else if (cm w).length = n then some ((cm w).map mvOne) else none
theorem filt_any {n : Nat} {l : List Nat} : (l.filter fun k => decide (n ≤ k)).isEmpty = !(l.any fun k => decide (n ≤ k)) := by
  induction l with
  | nil => rfl
  | cons c l ih =>
    rw [List.filter_cons, List.any_cons]
    cases hc : decide (n ≤ c) with
    | true => rfl
    | false => exact ih
theorem all_some : ∀ {l : List (Option Nat)}, ¬ none ∈ l → ∃ ks : List Nat, l = ks.map some
  | [], _ => ⟨[], rfl⟩
  | none :: l, h => absurd List.mem_cons_self h
  | some k :: l, h => by
    obtain ⟨ks, e⟩ := all_some (l := l) fun z => h (List.mem_cons_of_mem _ z)
    exact ⟨k :: ks, by rw [e]; rfl⟩
section
variable {P : Program} {w : World} {K : PySem.W.Frag} {mg : PySem.Str → Option Value} {base : Heap}
theorem ok_w_is_name (T : Txt K mg) : FnOk P w K mg base CX0 1 T.a_w_is_name T.d_w_is_name P_w_is_name (fun vs H Q _ => ∃ x : PySem.Str, vs = [.str x] ∧ x.length ≤ 1000 ∧ ∀ H', Same H H' → Q (.bl (isName (.str x))) H') := by
  refine T.F_w_is_name.ok sc_w_is_name (fun vs H Q E h => by obtain ⟨x, rfl, _⟩ := h; rfl) (fun cdv A outer s H vs Q E hr h => ?_)
  refine ⟨_, (pss_one (ps_ret (pe_and (pe_chain op_lt op_lt pe_int (pe_callB call_len_str (by rfl) T.n_len (by decide +kernel) (pa_cons (pv 0) pa_nil)) pe_int) (pe_one (pe_cmpR (op_eqE (Nat.lt_of_le_of_lt (Nat.le_add_right _ 64) hr.units)) (pe_lc (own := [("sign", 1)]) rfl sc_w_is_name.nd (pi_str (pv 0)) (blkOk_by (own := [("sign", 1)]) (N := N_w_is_name) (sc := defScope s_w_is_name) (by decide +kernel)) (fun _ _ _ _ _ => (pg_name (i := 1) sc_w_is_name.nd rfl (Or.inl rfl))) (fun _ _ _ _ _ => (pts_one (pt_cmpR op_notIn_sign (pv 1) pe_str rfl))) (fun _ _ _ _ _ => (pv 1))) (pe_lst pa_nil) (nomark _)))))), ?_⟩
  obtain ⟨x, rfl, hl, q⟩ := h
  have qF : ∀ {H1 : Hp}, Same H H1 → isName (.str x) = false → Q (.bl false) H1 := fun k e => by
    have q' := q _ k
    rw [e] at q'
    exact q'
  have ei : isName (.str x) = (decide (1 ≤ x.length) && decide (x.length ≤ 8) && x.cps.toList.all fun c => decide (c ∈ ABC)) := rfl
  refine ⟨_, rfl, x, rfl, by rw [sizeLine_eq]; omega, _, _, rfl, rfl, _, rfl, ite2 (fun e => ?_) fun e => ?_⟩
  · have e := of_decide_eq_true e
    refine ⟨_, _, rfl, rfl, _, rfl, ite2 (fun e8 => ?_) fun e8 => ?_⟩
    · have e8 := of_decide_eq_true e8
      refine ⟨_, rfl, x, rfl, fun D hD => ?_⟩
      refine lc_it (walk_str (z := x)) (fun i H' => Same H H' ∧ H' D = some (.lst (((x.cps.toList.take i).filter fun c => !decide (c ∈ ABC)).map fun c => V.str ⟨#[c]⟩))) ⟨same_new hD, upd_same⟩ (fun _ _ _ _ => True.intro) ?_ ?_
      · rintro i y H1 H2 hi ⟨k, hDl⟩ ⟨rfl, c, hc, rfl⟩
        have hc' : x.cps.toList[i]? = some c := by simpa using hc
        refine ⟨rfl, _, rfl, c, _, rfl, rfl, _, rfl, ite2 (fun e3 => ?_) (fun e3 => ?_)⟩
        · refine ⟨_, rfl, _, hDl, ?_, ?_, ?_⟩
          · rw [List.length_map, sizeLine_eq]
            have q1 := List.length_filter_le (fun c => !decide (c ∈ ABC)) (x.cps.toList.take i)
            rw [List.length_take] at q1
            have : x.cps.toList.length = x.length := by simp [PySem.Str.length]
            omega
          · exact fun b o eb => by rw [upd_ne (ne_of_none eb hD)]; exact k _ _ eb
          · have e4 : (!decide (c ∈ ABC)) = true := e3
            rw [upd_same, List.take_succ, hc', List.filter_append, List.map_append]
            show some (HO.lst (_ ++ [V.str ⟨#[c]⟩])) = some (HO.lst (_ ++ List.map _ (List.filter _ [c])))
            rw [List.filter_cons_of_pos (p := fun c => !decide (c ∈ ABC)) e4]
            rfl
        · have e4 : ¬ (!decide (c ∈ ABC)) = true := e3
          refine ⟨k, ?_⟩
          rw [List.take_succ, hc', List.filter_append, List.map_append]
          show _ = some (HO.lst (_ ++ List.map _ (List.filter _ [c])))
          rw [List.filter_cons_of_neg (p := fun c => !decide (c ∈ ABC)) e4, List.filter_nil, List.map_nil, List.append_nil]
          exact hDl
      · rintro H1 ⟨k, hDl⟩
        refine ⟨by show 0 ≤ sizeLine; decide, fun p hp => ⟨D, p, _, rfl, rfl, .inl ⟨SqL.of (same_new hp _ _ hDl), SqL.of upd_same⟩, ?_⟩⟩
        have q' := q _ (k.trans (same_new (o := .lst []) hp))
        rw [ei, decide_eq_true (by omega), decide_eq_true (by omega), Bool.true_and, Bool.true_and] at q'
        rw [show x.cps.size = x.cps.toList.length by simp, List.take_length, List.isEmpty_map]
        have bl_eq : ∀ l : List Nat, (l.filter fun c => !decide (c ∈ ABC)).isEmpty = l.all (fun c => decide (c ∈ ABC)) := fun l => by
          induction l with
          | nil => rfl
          | cons c l ih =>
            rw [List.filter_cons, List.all_cons, ← ih]
            by_cases hc : c ∈ ABC
            · rw [decide_eq_true hc]
              rfl
            · rw [decide_eq_false hc]
              rfl
        rw [bl_eq]
        exact q'
    · have e8 : ¬ (x.length : Int) < 9 := fun z => e8 (decide_eq_true z)
      refine qF (Same.refl _) ?_
      rw [ei, decide_eq_false (p := x.length ≤ 8) (by omega), Bool.and_false]
      rfl
  · have e : ¬ (0 : Int) < (x.length : Int) := fun z => e (decide_eq_true z)
    refine ⟨false, rfl, qF (Same.refl _) ?_⟩
    rw [ei, decide_eq_false (p := 1 ≤ x.length) (by omega)]
    rfl
def sp_lst : Sp := fun vs H Q _ => ∃ (x : PySem.Str) (n : Nat), vs = [.str x, .int (n : Nat)] ∧ x.length ≤ 640 ∧ ∀ H' v, Same H H' → (match stL n x with
  | none => v = .non
  | some ks => ∃ p, v = .ref p ∧ H p = none ∧ H' p = some (.lst (ks.map fun k => V.int (k : Nat)))) → Q v H'
theorem ok_states (T : Txt K mg) : FnOk P w K mg base CX0 2 T.a_states T.d_states P_states sp_lst := by
  refine T.F_states.ok sc_states (fun vs H Q E h => by obtain ⟨x, n, rfl, _⟩ := h; rfl) (fun cdv A outer s H vs Q E hr h => ?_)
  refine ⟨_, (pss_cons (ps_setLc (i := 2) (own := [("part", 3)]) rfl sc_states.nd rfl rfl (sw_true rfl rfl rfl (by decide +kernel)) (pi_list (pe_split (pv 0) pe_str)) (blkOk_by (own := [("part", 3)]) (N := N_states) (sc := defScope s_states) (by decide +kernel)) (fun _ _ _ _ _ => (pg_name (i := 3) sc_states.nd rfl (Or.inl rfl))) (fun _ _ _ _ _ => pts_nil) (fun _ _ _ _ _ => (pe_call (ok_number T) (hr.mono (by decide)) (by rfl) T.g_number T.F_number.kp T.b_number .nil pass0 (pa_cons (pv 3) pa_nil))))
    (pss_one (ps_ret (pe_ifExp (PW.pt (pw_or (pt_cmpR op_in_seq pe_non (pv 2) (by rfl)) (pw_or1 (pt_cmpR (op_neE (Nat.lt_of_le_of_lt (Nat.le_add_right _ 64) hr.units)) (pe_lc (own := [("state", 4)]) rfl sc_states.nd (pi_list (pv 2)) (blkOk_by (own := [("state", 4)]) (N := N_states) (sc := defScope s_states) (by decide +kernel)) (fun _ _ _ _ _ => (pg_name (i := 4) sc_states.nd rfl (Or.inl rfl))) (fun _ _ _ _ _ => (pts_one (pt_cmpR op_ge (pv 4) (pv 1) (nomark _)))) (fun _ _ _ _ _ => (pv 4))) (pe_lst pa_nil) (nomark _))))) pe_non (pv 2))))), ?_⟩
  obtain ⟨x, n, rfl, hl, q⟩ := h
  have cl := cm_len x
  refine ⟨_, rfl, ⟨_, rfl⟩, x, _, rfl, rfl, rfl, by rw [sizeLine_eq]; omega, fun pw hpw => ?_⟩
  have k1 : Same H (upd H pw (.lst ((Txt.split x ",").map V.str))) := same_new hpw
  have hpw1 : (upd H pw (.lst ((Txt.split x ",").map V.str))) pw = some (.lst ((cm x).map V.str)) := upd_same
  generalize upd H pw (.lst ((Txt.split x ",").map V.str)) = H1 at k1 hpw1 ⊢
  refine ⟨pw, rfl, ⟨_, SqL.of hpw1⟩, fun D hD => ?_⟩
  have kD := k1.free hD
  refine lc_list (K := K) (a := pw) (xs := (cm x).map V.str) (fun i H' => Same H1 H' ∧ H' D = some (.lst ((((cm x).take i).map intIn).map mvV))) ⟨same_new hD, upd_same⟩ (fun i H' _ p => SqL.of (p.1 _ _ hpw1)) ?_ ?_
  · rintro i y H2 hi ⟨k, hDl⟩
    obtain ⟨p, hp, rfl⟩ : ∃ p, (cm x)[i]? = some p ∧ y = .str p := by
      rw [List.getElem?_map] at hi
      cases e : (cm x)[i]? with
      | none => rw [e] at hi; cases hi
      | some p => rw [e] at hi; exact ⟨p, rfl, (Option.some.inj hi).symm⟩
    have hpl := cm_part (List.mem_of_getElem? hp)
    refine ⟨rfl, _, rfl, p, rfl, by omega, fun H3 k3 => ⟨_, k3 _ _ hDl, ?_, fun b o eb => ?_, ?_⟩⟩
    · rw [List.length_map, List.length_map, List.length_take, sizeLine_eq]
      omega
    · rw [upd_ne (ne_of_none eb hD)]
      exact k3 _ _ (k _ _ eb)
    · rw [upd_same, List.take_succ, hp, List.map_append, List.map_append]
      rfl
  · rintro H2 ⟨k, hDl⟩
    rw [List.length_map, List.take_length] at hDl
    refine ⟨_, rfl, D, _, rfl, .inl (SqL.of hDl), rfl, flat_mv _, _, rfl, ?_⟩
    show (if inV .non (((cm x).map intIn).map mvV) = true then _ else _)
    rw [in_none]
    have q0 : none ∈ (cm x).map intIn → ∀ H', Same H H' → Q .non H' := fun e H' k' => by
      refine q H' _ k' ?_
      unfold stL
      rw [if_pos (.inl e)]
    refine ite2 (fun e => ?_) fun e => ?_
    · exact q0 (of_decide_eq_true e) _ (k1.trans k)
    · have e' : ¬ none ∈ (cm x).map intIn := fun z => e (decide_eq_true z)
      obtain ⟨ks, hks⟩ : ∃ ks : List Nat, (cm x).map intIn = ks.map some := all_some e'
      have hg : ((cm x).map intIn).map (fun m => m.getD 0) = ks := by
        rw [hks, List.map_map]
        exact List.map_id' ks
      have hv : ((cm x).map intIn).map mvV = ks.map fun k => V.int (k : Nat) := by
        rw [hks, List.map_map]
        rfl
      have hany : (((cm x).map intIn).any fun m => decide (n ≤ m.getD 0)) = ks.any fun k => decide (n ≤ k) := by
        rw [hks, List.any_map]
        rfl
      have kl : ks.length ≤ 641 := by
        have := congrArg List.length hks
        rw [List.length_map, List.length_map] at this
        omega
      rw [hv] at hDl
      refine ⟨_, rfl, D, rfl, ⟨_, SqL.of hDl⟩, fun D4 hD4 => ?_⟩
      refine lc_list (K := K) (a := D) (xs := ks.map fun k => V.int (k : Nat)) (fun i H' => Same H2 H' ∧ H' D4 = some (.lst (((ks.take i).filter fun k => decide (n ≤ k)).map fun k => V.int (k : Nat)))) ⟨same_new hD4, upd_same⟩ (fun i H' _ p => SqL.of (p.1 _ _ hDl)) ?_ ?_
      · rintro i y H3 hi ⟨k3, hD3⟩
        obtain ⟨k0, hk0, rfl⟩ : ∃ k0, ks[i]? = some k0 ∧ y = V.int (k0 : Nat) := by
          rw [List.getElem?_map] at hi
          cases e : ks[i]? with
          | none => rw [e] at hi; cases hi
          | some p => rw [e] at hi; exact ⟨p, rfl, (Option.some.inj hi).symm⟩
        have ht : ks.take (i + 1) = ks.take i ++ [k0] := by rw [List.take_succ, hk0]; rfl
        refine ⟨rfl, _, rfl, _, rfl, _, _, rfl, rfl, _, rfl, ite2 (fun e3 => ?_) (fun e3 => ?_)⟩
        · have e4 : decide (n ≤ k0) = true := decide_eq_true (by have := of_decide_eq_true e3; omega)
          refine ⟨_, rfl, _, hD3, ?_, fun b o eb => ?_, ?_⟩
          · have h1 := List.length_filter_le (fun k => decide (n ≤ k)) (ks.take i)
            rw [List.length_take] at h1
            rw [List.length_map, sizeLine_eq]
            omega
          · rw [upd_ne (ne_of_none eb hD4)]
            exact k3 _ _ eb
          · rw [upd_same, ht, List.filter_append, show List.filter (fun k => decide (n ≤ k)) [k0] = [k0] from by rw [List.filter_cons, if_pos e4]; rfl, List.map_append]
            rfl
        · have e4 : ¬ decide (n ≤ k0) = true := fun z => e3 (decide_eq_true (by have := of_decide_eq_true z; omega))
          refine ⟨k3, ?_⟩
          rw [ht, List.filter_append, show List.filter (fun k => decide (n ≤ k)) [k0] = [] from by rw [List.filter_cons, if_neg e4]; rfl, List.append_nil]
          exact hD3
      · rintro H3 ⟨k3, hD3⟩
        rw [List.length_map, List.take_length] at hD3
        refine ⟨by show 0 ≤ sizeLine; decide, fun p hp => ⟨D4, p, _, rfl, rfl, .inl ⟨SqL.of (same_new hp _ _ hD3), SqL.of upd_same⟩, _, rfl, ?_⟩⟩
        have kf : Same H (upd H3 p (.lst [])) := k1.trans (k.trans (k3.trans (same_new hp)))
        have hDf := same_new (o := .lst []) hp _ _ (k3 _ _ hDl)
        generalize upd H3 p (.lst []) = H4 at kf hDf ⊢
        rw [List.isEmpty_map]
        have ef : (ks.filter fun k => decide (n ≤ k)).isEmpty = !(ks.any fun k => decide (n ≤ k)) := filt_any
        show (if (!(ks.filter fun k => decide (n ≤ k)).isEmpty) = true then _ else _)
        rw [ef, Bool.not_not]
        cases ha : ks.any fun k => decide (n ≤ k) with
        | true =>
          refine q _ _ kf ?_
          unfold stL
          rw [if_pos (.inr (by rw [hany]; exact ha))]
        | false =>
          refine ⟨_, rfl, q _ _ kf ?_⟩
          unfold stL
          rw [if_neg (fun z => z.elim e' fun z => by rw [hany, ha] at z; cases z), hg]
          exact ⟨D, rfl, kD, hDf⟩
def sp_lmv (K : PySem.W.Frag) : Sp := fun vs H Q _ => ∃ (x : PySem.Str) (n : Nat), vs = [.str x, .int (n : Nat)] ∧ x.length ≤ 640 ∧ ∀ H' v, Same H H' → (match mvL n x with
  | none => v = .non
  | some ms => ∃ p, v = .ref p ∧ H p = none ∧ H' p = some (.tup (ms.map mvV))) → Q v H'
theorem ok_moves (T : Txt K mg) : FnOk P w K mg base CX0 2 T.a_moves T.d_moves P_moves (sp_lmv K) := by
  refine T.F_moves.ok sc_moves (fun vs H Q E h => by obtain ⟨x, n, rfl, _⟩ := h; rfl) (fun cdv A outer s H vs Q E hr h => ?_)
  refine ⟨_, (pss_cons (ps_par (i := 2) (j := 3) (by rfl) sc_moves.nd rfl rfl (by decide) rfl rfl (pa_cons (pe_split (pv 0) pe_str) (pa_cons (pe_lst pa_nil) pa_nil)) (by rfl))
    (pss_cons (ps_for PassesOwn.never rfl (pi_list (pv 2)) (pg_name (i := 4) sc_moves.nd rfl (Or.inl rfl)) (pss_cons (ps_set (i := 5) sc_moves.nd rfl (Or.inl rfl) (pe_ifExp (pt_cmpR op_eq (pv 4) pe_str (nomark _)) pe_non (pe_call (ok_number T) (hr.mono (by decide)) (by rfl) T.g_number T.F_number.kp T.b_number .nil pass0 (pa_cons (pv 4) pa_nil))))
    (pss_cons (ps_if (PW.pt (pw_and (pt_cmpR op_ne (pv 4) pe_str (nomark _)) (pw_and1 (PW.pt (pw_or (pt_cmpR op_isN (pv 5) pe_non (nomark _)) (pw_or1 (pt_cmpR op_ge (pv 5) (pv 1) (nomark _)))))))) (pss_one (ps_ret pe_non)) pss_nil)
    (pss_one (ps_expr (pe_bm PySem.F.plainAttrs_list PySem.F.slot_list_append PySem.F.type_list_append mt_append (pv 3) (pa_cons (pv 5) pa_nil)))))))
    (pss_one (ps_ret (pe_ifExp (pt_cmpR op_eq (pe_callB call_len_seq (by rfl) T.n_len (by decide +kernel) (pa_cons (pv 2) pa_nil)) (pv 1) (nomark _)) (pe_callTy call_tuple_of (by rfl) T.n_tuple (by decide +kernel) (pa_cons (pv 3) pa_nil)) pe_non))))), ?_⟩
  obtain ⟨x, n, rfl, hl, q⟩ := h
  have cl := cm_len x
  refine ⟨_, rfl, ⟨_, rfl⟩, x, _, rfl, rfl, rfl, by rw [sizeLine_eq]; omega, fun pw hpw => ?_⟩
  have k1 : Same H (upd H pw (.lst ((Txt.split x ",").map V.str))) := same_new hpw
  have hpw1 : (upd H pw (.lst ((Txt.split x ",").map V.str))) pw = some (.lst ((cm x).map V.str)) := upd_same
  generalize upd H pw (.lst ((Txt.split x ",").map V.str)) = H1 at k1 hpw1 ⊢
  refine ⟨by show 0 ≤ sizeLine; decide, fun D hD => ⟨_, _, rfl, ?_⟩⟩
  have kD := k1.free hD
  have k2 : Same H (upd H1 D (.lst [])) := k1.trans (same_new hD)
  have hpw2 := same_new (o := .lst []) hD _ _ hpw1
  have hD2 : (upd H1 D (.lst [])) D = some (.lst []) := upd_same
  generalize upd H1 D (.lst []) = H2 at k2 hpw2 hD2 ⊢
  have pD : pw ≠ D := ne_of_none hpw1 hD
  refine ⟨_, rfl, pw, rfl, ⟨_, SqL.of hpw2⟩, for_list (K := K) (a := pw) (xs := (cm x).map V.str) (fun i σ H' => ∃ (y4 y5 : Option V), σ = [some (.str x), some (.int (n : Nat)), some (.ref pw), some (.ref D), y4, y5] ∧ Same H H' ∧ H' pw = some (.lst ((cm x).map V.str)) ∧ H' D = some (.lst ((((cm x).take i).map mvOne).map mvV)) ∧ ((cm x).take i).any (badM n) = false) ⟨none, none, rfl, k2, hpw2, hD2, rfl⟩ (fun i σ H' _ ⟨_, _, _, _, p, _⟩ => SqL.of p) ?_ ?_⟩
  · rintro i y σ H3 hi ⟨y4, y5, rfl, k3, hpw3, hD3, hb3⟩
    obtain ⟨p, hp, rfl⟩ : ∃ p, (cm x)[i]? = some p ∧ y = .str p := by
      rw [List.getElem?_map] at hi
      cases e : (cm x)[i]? with
      | none => rw [e] at hi; cases hi
      | some p => rw [e] at hi; exact ⟨p, rfl, (Option.some.inj hi).symm⟩
    have hpm := List.mem_of_getElem? hp
    have hpl := cm_part hpm
    have il := (List.getElem?_eq_some_iff.mp hp).1
    have ht : (cm x).take (i + 1) = (cm x).take i ++ [p] := by rw [List.take_succ, hp]; rfl
    have put : ∀ (H4 : Hp) (v : V), Same H3 H4 → v = mvV (mvOne p) → badM n p = false → ∃ (l : Addr) (xs : List V) (y : V), V.ref D = .ref l ∧ [v] = [y] ∧ H4 l = some (.lst xs) ∧ xs.length < sizeLine ∧ ∃ (y4' y5' : Option V), [some (V.str x), some (.int (n : Nat)), some (.ref pw), some (.ref D), some (.str p), some v] = [some (.str x), some (.int (n : Nat)), some (.ref pw), some (.ref D), y4', y5'] ∧ Same H (upd H4 l (.lst (xs ++ [y]))) ∧ (upd H4 l (.lst (xs ++ [y]))) pw = some (.lst ((cm x).map V.str)) ∧ (upd H4 l (.lst (xs ++ [y]))) D = some (.lst ((((cm x).take (i + 1)).map mvOne).map mvV)) ∧ ((cm x).take (i + 1)).any (badM n) = false := fun H4 v k4 ev hb => by
      refine ⟨D, _, v, rfl, rfl, k4 _ _ hD3, ?_, _, _, rfl, fun b o eb => ?_, ?_, ?_, ?_⟩
      · rw [List.length_map, List.length_map, List.length_take, sizeLine_eq]
        omega
      · rw [upd_ne (ne_of_none eb kD)]
        exact k4 _ _ (k3 _ _ eb)
      · rw [upd_ne pD]
        exact k4 _ _ hpw3
      · rw [upd_same, ht, List.map_append, List.map_append, ev]
        rfl
      · rw [ht, List.any_append, hb3, List.any_cons, hb]
        rfl
    have bad : ∀ H4, Same H3 H4 → badM n p = true → Q .non H4 := fun H4 k4 hb => by
      refine q _ _ (k3.trans k4) ?_
      unfold mvL
      rw [if_pos (List.any_eq_true.mpr ⟨p, hpm, hb⟩)]
    refine ⟨_, rfl, rfl, _, rfl, ?_⟩
    by_cases ep : p = "-"
    · have hbm : badM n p = false := by
        unfold badM
        rw [decide_eq_false (fun z => z ep)]
        rfl
      rw [decide_eq_true (congrArg V.str ep)]
      refine ⟨_, rfl, rfl, _, rfl, ?_⟩
      rw [decide_eq_true (congrArg V.str ep)]
      refine ⟨_, rfl, .inl ⟨rfl, _, SqL.of hD3⟩, _, rfl, put H3 _ (Same.refl _) ?_ hbm⟩
      unfold mvOne
      rw [if_pos ep]
      rfl
    · rw [decide_eq_false (fun z => ep (V.str.inj z))]
      refine ⟨_, rfl, p, rfl, by omega, fun H4 k4 => ?_⟩
      have hD4 := k4 _ _ hD3
      have em : mvOne p = intIn p := by
        unfold mvOne
        rw [if_neg ep]
      refine ⟨_, rfl, rfl, _, rfl, ?_⟩
      rw [decide_eq_false (fun z => ep (V.str.inj z))]
      refine ⟨_, rfl, rfl, _, rfl, ?_⟩
      cases ei : intIn p with
      | none =>
        refine bad _ k4 ?_
        unfold badM
        rw [decide_eq_true ep, ei]
        rfl
      | some k =>
        show (if decide (V.int (k : Nat) = .non) = true then _ else _)
        rw [decide_eq_false (fun z => by cases z)]
        refine ⟨_, rfl, _, rfl, _, _, rfl, rfl, _, rfl, ite2 (fun e3 => ?_) (fun e3 => ?_)⟩
        · refine bad _ k4 ?_
          unfold badM
          rw [decide_eq_true ep, ei]
          exact decide_eq_true (by have := of_decide_eq_true e3; omega)
        · refine ⟨_, rfl, .inl ⟨rfl, _, SqL.of hD4⟩, _, rfl, put H4 _ k4 (by rw [em, ei]) ?_⟩
          unfold badM
          rw [decide_eq_true ep, ei]
          exact decide_eq_false (fun z => e3 (decide_eq_true (by omega)))
  · rintro σ H3 ⟨y4, y5, rfl, k3, hpw3, hD3, hb3⟩
    rw [List.length_map, List.take_length] at hD3 hb3
    refine ⟨_, rfl, pw, _, rfl, .inl (SqL.of hpw3), _, rfl, ?_⟩
    refine ⟨rfl, _, rfl, ?_⟩
    rw [List.length_map]
    have e0 : mvL n x = if (cm x).length = n then some ((cm x).map mvOne) else none := by
      unfold mvL
      rw [hb3]
      exact if_neg Bool.false_ne_true
    by_cases en : (cm x).length = n
    · rw [decide_eq_true (by rw [en])]
      refine ⟨_, rfl, D, _, rfl, .inl ⟨SqL.of hD3, fun a ha => q _ _ (k3.trans (same_new ha)) ?_⟩⟩
      rw [e0, if_pos en]
      exact ⟨a, rfl, k3.free ha, upd_same⟩
    · rw [decide_eq_false (fun z => en (by injection z with z; omega))]
      refine q _ _ k3 ?_
      rw [e0, if_neg en]
end
end K04
set_option Elab.async false
set_option linter.all false
set_option maxRecDepth 100000
set_option maxHeartbeats 4000000
set_option pp.maxSteps 2500
/-! k04: the law's reading is the program's (plain). -/
namespace K04
open PySem PySem.Spec PyProof.Rows L2 Zg Zr Zd Zv
open TL (tl len_tl ext_tl)
/-! ### sizes -/
theorem size_word {b : PySem.Str} : (b = "1" ∨ b = "2" ∨ b = "3") ↔ isSz (mvD (intIn b)) = true := by
  constructor
  · rintro (rfl | rfl | rfl) <;> decide +kernel
  · intro h
    cases e : intIn b with
    | none => rw [e] at h; cases h
    | some k =>
      rw [e] at h
      have h' : (decide ((1 : Int) ≤ (k : Nat)) && decide (((k : Nat) : Int) ≤ 3)) = true := h
      rw [Bool.and_eq_true, decide_eq_true_iff, decide_eq_true_iff] at h'
      have ht := (intIn_small (w := b) (k := k) (by omega) (by omega)).mp e
      have hk : k = 1 ∨ k = 2 ∨ k = 3 := by omega
      rcases hk with rfl | rfl | rfl
      · exact .inl (ext_tl (by rw [ht]; decide +kernel))
      · exact .inr (.inl (ext_tl (by rw [ht]; decide +kernel)))
      · exact .inr (.inr (ext_tl (by rw [ht]; decide +kernel)))
/-! ### resting states -/
def fnd (n : Nat) (b : PySem.Str) : Option (List Nat) := if b = "-" then some [] else stL n b
theorem states_restD (ks : List Nat) (n : Nat) : areStates n (restD ks) = (ks.all (fun k => decide (k < n)) && asc (ks.map fun k : Nat => (k : Int))) := by
  have e1 : restD ks = .tuple (ks.map fun k => .int (k : Nat)) := restD_eq ks
  rw [e1]
  show ((ks.map fun k => PyData.int (k : Nat)).all (isSt n) && asc ((ks.map fun k => PyData.int (k : Nat)).map intOf)) = _
  rw [List.all_map, List.map_map]
  congr 1
  refine List.all_congr rfl fun k => ?_
  show (decide ((0 : Int) ≤ (k : Nat)) && decide (((k : Nat) : Int) < (n : Nat))) = decide (k < n)
  rw [decide_eq_true (by omega), Bool.true_and]
  exact decide_eq_decide.mpr (by omega)
theorem stL_some {n : Nat} {b : PySem.Str} {ks : List Nat} (h : stL n b = some ks) : (cm b).map intIn = ks.map some ∧ ks.all (fun k => decide (k < n)) = true := by
  unfold stL at h
  split at h
  · cases h
  · rename_i hn
    have hn1 : ¬ none ∈ (cm b).map intIn := fun z => hn (.inl z)
    obtain ⟨js, hjs⟩ := all_some hn1
    have hn2 : ¬ (((cm b).map intIn).any fun m => decide (n ≤ m.getD 0)) = true := fun z => hn (.inr z)
    rw [hjs] at h hn2
    have e : (js.map some).map (fun m : Option Nat => m.getD 0) = js := by
      rw [List.map_map]
      exact List.map_id' js
    have h' := Option.some.inj h
    rw [e] at h'
    subst h'
    refine ⟨hjs, List.all_eq_true.mpr fun k hk => decide_eq_true ?_⟩
    rw [List.any_map, List.any_eq_true] at hn2
    exact Nat.lt_of_not_le fun z => hn2 ⟨k, hk, decide_eq_true z⟩
theorem rest_some {n : Nat} {b : PySem.Str} {ks : List Nat} (h : fnd n b = some ks) : statesD b = restD ks ∧ ks.all (fun k => decide (k < n)) = true := by
  unfold fnd at h
  split at h
  · rename_i e
    cases h
    subst e
    exact ⟨rfl, rfl⟩
  · rename_i e
    obtain ⟨h1, h2⟩ := stL_some h
    refine ⟨?_, h2⟩
    have es : stParts b = ks.map some := by
      unfold stParts
      rw [if_neg e, h1]
    unfold statesD
    rw [es, if_neg (fun z => by obtain ⟨k, _, e⟩ := List.mem_map.mp z; cases e)]
    rfl
theorem rest_none {n : Nat} {b : PySem.Str} (h : fnd n b = none) : areStates n (statesD b) = false := by
  unfold fnd at h
  split at h
  · cases h
  · rename_i e
    unfold stL at h
    split at h
    · rename_i hn
      have es : stParts b = (cm b).map intIn := by
        unfold stParts
        rw [if_neg e]
      unfold statesD
      rw [es]
      by_cases hn1 : none ∈ (cm b).map intIn
      · rw [if_pos hn1]
        rfl
      · rw [if_neg hn1]
        obtain ⟨js, hjs⟩ := all_some hn1
        rcases hn with hn | hn
        · exact absurd hn hn1
        · rw [hjs] at hn ⊢
          have := states_restD js n
          show areStates n (restD js) = false
          rw [this, Bool.and_eq_false_iff]
          left
          rw [List.any_map, List.any_eq_true] at hn
          obtain ⟨k, hk, hk2⟩ := hn
          rw [List.all_eq_false]
          exact ⟨k, hk, fun z => by have := of_decide_eq_true hk2; have := of_decide_eq_true z; have e2 : (some k : Option Nat).getD 0 = k := rfl; simp at *; omega⟩
    · cases h
/-- two neighbours that do not ascend -/
def steps (ks : List Nat) : List Nat := (List.range' 1 (ks.length - 1)).filter fun k => decide (ks.getD k 0 ≤ ks.getD (k - 1) 0)
theorem asc_steps : ∀ ks : List Nat, asc (ks.map fun k : Nat => (k : Int)) = true ↔ ∀ k, 1 ≤ k → k < ks.length → ks.getD (k - 1) 0 < ks.getD k 0
  | [] => ⟨fun _ k h1 h2 => absurd h2 (Nat.not_lt_zero _), fun _ => rfl⟩
  | [a] => ⟨fun _ k h1 h2 => by have : k < 1 := h2; omega, fun _ => rfl⟩
  | a :: b :: r => by
    have ih := asc_steps (b :: r)
    show (decide ((a : Int) < (b : Int)) && asc ((b :: r).map fun k : Nat => (k : Int))) = true ↔ _
    rw [Bool.and_eq_true, ih, decide_eq_true_iff]
    constructor
    · rintro ⟨h1, h2⟩ k k1 k2
      cases k with
      | zero => omega
      | succ k =>
        cases k with
        | zero =>
          show a < b
          omega
        | succ k =>
          have := h2 (k + 1) (by omega) (by have : k + 2 < (b :: r).length + 1 := k2; omega)
          exact this
    · intro h
      refine ⟨?_, fun k k1 k2 => ?_⟩
      · have := h 1 (by omega) (by show 1 < r.length + 1 + 1; omega)
        have t : a < b := this
        omega
      · have := h (k + 1) (by omega) (by show k + 1 < (b :: r).length + 1; omega)
        cases k with
        | zero => omega
        | succ k => exact this
/-! ### actions -/
theorem mvL_some {n : Nat} {c : PySem.Str} {ms : List (Option Nat)} (h : mvL n c = some ms) : movesIn c = some ms ∧ ms.length = n ∧ (ms.map mvD).all (isMv n) = true := by
  unfold mvL at h
  split at h
  · cases h
  · rename_i hb
    split at h
    · rename_i hl
      cases h
      have hp : ∀ p ∈ cm c, badM n p = false := fun p m => by
        cases e : badM n p with
        | false => rfl
        | true => exact absurd (List.any_eq_true.mpr ⟨p, m, e⟩) hb
      refine ⟨?_, by rw [List.length_map]; exact hl, ?_⟩
      · unfold movesIn
        rw [if_neg]
        rintro ⟨p, m, h1, h2⟩
        have := hp p m
        unfold badM at this
        rw [decide_eq_true h1, h2] at this
        cases this
      · rw [List.map_map, List.all_map, List.all_eq_true]
        intro p m
        have := hp p m
        show isMv n (mvD (mvOne p)) = true
        unfold badM at this
        unfold mvOne
        by_cases e : p = "-"
        · rw [if_pos e]
          rfl
        · rw [if_neg e]
          rw [decide_eq_true e] at this
          cases ei : intIn p with
          | none => rfl
          | some k =>
            rw [ei] at this
            have h2 : ¬ n ≤ k := of_decide_eq_false this
            show (decide ((0 : Int) ≤ (k : Nat)) && decide (((k : Nat) : Int) < (n : Nat))) = true
            rw [decide_eq_true (by omega), decide_eq_true (by omega)]
            rfl
    · cases h
theorem mvL_none {n : Nat} {c : PySem.Str} (h : mvL n c = none) {ms : List (Option Nat)} (hm : movesIn c = some ms) : ¬ (ms.length = n ∧ (ms.map mvD).all (isMv n) = true) := by
  rintro ⟨h1, h2⟩
  unfold movesIn at hm
  split at hm
  · cases hm
  · rename_i hn
    cases hm
    rw [List.length_map] at h1
    rw [List.map_map, List.all_map, List.all_eq_true] at h2
    unfold mvL at h
    split at h
    · rename_i hb
      obtain ⟨p, m, hp⟩ := List.any_eq_true.mp hb
      have h3 : isMv n (mvD (mvOne p)) = true := h2 p m
      unfold badM at hp
      rw [Bool.and_eq_true, decide_eq_true_iff] at hp
      unfold mvOne at h3
      rw [if_neg hp.1] at h3
      cases ei : intIn p with
      | none => exact hn ⟨p, m, hp.1, ei⟩
      | some k =>
        rw [ei] at h3 hp
        have h4 : (decide ((0 : Int) ≤ (k : Nat)) && decide (((k : Nat) : Int) < (n : Nat))) = true := h3
        rw [Bool.and_eq_true, decide_eq_true_iff, decide_eq_true_iff] at h4
        have := of_decide_eq_true hp.2
        omega
    · subst h1
      simp at h
theorem isAct_eq {n : Nat} {b : PySem.Str} {ms : List (Option Nat)} : isAct n (.tuple [.str b, .tuple (ms.map mvD)]) = (isName (.str b) && decide (ms.length = n) && (ms.map mvD).all (isMv n)) := by
  show (isName (.str b) && decide ((((ms.map mvD).length : Nat) : Int) = (n : Int)) && (ms.map mvD).all (isMv n)) = _
  rw [List.length_map]
  congr 2
  exact decide_eq_decide.mpr (by omega)
theorem act_word {n : Nat} {x a b c : PySem.Str} (hw : wds x = [a, b, c]) : actIn n x = if a = "action" ∧ isName (.str b) = true then (mvL n c).map fun ms => (b, ms) else none := by
  have e : actIn n x = if a = "action" then (match movesIn c with
      | some ms => if isAct n (.tuple [.str b, .tuple (ms.map mvD)]) = true then some (b, ms) else none
      | none => none) else none := by
    unfold actIn
    rw [hw]
    try rfl
  rw [e]
  by_cases ha : a = "action"
  · rw [if_pos ha]
    cases hm : mvL n c with
    | some ms =>
      obtain ⟨h1, h2, h3⟩ := mvL_some hm
      rw [h1]
      show (if isAct n (.tuple [.str b, .tuple (ms.map mvD)]) = true then some (b, ms) else none) = _
      rw [isAct_eq, decide_eq_true h2, h3, Bool.and_true, Bool.and_true]
      by_cases hb : isName (.str b) = true
      · rw [if_pos hb, if_pos ⟨ha, hb⟩]
        rfl
      · rw [if_neg hb, if_neg (fun z => hb z.2)]
    | none =>
      have e2 : (if a = "action" ∧ isName (.str b) = true then (none : Option (List (Option Nat))).map (fun ms => (b, ms)) else none) = none := by split <;> rfl
      rw [e2]
      cases hm2 : movesIn c with
      | none => rfl
      | some ms =>
        have := mvL_none hm hm2
        show (if isAct n (.tuple [.str b, .tuple (ms.map mvD)]) = true then some (b, ms) else none) = none
        rw [isAct_eq, if_neg]
        intro z
        rw [Bool.and_eq_true, Bool.and_eq_true, decide_eq_true_iff] at z
        exact this ⟨z.1.2, z.2⟩
  · rw [if_neg ha, if_neg (fun z => ha z.1)]
theorem act_short {n : Nat} {x : PySem.Str} (h : (wds x).length ≠ 3) : actIn n x = none := by
  unfold actIn
  split
  · rename_i e
    rw [e] at h
    exact absurd rfl h
  · rfl
end K04
set_option Elab.async false
set_option linter.all false
set_option maxRecDepth 100000
set_option maxHeartbeats 4000000
set_option pp.maxSteps 2500
/-! k04: the law reads a text. -/
namespace K04
open PySem PySem.Spec PyProof.Rows L2 Zg Zr Zd Zv
open TL (tl len_tl ext_tl)
/-- what a reading tells -/
def readP : Nat ⊕ (Nat × List Act × PyData) → PyData
  | .inl k => .tuple [.str "line", .int (k : Nat)]
  | .inr (n, acts, rd) => .tuple [.str "store", .int (n : Nat), .tuple (acts.map actD), rd]
theorem in_names {nm : PySem.Str} {ns : List PySem.Str} : inV (.str nm) (ns.map V.str) = decide (nm ∈ ns) := by
  rw [Bool.eq_iff_iff, decide_eq_true_iff]
  unfold inV
  rw [List.any_eq_true]
  constructor
  · rintro ⟨v, hv, e⟩
    obtain ⟨z, hz, rfl⟩ := List.mem_map.mp hv
    have e' : z = nm := beq_iff_eq.mp e
    rw [← e']
    exact hz
  · intro h
    exact ⟨.str nm, List.mem_map.mpr ⟨nm, h, rfl⟩, beq_iff_eq.mpr rfl⟩
/-- what the law finds in the words of the second line -/
def fndW (n : Nat) (ws : List PySem.Str) : Option (List Nat) := if ws.drop 1 = [("-" : PySem.Str)] then some [] else stL n (Txt.join " " (ws.drop 1))
theorem join_one (y b : PySem.Str) : Txt.join y [b] = b := by
  rw [TL.join_eq]
  rfl
theorem fnd_len {n : Nat} {b : PySem.Str} {ks : List Nat} (h : fnd n b = some ks) : ks.length ≤ b.length + 1 := by
  unfold fnd at h
  split at h
  · cases h
    exact Nat.zero_le _
  · have h1 := congrArg List.length (stL_some h).1
    rw [List.length_map, List.length_map] at h1
    have := cm_len b
    omega
theorem fndW_two (n : Nat) (a b : PySem.Str) : fndW n [a, b] = fnd n b := by
  unfold fndW fnd
  show (if [b] = [("-" : PySem.Str)] then some [] else stL n (Txt.join " " [b])) = _
  rw [join_one]
  by_cases e : b = "-"
  · rw [if_pos e, if_pos (by rw [e])]
  · rw [if_neg e, if_neg (fun z => e (by injection z))]
section
variable {P : Program} {w : World} {K : PySem.W.Frag} {mg : PySem.Str → Option Value} {base : Heap}
def sp_lread : Sp := fun vs H Q _ => ∃ (S0 S : List Addr) (v : V) (d : PyData), vs = [v] ∧ Dv S0 H v d ∧ sml d = true ∧ Trk S H ∧ ∀ H' v', Same H H' → Dv S H' v' (readP (readD d)) → Q v' H'
/-- how far the lines are read -/
def St3 (S : List Addr) (H H' : Hp) (ls : List PySem.Str) (pl pr : Addr) (i : Nat) (y3 y4 : V) : Prop := Same H H' ∧ H' pl = some (.lst (ls.map V.str)) ∧ pl ≠ pr ∧ H pr = none ∧ ∃ xs : List V, H' pr = some (.lst xs) ∧
  ((i = 0 ∧ xs = []) ∨ (i = 1 ∧ xs = [] ∧ ∃ x r n, ls = x :: r ∧ sizeIn x = some n ∧ y3 = .int (n : Nat)) ∨
    ∃ x y r n rd acts, ls = x :: y :: r ∧ 2 ≤ i ∧ sizeIn x = some n ∧ restIn n y = some rd ∧ y3 = .int (n : Nat) ∧ Dv (pr :: S) H' y4 rd ∧ DvAll (pr :: S) H' xs (acts.map actD) ∧ acts.length + 2 = i ∧ actsIn n r 2 [] = actsIn n (ls.drop i) i acts)
theorem ok_read (T : Txt K mg) : FnOk P w K mg base CX0 3 T.a_read T.d_read P_read sp_lread := by
  refine T.F_read.ok sc_read (fun vs H Q E h => by obtain ⟨S0, S, v, d, rfl, _⟩ := h; rfl) (fun cdv A outer s H vs Q E hr h => ?_)
  refine ⟨_, (pss_cons (ps_if (pt_not (pt_val (pe_callB call_isi (by rfl) T.n_isinstance (by decide +kernel) (pa_cons (pv 0) (pa_cons (pe_bltn (v := .ty "str") (u := .type "str") (by rfl) T.n_str (by decide +kernel) rfl) pa_nil))))) (pss_one (ps_ret (pe_tup (pa_cons pe_str (pa_cons pe_int pa_nil))))) pss_nil)
    (pss_cons (ps_asg (pe_tup (pa_cons (pe_split (pv 0) pe_str) (pa_cons (pe_lst pa_nil) (pa_cons pe_int (pa_cons (pe_tup pa_nil) pa_nil))))) (pg_tup (by rfl) (pgs_cons (pg_name (i := 1) sc_read.nd rfl (Or.inl rfl)) (pgs_cons (pg_name (i := 2) sc_read.nd rfl (Or.inl rfl)) (pgs_cons (pg_name (i := 3) sc_read.nd rfl (Or.inl rfl)) (pgs_cons (pg_name (i := 4) sc_read.nd rfl (Or.inl rfl)) pgs_nil))))))
    (pss_cons (ps_for PassesOwn.never rfl (pi_enum (by rfl) T.n_enumerate (pa_cons (pv 1) pa_nil)) (pg_tup (by rfl) (pgs_cons (pg_name (i := 5) sc_read.nd rfl (Or.inl rfl)) (pgs_cons (pg_name (i := 6) sc_read.nd rfl (Or.inl rfl)) pgs_nil))) (pss_cons (ps_set (i := 7) sc_read.nd rfl (Or.inl rfl) (pe_split (pv 6) pe_str))
    (pss_one (ps_if (pt_cmpR op_eq (pv 5) pe_int (nomark _)) (pss_cons (ps_if (PW.pt (pw_or (pt_cmpR op_ne (pe_callB call_len_seq (by rfl) T.n_len (by decide +kernel) (pa_cons (pv 7) pa_nil)) pe_int (nomark _)) (pw_or (pt_cmpR op_ne (pe_ix ix_list (pv 7) pe_int (fun _ _ => rfl)) pe_str (nomark _)) (pw_or1 (pt_cmpR op_notIn_seq (pe_ix ix_list (pv 7) pe_int (fun _ _ => rfl)) (pe_tup (pa_cons pe_str (pa_cons pe_str (pa_cons pe_str pa_nil)))) (by rfl)))))) (pss_one (ps_ret (pe_tup (pa_cons pe_str (pa_cons pe_int pa_nil))))) pss_nil)
    (pss_one (ps_set (i := 3) sc_read.nd rfl (Or.inl rfl) (pe_callTy call_int_str (by rfl) T.n_int (by decide +kernel) (pa_cons (pe_ix ix_list (pv 7) pe_int (fun _ _ => rfl)) pa_nil))))) (pss_one (ps_if (pt_cmpR op_eq (pv 5) pe_int (nomark _)) (pss_cons (ps_set (i := 8) sc_read.nd rfl (Or.inr rfl) (pe_ifExp (pt_cmpR (Xl.op_eqS (Nat.lt_of_le_of_lt (Nat.le_add_right _ 64) hr.units)) (pe_slice sl_list (pv 7) (po_some pe_int) po_none) (pe_lst (pa_cons pe_str pa_nil)) (nomark _)) (pe_lst pa_nil) (pe_call (ok_states T) (hr.mono (by decide)) (by rfl) T.g_states T.F_states.kp T.b_states .nil pass0 (pa_cons (pe_join pe_str (pe_slice sl_list (pv 7) (po_some pe_int) po_none)) (pa_cons (pv 3) pa_nil)))))
    (pss_cons (ps_if (PW.pt (pw_or (pt_cmpR op_ne (pe_callB call_len_seq (by rfl) T.n_len (by decide +kernel) (pa_cons (pv 7) pa_nil)) pe_int (nomark _)) (pw_or (pt_cmpR op_ne (pe_ix ix_list (pv 7) pe_int (fun _ _ => rfl)) pe_str (nomark _)) (pw_or1 (pt_cmpR op_isN (pv 8) pe_non (nomark _)))))) (pss_one (ps_ret (pe_tup (pa_cons pe_str (pa_cons pe_int pa_nil))))) pss_nil)
    (pss_cons (ps_if (pt_cmpR (op_neE (Nat.lt_of_le_of_lt (Nat.le_add_right _ 64) hr.units)) (pe_lc (own := [("k", 9)]) rfl sc_read.nd (pi_range2 (by rfl) T.n_range (pa_cons pe_int (pa_cons (pe_callB call_len_seq (by rfl) T.n_len (by decide +kernel) (pa_cons (pv 8) pa_nil)) pa_nil))) (blkOk_by (own := [("k", 9)]) (N := N_read) (sc := defScope s_read) (by decide +kernel)) (fun _ _ _ _ _ => (pg_name (i := 9) sc_read.nd rfl (Or.inl rfl))) (fun _ _ _ _ _ => (pts_one (pt_cmpR op_ge (pe_ix (show IxR _ (rIxL K) from ix_list) (pv 8) (pe_op op_sub (pv 9) pe_int) (fun _ _ => rfl)) (pe_ix (show IxR _ (rIxL K) from ix_list) (pv 8) (pv 9) (fun _ _ => rfl)) (nomark _)))) (fun _ _ _ _ _ => (pv 9))) (pe_lst pa_nil) (nomark _)) (pss_one (ps_ret (pe_tup (pa_cons pe_str (pa_cons pe_int pa_nil))))) pss_nil)
    (pss_one (ps_set (i := 4) sc_read.nd rfl (Or.inl rfl) (pe_callTy call_tuple_of (by rfl) T.n_tuple (by decide +kernel) (pa_cons (pv 8) pa_nil))))))) (pss_cons (ps_if (PW.pt (pw_or (pt_cmpR op_ne (pe_callB call_len_seq (by rfl) T.n_len (by decide +kernel) (pa_cons (pv 7) pa_nil)) pe_int (nomark _)) (pw_or (pt_cmpR op_ne (pe_ix ix_list (pv 7) pe_int (fun _ _ => rfl)) pe_str (nomark _)) (pw_or1 (pt_not (pt_val (pe_call (ok_w_is_name T) (hr.mono (by decide)) (by rfl) T.g_w_is_name T.F_w_is_name.kp T.b_w_is_name .nil pass0 (pa_cons (pe_ix ix_list (pv 7) pe_int (fun _ _ => rfl)) pa_nil)))))))) (pss_one (ps_ret (pe_tup (pa_cons pe_str (pa_cons (pv 5) pa_nil))))) pss_nil)
    (pss_cons (ps_set (i := 10) sc_read.nd rfl (Or.inl rfl) (pe_call (ok_moves T) (hr.mono (by decide)) (by rfl) T.g_moves T.F_moves.kp T.b_moves .nil pass0 (pa_cons (pe_ix ix_list (pv 7) pe_int (fun _ _ => rfl)) (pa_cons (pv 3) pa_nil))))
    (pss_cons (ps_if (PW.pt (pw_or (pt_cmpR op_isN (pv 10) pe_non (nomark _)) (pw_or1 (PW.pt (pw_and (pt_cmpR (op_neE (Nat.lt_of_le_of_lt (Nat.le_add_right _ 64) hr.units)) (pv 2) (pe_lst pa_nil) (nomark _)) (pw_and1 (pt_cmpR op_le_str (pe_ix ix_list (pv 7) pe_int (fun _ _ => rfl)) (pe_ix ix_tup (pe_ix ix_list (pv 2) (pe_un un_neg pe_int) (fun _ _ => rfl)) pe_int (fun _ _ => rfl)) (nomark _)))))))) (pss_one (ps_ret (pe_tup (pa_cons pe_str (pa_cons (pv 5) pa_nil))))) pss_nil)
    (pss_one (ps_expr (pe_bm PySem.F.plainAttrs_list PySem.F.slot_list_append PySem.F.type_list_append mt_append (pv 2) (pa_cons (pe_tup (pa_cons (pe_ix ix_list (pv 7) pe_int (fun _ _ => rfl)) (pa_cons (pv 10) pa_nil))) pa_nil)))))))))))))
    (pss_one (ps_ret (pe_ifExp (pt_cmpR op_gt (pe_callB call_len_seq (by rfl) T.n_len (by decide +kernel) (pa_cons (pv 1) pa_nil)) pe_int (nomark _)) (pe_tup (pa_cons pe_str (pa_cons (pv 3) (pa_cons (pe_callTy call_tuple_of (by rfl) T.n_tuple (by decide +kernel) (pa_cons (pv 2) pa_nil)) (pa_cons (pv 4) pa_nil))))) (pe_tup (pa_cons pe_str (pa_cons pe_int pa_nil))))))))), ?_⟩
  obtain ⟨S0, S, v, d, rfl, hd, hs, tr, q⟩ := h
  refine ⟨_, rfl, v, .ty "str", _, _, _, rfl, .ty _, hd.ty, kit_all K _ (by decide) _ (tyD_mem d), _, rfl, ?_⟩
  have line : ∀ (H1 : Hp) (k : Nat), Same H H1 → readD d = .inl k → 2 ≤ sizeLine ∧ ∀ p, H1 p = none → Q (.ref p) (upd H1 p (.tup [.str "line", .int (k : Nat)])) := fun H1 k k1 e => ⟨by decide, fun p hp => q _ _ (k1.trans (same_new hp)) (by
    rw [e]
    exact .tup upd_same ((tr.same k1).out hp) (.cons (.str _) (.cons (.int _) .nil)))⟩
  by_cases ht : isA "str" d = true
  · obtain ⟨x, rfl, rfl⟩ := hd.text ht
    rw [show isB "str" (tyD (.str x)) = true from rfl]
    have hl : x.length ≤ 640 := of_decide_eq_true hs
    have hrd : readD (.str x) = readL (cutN x) := rfl
    rw [hrd] at q line
    have cl := cutN_len x
    have cp : ∀ p ∈ cutN x, p.length ≤ 640 := fun p hp => Nat.le_trans (cutN_part hp) hl
    have cn : cutN x ≠ [] := by
      unfold cutN
      rw [feed]
      exact cut_ne (by decide) x
    refine iteF ?_
    refine ⟨_, rfl, ⟨_, rfl⟩, x, _, rfl, rfl, rfl, by rw [sizeLine_eq]; omega, fun pl hpl => ?_⟩
    have k1 : Same H (upd H pl (.lst ((Txt.split x "\n").map V.str))) := same_new hpl
    have hpl1 : (upd H pl (.lst ((Txt.split x "\n").map V.str))) pl = some (.lst ((cutN x).map V.str)) := upd_same
    generalize upd H pl (.lst ((Txt.split x "\n").map V.str)) = H1 at k1 hpl1 ⊢
    refine ⟨by show 0 ≤ sizeLine; decide, fun pr hpr => ⟨by show 0 ≤ sizeLine; decide, fun pe hpe => ⟨by show 4 ≤ sizeLine; decide, fun pt hpt => ⟨pt, _, rfl, SqT.of upd_same, rfl, _, _, rfl, _, _, rfl, _, _, rfl, _, _, rfl, rfl, ?_⟩⟩⟩⟩
    have pne : pl ≠ pr := ne_of_none hpl1 hpr
    have npr : H pr = none := k1.free hpr
    have k2 : Same H (upd (upd (upd H1 pr (.lst [])) pe (.tup [])) pt (.tup [.ref pl, .ref pr, .int 0, .ref pe])) := k1.trans ((same_new hpr).trans ((same_new hpe).trans (same_new hpt)))
    have hpl2 : (upd (upd (upd H1 pr (.lst [])) pe (.tup [])) pt (.tup [.ref pl, .ref pr, .int 0, .ref pe])) pl = some (.lst ((cutN x).map V.str)) := same_new hpt _ _ (same_new hpe _ _ (same_new hpr _ _ hpl1))
    have hpr2 : (upd (upd (upd H1 pr (.lst [])) pe (.tup [])) pt (.tup [.ref pl, .ref pr, .int 0, .ref pe])) pr = some (.lst []) := same_new hpt _ _ (same_new hpe _ _ upd_same)
    generalize upd (upd (upd H1 pr (.lst [])) pe (.tup [])) pt (.tup [.ref pl, .ref pr, .int 0, .ref pe]) = H2 at k2 hpl2 hpr2 ⊢
    generalize cutN x = ls at *
    refine ⟨_, rfl, pl, _, rfl, SqL.of hpl2, ?_⟩
    refine for_it walk_enum (fun i σ H' => ∃ (y3 y4 : V) (y5 y6 y7 y8 y10 : Option V), σ = [some (.str x), some (.ref pl), some (.ref pr), some y3, some y4, y5, y6, y7, y8, none, y10] ∧ St3 S H H' ls pl pr i y3 y4) ⟨_, _, none, none, none, none, none, rfl, k2, hpl2, pne, npr, [], hpr2, .inl ⟨rfl, rfl⟩⟩ (fun i σ H' _ ⟨_, _, _, _, _, _, _, _, _, p, _⟩ => SqL.of p) ?_ ?_
    · rintro i y σ H3 H4 hi ⟨y3, y4, y5, y6, y7, y8, y10, rfl, k3, hpl3, _, _, xs, hpr3, st⟩ ⟨T', x1, x2, rfl, hT, rfl, e1, e2⟩
      rw [List.length_map] at hi
      have e1' : x1 = V.int ((i : Nat) : Int) := (Option.some.inj e1).symm
      subst e1'
      obtain ⟨ln, hln, rfl⟩ : ∃ ln, ls[i]? = some ln ∧ x2 = .str ln := by
        have e2' : (ls.map V.str)[i]? = some x2 := e2
        rw [List.getElem?_map, List.getElem?_eq_getElem hi] at e2'
        exact ⟨_, List.getElem?_eq_getElem hi, (Option.some.inj e2').symm⟩
      have lnl := cp ln (List.mem_of_getElem? hln)
      have k4 : Same H3 (upd H3 T' (.tup [.int ((i : Nat) : Int), .str ln])) := same_new hT
      have hT4 : (upd H3 T' (.tup [.int ((i : Nat) : Int), .str ln])) T' = some (.tup [.int ((i : Nat) : Int), .str ln]) := upd_same
      generalize upd H3 T' (.tup [.int ((i : Nat) : Int), .str ln]) = H4 at k4 hT4 ⊢
      refine ⟨T', _, rfl, SqT.of hT4, rfl, _, _, rfl, _, _, rfl, rfl, ?_⟩
      refine ⟨_, rfl, ⟨_, rfl⟩, ln, _, rfl, rfl, rfl, by rw [sizeLine_eq]; omega, fun pw hpw => ?_⟩
      have k5 : Same H4 (upd H4 pw (.lst ((Txt.split ln " ").map V.str))) := same_new hpw
      have hpw5 : (upd H4 pw (.lst ((Txt.split ln " ").map V.str))) pw = some (.lst ((wds ln).map V.str)) := upd_same
      show (gName 7) (V.ref pw) _ (upd H4 pw (.lst ((Txt.split ln " ").map V.str))) _
      generalize upd H4 pw (.lst ((Txt.split ln " ").map V.str)) = H5 at k5 hpw5 ⊢
      have k35 := k4.trans k5
      have k05 := k3.trans k35
      have hpl5 := k35 _ _ hpl3
      have hpr5 := k35 _ _ hpr3
      refine ⟨_, rfl, rfl, _, rfl, ?_⟩
      rcases st with ⟨rfl, rfl⟩ | ⟨rfl, rfl, x0, r0, n, els, hsz, rfl⟩ | ⟨x0, y0, r0, n, rd, acts, els, i2, hsz, hrs, rfl, hrd, hx, hal, hai⟩
      · obtain ⟨r0, els⟩ : ∃ r0, ls = ln :: r0 := by
          cases ls with
          | nil => cases hln
          | cons a r => cases hln; exact ⟨r, rfl⟩
        rw [show decide (V.int ((0 : Nat) : Int) = V.int 0) = true from rfl]
        have out : sizeIn ln = none → ∀ H6, Same H5 H6 → 2 ≤ sizeLine ∧ ∀ p, H6 p = none → Q (.ref p) (upd H6 p (.tup [.str "line", .int ((0 : Nat) : Int)])) := fun e H6 k6 => line H6 0 (k05.trans k6) (by rw [els]; exact readL_none e)
        refine ⟨_, rfl, pw, _, rfl, .inl (SqL.of hpw5), rfl, _, rfl, ?_⟩
        rw [List.length_map]
        by_cases h2 : (wds ln).length = 2
        · rw [decide_eq_true (by rw [h2]; rfl)]
          obtain ⟨a, b, hw⟩ : ∃ a b, wds ln = [a, b] := two_of h2
          rw [hw] at hpw5
          have es : sizeIn ln = if a = "size" ∧ isSz (mvD (intIn b)) = true then intIn b else none := by
            unfold sizeIn
            rw [hw]
          have hb : b.length ≤ 640 := by
            have := wds_part (x := ln) (p := b) (by rw [hw]; exact List.mem_cons_of_mem _ List.mem_cons_self)
            omega
          refine ⟨_, rfl, pw, _, 0, .str a, rfl, rfl, SqL.of hpw5, rfl, rfl, _, rfl, ?_⟩
          by_cases ha : a = "size"
          · rw [decide_eq_true (congrArg V.str ha)]
            refine ⟨_, rfl, pw, _, 1, .str b, rfl, rfl, SqL.of hpw5, rfl, by show 3 ≤ sizeLine; decide, fun t0 ht0 => ⟨t0, [.str "1", .str "2", .str "3"], rfl, .inr (SqT.of upd_same), rfl, rfl, _, rfl, ?_⟩⟩
            have k6 : Same H5 (upd H5 t0 (.tup [.str "1", .str "2", .str "3"])) := same_new ht0
            have k06 := k05.trans k6
            have hpl6 := k6 _ _ hpl5
            have hpr6 := k6 _ _ hpr5
            have hpw6 := k6 _ _ hpw5
            generalize upd H5 t0 (.tup [.str "1", .str "2", .str "3"]) = H6 at k6 k06 hpl6 hpr6 hpw6 ⊢
            have ein : inV (.str b) [.str "1", .str "2", .str "3"] = decide (b ∈ (["1", "2", "3"] : List PySem.Str)) := in_names (nm := b) (ns := ["1", "2", "3"])
            show (if (!inV (.str b) [.str "1", .str "2", .str "3"]) = true then _ else _)
            rw [ein]
            have hmem : b ∈ (["1", "2", "3"] : List PySem.Str) ↔ isSz (mvD (intIn b)) = true := by
              rw [← size_word]
              simp
            by_cases hz : isSz (mvD (intIn b)) = true
            · rw [decide_eq_true (hmem.mpr hz)]
              have es2 : sizeIn ln = intIn b := by rw [es, if_pos ⟨ha, hz⟩]
              obtain ⟨k, hk⟩ : ∃ k, intIn b = some k := by
                cases e : intIn b with
                | none => rw [e] at hz; cases hz
                | some k => exact ⟨k, rfl⟩
              have ok : okNum b = true := by
                cases e : okNum b with
                | true => rfl
                | false =>
                  unfold intIn at hk
                  rw [if_neg (by rw [e]; exact Bool.false_ne_true)] at hk
                  cases hk
              have ev : (NumText.digitsVal (tl b)) = k := by
                unfold intIn at hk
                rw [if_pos ok] at hk
                exact Option.some.inj hk
              refine iteF ?_
              unfold tNext; dsimp only
              refine ⟨_, rfl, pw, _, 1, .str b, rfl, rfl, SqL.of hpw6, rfl, b, _, rfl, okNum_int ok hb, hb, ?_⟩
              rw [ev]
              exact ⟨_, _, _, _, _, _, _, rfl, k06, hpl6, pne, npr, [], hpr6, .inr (.inl ⟨rfl, rfl, ln, r0, k, els, by rw [es2, hk], rfl⟩)⟩
            · rw [decide_eq_false (fun z => hz (hmem.mp z))]
              exact out (by rw [es, if_neg (fun z => hz z.2)]) _ k6
          · rw [decide_eq_false (fun z => ha (V.str.inj z))]
            exact out (by rw [es, if_neg (fun z => ha z.1)]) _ (Same.refl _)
        · rw [decide_eq_false (fun z => h2 (by injection z with z; omega))]
          exact out (by
            unfold sizeIn
            split
            · rename_i e
              rw [e] at h2
              exact absurd rfl h2
            · rfl) _ (Same.refl _)
      · rw [show decide (V.int ((1 : Nat) : Int) = V.int 0) = false from rfl]
        refine iteF ⟨_, rfl, rfl, _, rfl, ?_⟩
        rw [show decide (V.int ((1 : Nat) : Int) = V.int 1) = true from rfl]
        subst els
        obtain ⟨r1, er0⟩ : ∃ r1, r0 = ln :: r1 := by
          cases r0 with
          | nil => cases hln
          | cons a r => cases hln; exact ⟨r, rfl⟩
        subst er0
        have out : restIn n ln = none → ∀ H6, Same H5 H6 → 2 ≤ sizeLine ∧ ∀ p, H6 p = none → Q (.ref p) (upd H6 p (.tup [.str "line", .int ((1 : Nat) : Int)])) := fun e H6 k6 => line H6 1 (k05.trans k6) (by
          rw [readL_some hsz]
          unfold readR
          dsimp only
          rw [e])
        refine iteT ?_
        refine asg_via (fun v H' => Same H5 H' ∧ (match fndW n (wds ln) with
          | none => v = .non
          | some ks => ∃ p, v = .ref p ∧ H p = none ∧ H' p = some (.lst (ks.map fun k => V.int (k : Nat))))) (fun R hR => ?_) ?_
        · refine ⟨_, rfl, ((1 : Nat) : Int), rfl, pw, _, rfl, SqL.of hpw5, fun p6 hp6 => ?_⟩
          rw [cut_from, ← List.map_drop]
          have k6 : Same H5 (upd H5 p6 (.lst (((wds ln).drop 1).map V.str))) := same_new hp6
          have h6 : (upd H5 p6 (.lst (((wds ln).drop 1).map V.str))) p6 = some (.lst (((wds ln).drop 1).map V.str)) := upd_same
          generalize upd H5 p6 (.lst (((wds ln).drop 1).map V.str)) = H6 at k6 h6 ⊢
          refine ⟨by show 1 ≤ sizeLine; decide, fun p7 hp7 => ?_⟩
          have k7 : Same H6 (upd H6 p7 (.lst [.str "-"])) := same_new hp7
          have h7 : (upd H6 p7 (.lst [.str "-"])) p7 = some (.lst ([("-" : PySem.Str)].map V.str)) := upd_same
          refine ⟨p6, p7, (wds ln).drop 1, ["-"], rfl, rfl, SqL.of (k7 _ _ h6), SqL.of h7, _, rfl, ?_⟩
          generalize upd H6 p7 (.lst [.str "-"]) = H7 at k7 h7 ⊢
          have k57 := k6.trans k7
          by_cases e : (wds ln).drop 1 = [("-" : PySem.Str)]
          · show (if decide ((wds ln).drop 1 = [("-" : PySem.Str)]) = true then _ else _)
            rw [decide_eq_true e]
            refine ⟨by show 0 ≤ sizeLine; decide, fun p8 hp8 => hR _ _ ⟨k57.trans (same_new hp8), ?_⟩⟩
            unfold fndW
            rw [if_pos e]
            exact ⟨p8, rfl, (k05.trans k57).free hp8, upd_same⟩
          · show (if decide ((wds ln).drop 1 = [("-" : PySem.Str)]) = true then _ else _)
            rw [decide_eq_false e]
            refine ⟨⟨_, rfl⟩, _, rfl, ((1 : Nat) : Int), rfl, pw, _, rfl, SqL.of (k57 _ _ hpw5), fun p8 hp8 => ?_⟩
            rw [cut_from, ← List.map_drop]
            have k8 : Same H7 (upd H7 p8 (.lst (((wds ln).drop 1).map V.str))) := same_new hp8
            have h8 : (upd H7 p8 (.lst (((wds ln).drop 1).map V.str))) p8 = some (.lst (((wds ln).drop 1).map V.str)) := upd_same
            generalize upd H7 p8 (.lst (((wds ln).drop 1).map V.str)) = H8 at k8 h8 ⊢
            have k58 := k57.trans k8
            have w1 := wt_split (wds ln) 1
            have w2 := wds_wt ln
            have w3 : 1 ≤ wt ((wds ln).take 1) := by
              cases hw : wds ln with
              | nil => exact absurd hw (wds_ne ln)
              | cons a r =>
                show 1 ≤ wt [a]
                rw [wt_one]
                omega
            have jl : (Txt.join " " ((wds ln).drop 1)).length ≤ 640 := by
              have := join_le 32 ((wds ln).drop 1)
              rw [← blank] at this
              omega
            refine ⟨_, p8, (wds ln).drop 1, rfl, rfl, .inl (SqL.of h8), ?_, _, rfl, _, n, rfl, jl, fun H9 v9 k9 hv => hR _ _ ⟨k58.trans k9, ?_⟩⟩
            · show (((wds ln).drop 1).map (fun x : PySem.Str => x.length)).sum + ((wds ln).drop 1).length * 1 ≤ 16777216
              rw [wt_sum]
              omega
            · unfold fndW
              rw [if_neg e]
              cases es : stL n (Txt.join " " ((wds ln).drop 1)) with
              | none =>
                rw [es] at hv
                exact hv
              | some ks =>
                rw [es] at hv
                obtain ⟨p, e1, e2, e3⟩ := hv
                exact ⟨p, e1, (k05.trans k58).free e2, e3⟩
        · rintro v H6 ⟨k6, hv⟩
          have k06 := k05.trans k6
          have hpl6 := k6 _ _ hpl5
          have hpr6 := k6 _ _ hpr5
          have hpw6 := k6 _ _ hpw5
          refine ⟨_, rfl, pw, _, rfl, .inl (SqL.of hpw6), rfl, _, rfl, ?_⟩
          rw [List.length_map]
          by_cases h2 : (wds ln).length = 2
          · rw [decide_eq_true (by rw [h2]; rfl)]
            obtain ⟨a, b, hw⟩ : ∃ a b, wds ln = [a, b] := two_of h2
            rw [hw] at hpw6 hv
            rw [fndW_two] at hv
            have er : restIn n ln = if a = "resting" ∧ areStates n (statesD b) = true then some (statesD b) else none := by
              unfold restIn
              rw [hw]
            refine ⟨_, rfl, pw, _, 0, .str a, rfl, rfl, SqL.of hpw6, rfl, rfl, _, rfl, ?_⟩
            by_cases ha : a = "resting"
            · rw [decide_eq_true (congrArg V.str ha)]
              refine ⟨_, rfl, rfl, _, rfl, ?_⟩
              cases hf : fnd n b with
              | none =>
                rw [hf] at hv
                have hv' : v = .non := hv
                subst hv'
                exact out (by rw [er, if_neg (fun z => by rw [rest_none hf] at z; exact Bool.false_ne_true z.2)]) _ k6
              | some ks =>
                rw [hf] at hv
                obtain ⟨pf, rfl, hpf, hpf6⟩ := hv
                rw [show decide (V.ref pf = V.non) = false from decide_eq_false (fun z => by cases z)]
                refine iteF ?_
                unfold tNext; dsimp only
                have hb : b.length ≤ 640 := by
                  have := wds_part (x := ln) (p := b) (by rw [hw]; exact List.mem_cons_of_mem _ List.mem_cons_self)
                  omega
                have kl := fnd_len hf
                have gk : ∀ {j : Nat}, j < ks.length → (ks.map fun k => V.int (k : Nat))[j]? = some (V.int ((ks.getD j 0 : Nat) : Int)) := fun {j} hj => by
                  rw [List.getElem?_map, List.getElem?_eq_getElem hj, List.getD_eq_getElem?_getD, List.getElem?_eq_getElem hj]
                  rfl
                refine ⟨_, rfl, pf, _, rfl, .inl (SqL.of hpf6), 1, _, rfl, ⟨by omega, by omega, by omega, by rw [List.length_map]; omega⟩, fun D hD => ?_⟩
                rw [List.length_map]
                refine lc_range (lo := 1) (n := ((ks.length : Int) - 1).toNat) (fun j H' => Same H6 H' ∧ ∃ zs : List Nat, H' D = some (.lst (zs.map fun z => V.int (z : Nat))) ∧ zs.length ≤ j ∧ (zs = [] ↔ ∀ k, 1 ≤ k → k < 1 + j → ks.getD (k - 1) 0 < ks.getD k 0)) ⟨same_new hD, [], upd_same, Nat.le_refl _, ⟨fun _ k h1 h2 => by omega, fun _ => rfl⟩⟩ ?_ ?_
                · rintro j H7 hj ⟨k7, zs, hDz, zl, iff⟩
                  have hj' : j + 1 < ks.length := by omega
                  refine ⟨rfl, _, rfl, _, rfl, _, _, rfl, rfl, pf, _, _, V.int ((ks.getD j 0 : Nat) : Int), rfl, rfl, SqL.of (k7 _ _ hpf6), ?_, _, rfl, _, rfl, pf, _, _, V.int ((ks.getD (j + 1) 0 : Nat) : Int), rfl, rfl, SqL.of (k7 _ _ hpf6), ?_, _, _, rfl, rfl, ?_⟩
                  · rw [show (1 : Int) + (j : Int) - 1 = ((j : Nat) : Int) by omega]
                    exact atI_nat (gk (by omega))
                  · rw [show (1 : Int) + (j : Int) = ((j + 1 : Nat) : Int) by omega]
                    exact atI_nat (gk hj')
                  · refine ⟨_, rfl, ite2 (fun e3 => ?_) fun e3 => ?_⟩
                    · have e4 : ((ks.getD (j + 1) 0 : Nat) : Int) ≤ ((ks.getD j 0 : Nat) : Int) := of_decide_eq_true e3
                      refine ⟨_, rfl, _, hDz, by rw [List.length_map, sizeLine_eq]; omega, fun b' o' eb => ?_, zs ++ [j + 1], ?_, by rw [List.length_append]; exact Nat.succ_le_succ zl, fun z => absurd z (by simp), fun z => ?_⟩
                      · rw [upd_ne (ne_of_none eb hD)]
                        exact k7 _ _ eb
                      · rw [upd_same, List.map_append, show (1 : Int) + (j : Int) = ((j + 1 : Nat) : Int) by omega]
                        rfl
                      · have h3 : ks.getD (j + 1 - 1) 0 < ks.getD (j + 1) 0 := z (j + 1) (by omega) (by omega)
                        rw [Nat.add_sub_cancel] at h3
                        omega
                    · have e4 : ¬ ((ks.getD (j + 1) 0 : Nat) : Int) ≤ ((ks.getD j 0 : Nat) : Int) := fun z => e3 (decide_eq_true z)
                      refine ⟨k7, zs, hDz, by omega, fun z k h1 h3 => ?_, fun z => iff.mpr fun k h1 h3 => z k h1 (by omega)⟩
                      by_cases ek : k = j + 1
                      · subst ek
                        rw [Nat.add_sub_cancel]
                        omega
                      · exact iff.mp z k h1 (by omega)
                · rintro H7 ⟨k7, zs, hDz, zl, iff⟩
                  refine ⟨by show 0 ≤ sizeLine; decide, fun p8 hp8 => ⟨D, p8, _, rfl, rfl, .inl ⟨SqL.of (same_new hp8 _ _ hDz), SqL.of upd_same⟩, _, rfl, ?_⟩⟩
                  have k68 : Same H6 (upd H7 p8 (.lst [])) := k7.trans (same_new hp8)
                  generalize upd H7 p8 (.lst []) = H8 at k68 ⊢
                  rw [List.isEmpty_map]
                  obtain ⟨hst, hall⟩ := rest_some hf
                  have hasc : zs = [] ↔ areStates n (statesD b) = true := by
                    rw [hst, states_restD, hall, Bool.true_and, asc_steps, iff]
                    constructor
                    · exact fun z k h1 h3 => z k h1 (by omega)
                    · exact fun z k h1 h3 => z k h1 (by omega)
                  by_cases hz : zs = []
                  · subst hz
                    have k08 := k06.trans k68
                    have hpr8 := k68 _ _ hpr6
                    refine ⟨_, rfl, pf, _, rfl, .inl ⟨SqL.of (k68 _ _ hpf6), fun p9 hp9 => ?_⟩⟩
                    have k9 : Same H8 (upd H8 p9 (.tup (ks.map fun k => V.int (k : Nat)))) := same_new hp9
                    have n9 : p9 ∉ pr :: S := fun h => by
                      rcases List.mem_cons.mp h with h | h
                      · rw [h, hpr8] at hp9
                        cases hp9
                      · exact (tr.same k08).out hp9 h
                    refine ⟨_, _, _, _, _, _, _, rfl, k08.trans k9, k9 _ _ (k68 _ _ hpl6), pne, npr, [], k9 _ _ hpr8, .inr (.inr ⟨x0, ln, r1, n, restD ks, [], rfl, Nat.le_refl _, hsz, by rw [er, if_pos ⟨ha, hasc.mp rfl⟩, hst], rfl, ?_, .nil, rfl, rfl⟩)⟩
                    rw [restD_eq]
                    have ia : ∀ l2 : List Nat, DvAll (pr :: S) (upd H8 p9 (.tup (ks.map fun k => V.int (k : Nat)))) (l2.map fun k => V.int (k : Nat)) (l2.map fun k => PyData.int (k : Nat)) := fun l2 => by
                      induction l2 with
                      | nil => exact .nil
                      | cons z l2 ih => exact .cons (.int _) ih
                    exact .tup upd_same n9 (ia ks)
                  · have he : (!zs.isEmpty) = true := by
                      cases zs with
                      | nil => exact absurd rfl hz
                      | cons a l => rfl
                    show (if (!zs.isEmpty) = true then _ else _)
                    rw [if_pos he]
                    exact out (by rw [er, if_neg (fun z => hz (hasc.mpr z.2))]) _ (k6.trans k68)
            · rw [decide_eq_false (fun z => ha (V.str.inj z))]
              exact out (by rw [er, if_neg (fun z => ha z.1)]) _ k6
          · rw [decide_eq_false (fun z => h2 (by injection z with z; omega))]
            exact out (by
              unfold restIn
              split
              · rename_i e
                rw [e] at h2
                exact absurd rfl h2
              · rfl) _ k6
      · rw [show decide (V.int ((i : Nat) : Int) = V.int 0) = false from decide_eq_false (fun z => by injection z with z; omega)]
        refine iteF ⟨_, rfl, rfl, _, rfl, ?_⟩
        rw [show decide (V.int ((i : Nat) : Int) = V.int 1) = false from decide_eq_false (fun z => by injection z with z; omega)]
        refine iteF ?_
        have hdrop : ls.drop i = ln :: ls.drop (i + 1) := by
          obtain ⟨h1, h2⟩ := List.getElem?_eq_some_iff.mp hln
          rw [← h2, List.getElem_cons_drop]
        rw [hdrop] at hai
        have hrl : readL ls = (match actsIn n r0 2 [] with
          | .inl k => .inl k
          | .inr acts => .inr (n, acts, rd)) := by
          rw [els, readL_some hsz]
          unfold readR
          dsimp only
          rw [hrs]
          try rfl
        have eA : actsIn n r0 2 [] = match actIn n ln with
          | none => .inl i
          | some a => if (∃ b ∈ acts.getLast?, ¬ b.1.cps.toList < a.1.cps.toList) then .inl i else actsIn n (ls.drop (i + 1)) (i + 1) (acts ++ [a]) := hai
        have out : actsIn n r0 2 [] = .inl i → ∀ H6, Same H5 H6 → 2 ≤ sizeLine ∧ ∀ p, H6 p = none → Q (.ref p) (upd H6 p (.tup [.str "line", .int ((i : Nat) : Int)])) := fun e H6 k6 => line H6 i (k05.trans k6) (by rw [hrl, e])
        have outN : actIn n ln = none → actsIn n r0 2 [] = .inl i := fun e => by rw [eA, e]
        refine ⟨_, rfl, pw, _, rfl, .inl (SqL.of hpw5), rfl, _, rfl, ?_⟩
        rw [List.length_map]
        by_cases h3 : (wds ln).length = 3
        · rw [decide_eq_true (by rw [h3]; rfl)]
          obtain ⟨a, b, c, hw⟩ : ∃ a b c, wds ln = [a, b, c] := by
            match wds ln, h3 with
            | [a, b, c], _ => exact ⟨a, b, c, rfl⟩
          rw [hw] at hpw5
          have eact := act_word (n := n) hw
          have hb : b.length ≤ 640 := by
            have := wds_part (x := ln) (p := b) (by rw [hw]; exact List.mem_cons_of_mem _ List.mem_cons_self)
            omega
          have hc : c.length ≤ 640 := by
            have := wds_part (x := ln) (p := c) (by rw [hw]; exact List.mem_cons_of_mem _ (List.mem_cons_of_mem _ List.mem_cons_self))
            omega
          refine ⟨_, rfl, pw, _, 0, .str a, rfl, rfl, SqL.of hpw5, rfl, rfl, _, rfl, ?_⟩
          by_cases ha : a = "action"
          · rw [decide_eq_true (congrArg V.str ha)]
            refine ⟨_, rfl, pw, _, 1, .str b, rfl, rfl, SqL.of hpw5, rfl, b, rfl, by omega, fun H6 k6 => ⟨_, rfl, ?_⟩⟩
            cases hb2 : isName (.str b) with
            | false => exact ⟨_, rfl, out (outN (by rw [eact, if_neg (fun z => by rw [hb2] at z; exact Bool.false_ne_true z.2)])) _ k6⟩
            | true =>
              refine ⟨_, rfl, pw, _, 2, .str c, rfl, rfl, SqL.of (k6 _ _ hpw5), rfl, _, rfl, c, n, rfl, hc, fun H7 v k7 hv => ?_⟩
              have k57 := k6.trans k7
              refine ⟨_, rfl, rfl, _, rfl, ?_⟩
              have eact2 : actIn n ln = (mvL n c).map fun ms => (b, ms) := by rw [eact, if_pos ⟨ha, hb2⟩]
              cases hm : mvL n c with
              | none =>
                rw [hm] at hv eact2
                have hv' : v = .non := hv
                subst hv'
                exact ⟨_, rfl, out (outN eact2) _ k57⟩
              | some ms =>
                rw [hm] at hv eact2
                obtain ⟨pm, rfl, hpm6, hpm⟩ := hv
                rw [show decide (V.ref pm = V.non) = false from decide_eq_false (fun z => by cases z)]
                have hpr7 := k57 _ _ hpr5
                have hpw7 := k57 _ _ hpw5
                have k37 := k35.trans k57
                have hx7 : DvAll (pr :: S) H7 xs (acts.map actD) := hx.kp (Kp.of k37)
                have hxl := hx.length
                rw [List.length_map] at hxl
                have k67 : Same H H6 := k05.trans k6
                have nm : pm ∉ pr :: S := fun h => by
                  rcases List.mem_cons.mp h with h | h
                  · rw [h, k6 _ _ hpr5] at hpm6
                    cases hpm6
                  · exact (tr.same k67).out hpm6 h
                refine ⟨_, rfl, by show 0 ≤ sizeLine; decide, fun p2 hp2 => ⟨pr, p2, xs, rfl, rfl, .inl ⟨SqL.of (same_new hp2 _ _ hpr7), SqL.of upd_same⟩, _, rfl, ?_⟩⟩
                have k8 : Same H7 (upd H7 p2 (.lst [])) := same_new hp2
                generalize upd H7 p2 (.lst []) = H8 at k8 ⊢
                have k08 := k05.trans (k57.trans k8)
                have app : (∃ b' ∈ acts.getLast?, ¬ b'.1.cps.toList < b.cps.toList) = False → ∀ pa, H8 pa = none → ∃ (l : Addr) (xs' : List V) (y : V), V.ref pr = .ref l ∧ [V.ref pa] = [y] ∧ (upd H8 pa (.tup [.str b, .ref pm])) l = some (.lst xs') ∧ xs'.length < sizeLine ∧ ∃ (y3' y4' : V) (y5' y6' y7' y8' y10' : Option V), [some (V.str x), some (V.ref pl), some (V.ref pr), some (.int (n : Nat)), some y4, some (.int ((i : Nat) : Int)), some (.str ln), some (.ref pw), y8, none, some (.ref pm)] = [some (V.str x), some (V.ref pl), some (V.ref pr), some y3', some y4', y5', y6', y7', y8', none, y10'] ∧ St3 S H (upd (upd H8 pa (.tup [.str b, .ref pm])) l (.lst (xs' ++ [y]))) ls pl pr (i + 1) y3' y4' := fun ef pa hpa => by
                  have k9 : Same H8 (upd H8 pa (.tup [.str b, .ref pm])) := same_new hpa
                  have hpa9 : (upd H8 pa (.tup [.str b, .ref pm])) pa = some (.tup [.str b, .ref pm]) := upd_same
                  have na : pa ∉ pr :: S := fun h => by
                    rcases List.mem_cons.mp h with h | h
                    · rw [h, k8 _ _ hpr7] at hpa
                      cases hpa
                    · exact (tr.same k08).out hpa h
                  generalize upd H8 pa (.tup [.str b, .ref pm]) = H9 at k9 hpa9 ⊢
                  have k79 := k8.trans k9
                  have kS : Kp (pr :: S) H9 (upd H9 pr (.lst (xs ++ [.ref pa]))) := (Kp.refl _ _).wr (.inl List.mem_cons_self)
                  refine ⟨pr, xs, .ref pa, rfl, rfl, k79 _ _ hpr7, by rw [hxl, sizeLine_eq]; omega, _, _, _, _, _, _, _, rfl, fun b' o' eb => ?_, ?_, pne, npr, _, upd_same, .inr (.inr ⟨x0, y0, r0, n, rd, acts ++ [(b, ms)], els, by omega, hsz, hrs, rfl, ?_, ?_, by rw [List.length_append]; show acts.length + 1 + 2 = i + 1; omega, ?_⟩)⟩
                  · rw [upd_ne (ne_of_none eb npr)]
                    exact k9 _ _ (k08 _ _ eb)
                  · rw [upd_ne pne]
                    exact k79 _ _ (k57 _ _ hpl5)
                  · exact (hrd.kp (Kp.of (k37.trans k79))).kp kS
                  · rw [List.map_append]
                    exact ((hx7.kp (Kp.of k79)).append (.cons (dv_act hpa9 na (k79 _ _ hpm) nm) .nil)).kp kS
                  · rw [eA, eact2]
                    show (if (∃ b' ∈ acts.getLast?, ¬ b'.1.cps.toList < b.cps.toList) then _ else _) = _
                    rw [if_neg (by rw [ef]; exact id)]
                rcases List.eq_nil_or_concat acts with rfl | ⟨fr, b2, rfl⟩
                · cases hx7
                  exact ⟨_, rfl, .inl ⟨rfl, _, SqL.of (k8 _ _ hpr7)⟩, _, rfl, pw, _, 1, .str b, rfl, rfl, SqL.of (k8 _ _ hpw7), rfl, _, rfl, by show 2 ≤ sizeLine; decide, app (by simp)⟩
                · rcases List.eq_nil_or_concat xs with rfl | ⟨xr, z, rfl⟩
                  · rw [List.concat_eq_append, List.length_append] at hxl
                    cases hxl
                  · rw [List.concat_eq_append] at *
                    have hz : (xr ++ [z])[xr.length]? = some z := by simp
                    have hfl : xr.length = fr.length := by
                      rw [List.length_append, List.concat_eq_append, List.length_append] at hxl
                      simp at hxl
                      exact hxl
                    obtain ⟨d, hd', hdz⟩ := hx7.get hz
                    have hd2 : d = actD b2 := by
                      rw [hfl, List.concat_eq_append, List.map_append] at hd'
                      simp at hd'
                      exact hd'.symm
                    subst hd2
                    obtain ⟨z', m2, rfl, hz', _⟩ := act_at hdz
                    have ne : (!(xr ++ [V.ref z']).isEmpty) = true := by
                      cases xr <;> rfl
                    show (if (!(xr ++ [V.ref z']).isEmpty) = true then _ else _)
                    rw [if_pos ne]
                    refine ⟨_, rfl, pw, _, 1, .str b, rfl, rfl, SqL.of (k8 _ _ hpw7), rfl, _, rfl, 1, rfl, pr, _, -1, .ref z', rfl, rfl, SqL.of (k8 _ _ hpr7), atI_last _ _, z', _, 0, .str b2.1, rfl, rfl, SqT.of (k8 _ _ hz'), atI_nat (j := 0) rfl, _, _, rfl, rfl, _, rfl, ?_⟩
                    have el : ∀ {p : Act → Prop}, (∃ b ∈ (fr ++ [b2]).getLast?, p b) ↔ p b2 := by
                      intro p
                      rw [List.getLast?_append]
                      constructor
                      · rintro ⟨c, hc, pc⟩
                        have : b2 = c := by simpa using hc
                        rw [this]
                        exact pc
                      · exact fun h => ⟨b2, rfl, h⟩
                    by_cases lt : b2.1.cps.toList < b.cps.toList
                    · rw [decide_eq_true lt]
                      exact ⟨_, rfl, .inl ⟨rfl, _, SqL.of (k8 _ _ hpr7)⟩, _, rfl, pw, _, 1, .str b, rfl, rfl, SqL.of (k8 _ _ hpw7), rfl, _, rfl, by show 2 ≤ sizeLine; decide, app (eq_false fun z => el.mp z lt)⟩
                    · rw [decide_eq_false lt]
                      refine ⟨_, rfl, out ?_ _ (k57.trans k8)⟩
                      rw [eA, eact2]
                      exact if_pos (el.mpr lt)
          · rw [decide_eq_false (fun z => ha (V.str.inj z))]
            exact ⟨_, rfl, out (outN (by rw [eact, if_neg (fun z => ha z.1)])) _ (Same.refl _)⟩
        · rw [decide_eq_false (fun z => h3 (by injection z with z; omega))]
          refine ⟨_, rfl, out (outN (act_short h3)) _ (Same.refl _)⟩
    · rintro σ H3 ⟨y3, y4, y5, y6, y7, y8, y10, rfl, k3, hpl3, _, _, xs, hpr3, st⟩
      rw [List.length_map] at st
      refine ⟨_, rfl, pl, _, rfl, .inl (SqL.of hpl3), _, _, rfl, rfl, _, rfl, ?_⟩
      rw [List.length_map]
      have dS : ∀ {v d}, Dv (pr :: S) H3 v d → Dv S H3 v d := fun h => h.sub fun a m => List.mem_cons_of_mem _ m
      rcases st with ⟨h0, _⟩ | ⟨h1, _, x0, r0, n, els, hsz, rfl⟩ | ⟨x0, y0, r0, n, rd, acts, els, i2, hsz, hrs, rfl, hrd, hx, hal, hai⟩
      · exact absurd (List.length_eq_zero_iff.mp h0) cn
      · rw [decide_eq_false (p := (1 : Int) < (ls.length : Nat)) (by omega)]
        refine line H3 1 k3 ?_
        rw [els] at h1
        have : r0 = [] := by
          cases r0 with
          | nil => rfl
          | cons a r => simp at h1
        rw [els, this, readL_some hsz]
        rfl
      · rw [decide_eq_true (p := (1 : Int) < (ls.length : Nat)) (by omega)]
        rw [List.drop_length] at hai
        have hai' : actsIn n r0 2 [] = .inr acts := hai
        have hrl : readL ls = .inr (n, acts, rd) := by
          rw [els, readL_some hsz]
          unfold readR
          dsimp only
          rw [hrs]
          dsimp only
          rw [hai']
        rw [hrl] at q
        refine ⟨_, rfl, _, rfl, pr, _, rfl, .inl ⟨SqL.of hpr3, fun ta hta => ?_⟩⟩
        have k4 : Same H3 (upd H3 ta (.tup xs)) := same_new hta
        have nta := (tr.same k3).out hta
        refine ⟨_, rfl, by show 4 ≤ sizeLine; decide, fun pz hpz => q _ _ (k3.trans (k4.trans (same_new hpz))) ?_⟩
        have k5 : Same (upd H3 ta (.tup xs)) (upd (upd H3 ta (.tup xs)) pz (.tup [.str "store", .int (n : Nat), .ref ta, y4])) := same_new hpz
        have hx' : DvAll S H3 xs (acts.map actD) := hx.sub fun a m => List.mem_cons_of_mem _ m
        exact .tup upd_same ((tr.same (k3.trans k4)).out hpz) (.cons (.str _) (.cons (.int _) (.cons (.tup (k5 _ _ upd_same) nta ((hx'.kp (Kp.of k4)).kp (Kp.of k5))) (.cons (((dS hrd).kp (Kp.of k4)).kp (Kp.of k5)) .nil))))
  · have ht2 : isB "str" (tyD d) = false := by
      have : isA "str" d = false := by simpa using ht
      exact this
    rw [ht2]
    exact line H 0 (Same.refl _) (by
      cases d with
      | str x => exact absurd rfl ht
      | _ => rfl)
end
end K04
set_option Elab.async false
set_option linter.all false
set_option maxRecDepth 100000
set_option maxHeartbeats 4000000
set_option pp.maxSteps 2500
/-! k04: what Store.read does, told. -/
namespace K04
open PySem PySem.Spec PyProof.Rows L2 Zg Zr Zd Zv Xu
open TL (tl len_tl ext_tl)
theorem bulk_all : ∀ (ds : List PyData) (B : Nat), (∀ d ∈ ds, d.bulk ≤ B) → PyData.bulkAll ds ≤ (B + 1) * ds.length
  | [], _, _ => Nat.zero_le _
  | d :: ds, B, h => by
    have h1 := h d List.mem_cons_self
    have h2 := bulk_all ds B fun x hx => h x (List.mem_cons_of_mem _ hx)
    show d.bulk + 1 + PyData.bulkAll ds ≤ (B + 1) * (ds.length + 1)
    rw [Nat.mul_succ]
    omega
theorem act_bulk {n : Nat} {acts : List Act} (A : Acts n acts) {a : Act} (ha : a ∈ acts) : (actD a).bulk ≤ 20 := by
  have h1 := (isName_ok (A.nm a ha)).2.2
  have h2 := bulk_all (a.2.map mvD) 0 fun d hd => by
    obtain ⟨m, _, rfl⟩ := List.mem_map.mp hd
    cases m <;> exact Nat.le_refl 0
  rw [List.length_map, A.ln a ha] at h2
  have h3 := A.sz
  show a.1.cps.size + 1 + (PyData.bulkAll (a.2.map mvD) + 1 + 0) ≤ 20
  have h4 : a.1.cps.size ≤ 8 := h1
  omega
theorem acts_bulk {n : Nat} {acts : List Act} (A : Acts n acts) : PyData.bulkAll (acts.map actD) ≤ 18900 := by
  have h := bulk_all (acts.map actD) 20 fun d hd => by
    obtain ⟨a, ha, rfl⟩ := List.mem_map.mp hd
    exact act_bulk A ha
  rw [List.length_map] at h
  have := A.few
  omega
theorem states_bulk {n : Int} {d : PyData} (h : areStates n d = true) (o : okw d = true) : d.bulk ≤ 1000 := by
  unfold areStates at h
  split at h
  · rename_i ds
    rw [Bool.and_eq_true, List.all_eq_true] at h
    have h1 := bulk_all ds 0 fun x hx => by
      have := h.1 x hx
      cases x with
      | int i => exact Nat.le_refl 0
      | _ => cases this
    have h2 := (okw_tup o).1
    show PyData.bulkAll ds ≤ 1000
    omega
  · cases h
theorem okAll_iff : ∀ {l : List PyData}, okAll l = true ↔ ∀ d ∈ l, okd d = true
  | [] => by simp [okAll]
  | x :: l => by
    rw [okAll, Bool.and_eq_true, okAll_iff (l := l)]
    simp
theorem okd_int {i : Int} (h : i.natAbs < 1000) : okd (.int i) = true := by
  show decide _ = true
  exact decide_eq_true (by omega)
theorem acts_okd {n : Nat} {acts : List Act} (A : Acts n acts) : okAll (acts.map actD) = true := okAll_iff.mpr fun d hd => by
  obtain ⟨a, ha, rfl⟩ := List.mem_map.mp hd
  show (okd (.str a.1) && (okd (.tuple (a.2.map mvD)) && true)) = true
  rw [Bool.and_true, Bool.and_eq_true]
  refine ⟨isName_sok (A.nm a ha), okAll_iff.mpr fun d hd => ?_⟩
  obtain ⟨m, hm, rfl⟩ := List.mem_map.mp hd
  cases m with
  | none => rfl
  | some k =>
    have h1 := A.mv a ha (some k) hm k rfl
    have h2 := A.sz
    refine okd_int (i := ((k : Nat) : Int)) ?_
    rw [Int.natAbs_natCast]
    omega
theorem states_okd {n : Nat} {d : PyData} (hn : n ≤ 3) (h : areStates n d = true) : okd d = true := by
  unfold areStates at h
  split at h
  · rename_i ds
    rw [Bool.and_eq_true, List.all_eq_true] at h
    refine okAll_iff.mpr fun x hx => ?_
    have := h.1 x hx
    cases x with
    | int i =>
      have h' : (decide ((0 : Int) ≤ i) && decide (i < (n : Int))) = true := this
      rw [Bool.and_eq_true, decide_eq_true_iff, decide_eq_true_iff] at h'
      exact okd_int (by omega)
    | _ => cases this
  · cases h
/-- a reading that can be shown -/
structure Fit (r : Nat ⊕ (Nat × List Act × PyData)) : Prop where
  ok : okd (readP r) = true
  dp : (readP r).depth ≤ 60
  bk : (readP r).bulk ≤ 300000
  pl : pln (readP r) = true
theorem fit_line {k : Nat} (h : k < 1000) : Fit (.inl k) := by
  refine ⟨?_, ?_, ?_, rfl⟩
  · show (okd (.str "line") && (okd (.int (k : Nat)) && true)) = true
    rw [okd_int (by rw [Int.natAbs_natCast]; exact h), show okd (.str "line") = true from by decide +kernel]
    rfl
  · show max 0 (max 0 0) + 1 ≤ 60
    decide
  · show ("line" : PySem.Str).cps.size + 1 + (0 + 1 + 0) ≤ 300000
    decide +kernel
theorem fit_store {n : Nat} {acts : List Act} {rd : PyData} (A : Acts n acts) (h : areStates n rd = true) (o : okw rd = true) : Fit (.inr (n, acts, rd)) := by
  refine ⟨?_, ?_, ?_, ?_⟩
  · show (okd (.str "store") && (okd (.int (n : Nat)) && (okAll (acts.map actD) && (okd rd && true)))) = true
    have := A.sz
    rw [okd_int (by rw [Int.natAbs_natCast]; omega), show okd (.str "store") = true from by decide +kernel, acts_okd A, states_okd A.sz h]
    rfl
  · have h2 : PyData.depthAll (acts.map actD) ≤ 2 := depth_all fun d hd => by
      obtain ⟨a, _, rfl⟩ := List.mem_map.mp hd
      exact depth_act a
    have h3 := (states_pln h).2
    show max 0 (max 0 (max (PyData.depthAll (acts.map actD) + 1) (max rd.depth 0))) + 1 ≤ 60
    omega
  · have h1 := acts_bulk A
    have h2 := states_bulk h o
    have h3 : ("store" : PySem.Str).cps.size = 5 := by decide +kernel
    show ("store" : PySem.Str).cps.size + 1 + (0 + 1 + (PyData.bulkAll (acts.map actD) + 1 + (rd.bulk + 1 + 0))) ≤ 300000
    rw [h3]
    omega
  · show (true && (true && (plnAll (acts.map actD) && (pln rd && true)))) = true
    rw [acts_pln, (states_pln h).1]
    rfl
theorem actsIn_le {n : Nat} : ∀ {ls : List PySem.Str} {k : Nat} {f : List Act} {j : Nat}, actsIn n ls k f = .inl j → j < k + ls.length
  | [], k, f, j, h => by cases h
  | x :: ls, k, f, j, h => by
    have h' : (match actIn n x with
      | none => .inl k
      | some a => if (∃ b ∈ f.getLast?, ¬ b.1.cps.toList < a.1.cps.toList) then .inl k else actsIn n ls (k + 1) (f ++ [a])) = (.inl j : Nat ⊕ List Act) := h
    rw [List.length_cons]
    cases ha : actIn n x with
    | none =>
      rw [ha] at h'
      injection h' with h'
      omega
    | some a =>
      rw [ha] at h'
      have h4 : (if (∃ b ∈ f.getLast?, ¬ b.1.cps.toList < a.1.cps.toList) then .inl k else actsIn n ls (k + 1) (f ++ [a])) = (.inl j : Nat ⊕ List Act) := h'
      by_cases hb : ∃ b ∈ f.getLast?, ¬ b.1.cps.toList < a.1.cps.toList
      · rw [if_pos hb] at h4
        injection h4 with h4
        omega
      · rw [if_neg hb] at h4
        have := actsIn_le h4
        omega
theorem readL_fit {ls : List PySem.Str} (hl : ∀ x ∈ ls, x.length ≤ 640) (h9 : ls.length ≤ 700) : Fit (readL ls) := by
  cases ls with
  | nil => exact fit_line (by decide)
  | cons x r =>
    cases hsz : sizeIn x with
    | none => rw [readL_none hsz]; exact fit_line (by decide)
    | some n =>
      rw [readL_some hsz]
      obtain ⟨n1, n3⟩ := sizeIn_ok hsz
      cases r with
      | nil => exact fit_line (by decide)
      | cons y r =>
        rw [List.length_cons, List.length_cons] at h9
        unfold readR
        dsimp only
        cases hrd : restIn n y with
        | none => exact fit_line (by decide)
        | some rd =>
          obtain ⟨h1, h2⟩ := restIn_ok (hl y (List.mem_cons_of_mem _ List.mem_cons_self)) hrd
          dsimp only
          cases hA : actsIn n r 2 [] with
          | inl k =>
            have := actsIn_le hA
            exact fit_line (by omega)
          | inr acts =>
            obtain ⟨g1, g2, g3⟩ := actsIn_ok hA (fun _ h => nomatch h) List.Pairwise.nil
            have e0 : ([] : List Act).length = 0 := rfl
            exact fit_store (acts_of n3 g1 g2 (by omega)).1 h1 h2
theorem readD_fit {d : PyData} (h : sml d = true) : Fit (readD d) := by
  cases d with
  | str x =>
    have hl : x.length ≤ 640 := of_decide_eq_true h
    have cl := cutN_len x
    exact readL_fit (fun p hp => Nat.le_trans (cutN_part hp) hl) (by omega)
  | _ => exact fit_line (by decide)
section
variable {P : Program} {w : World} {K : PySem.W.Frag} {mg : PySem.Str → Option Value} {base : Heap}
def sp_told : Sp := fun vs H Q _ => ∃ (S : List Addr) (v : V) (d : PyData), vs = [v] ∧ Dv S H v d ∧ sml d = true ∧ ∀ H', Same H H' → Q (.str (readP (readD d)).shown) H'
theorem ok_told (T : Txt K mg) : FnG P w K mg base 15 T.a_told T.d_told P_told sp_told := by
  refine okG T.F_told sc_told (fun vs H Q E h => by obtain ⟨S, v, d, rfl, _⟩ := h; rfl) (fun cdv A outer s H vs Q hgd hr h => ?_)
  refine ⟨_, (pss_cons (ps_set (i := 1) sc_told.nd rfl (Or.inl rfl) (pe_tup (pa_cons pe_str pa_nil)))
    (pss_cons (Xt.ps_try_mix rfl rfl sc_told.nd Xt.takes0 (fun W pn xe tk pp => (pss_cons (ps_set (i := 2) sc_told.nd rfl (Or.inl rfl) (Xc.pe_cmethS (pe_glob (v := .ref T.C_Store) rfl T.g_Store rfl) T.rd_Store T.me_Store_read (ok_Store_read T) T.b_Store_read (hr.mono (by decide)) (fun σ => L2N.passAt tk σ) (pa_cons (pv 0) pa_nil)))
    (pss_one (ps_set (i := 1) sc_told.nd rfl (Or.inl rfl) (pe_tup (pa_cons pe_str (pa_cons (show PE _ _ (tFld K (tVar 2) "size") from pe_fld (pv 2) rfl) (pa_cons (show PE _ _ (tFld K (tVar 2) "actions") from pe_fld (pv 2) rfl) (pa_cons (show PE _ _ (tFld K (tVar 2) "resting") from pe_fld (pv 2) rfl) pa_nil)))))))))
    (Xt.HdsX.named (i := 3) ⟨rfl, by decide, (.inl T.g_InvalidText)⟩ rfl rfl (fun a oe cls d pn hz hf => (pss_one (ps_set (i := 1) sc_told.nd rfl (Or.inl rfl) (pe_tup (pa_cons pe_str (pa_cons (pe_xf T.E_InvalidText.xf (T.E_InvalidText.no "line" List.mem_cons_self) ⟨hz.1, hz.2.1⟩ hf (pv 3)) pa_nil))))))
    (Xt.HdsX.bare ⟨rfl, by decide, (.inl T.g_FlowError)⟩ (fun a oe cls d pn hz hf => (pss_one (ps_set (i := 1) sc_told.nd rfl (Or.inl rfl) (pe_tup (pa_cons pe_str pa_nil)))))
    Xt.HdsX.nil)))
    (pss_one (ps_ret (pe_callB (cr_repr hgd hr) (by rfl) T.n_repr (by decide +kernel) (pa_cons (pv 1) pa_nil)))))), ?_⟩
  obtain ⟨S, v, d, rfl, hd, hs, q⟩ := h
  have ft := readD_fit hs
  refine ⟨by show 1 ≤ sizeLine; decide, fun p1 hp1 => ?_⟩
  have k1 : Same H (upd H p1 (.tup [.str "wrong"])) := same_new hp1
  show (gName 1) (V.ref p1) _ (upd H p1 (.tup [.str "wrong"])) _
  generalize upd H p1 (.tup [.str "wrong"]) = H1 at k1 ⊢
  refine ⟨rfl, _, rfl, S, v, d, rfl, hd.kp (Kp.of k1), hs, ?_⟩
  cases hrd : readD d with
  | inl k =>
    rw [hrd] at q ft
    intro dd H2 k2 hdd
    have ne : T.C_InvalidText ≠ T.C_FlowError := fun e => by
      have h := T.nd
      rw [e] at h
      revert h
      simp
    refine ⟨_, T.E_InvalidText.exm T.E_InvalidText ne, fun _ a ha => ?_, fun z => ?_⟩
    · refine ⟨_, rfl, rfl, rfl, dd, _, .int (k : Nat), rfl, hdd, rfl, by show 2 ≤ sizeLine; decide, fun pz hpz => ?_⟩
      have k3 : Same H2 (upd H2 pz (.tup [.str "line", .int (k : Nat)])) := same_new hpz
      have hz3 : (upd H2 pz (.tup [.str "line", .int (k : Nat)])) pz = some (.tup [.str "line", .int (k : Nat)]) := upd_same
      refine ⟨_, rfl, Zd.repr_of (d := readP (.inl k)) ?_ ft.ok ft.dp ft.bk (q _ (k1.trans (k2.trans k3)))⟩
      exact .tup (SqT.of hz3) (.cons (.str _) (.cons (.int _) .nil))
    · rw [decide_eq_true rfl] at z
      cases z
  | inr u =>
    obtain ⟨n, acts, rd⟩ := u
    rw [hrd] at q ft
    intro H2 p k2 st
    obtain ⟨S', r, sa, hrv⟩ := st.ex
    obtain ⟨dx, aA, o, ps, dM, lW, kvs, ds, h1, h2, h3, _⟩ := sa.ex
    refine ⟨_, rfl, p, T.C_Store, dx, _, _, rfl, h1, T.cl_Store, T.no_Store_size, flds_size, _, rfl, p, T.C_Store, dx, _, _, rfl, h1, T.cl_Store, T.no_Store_actions, flds_actions, _, rfl, p, T.C_Store, dx, _, _, rfl, h1, T.cl_Store, T.no_Store_resting, flds_resting, by show 4 ≤ sizeLine; decide, fun pz hpz => ?_⟩
    have k3 : Same H2 (upd H2 pz (.tup [.str "store", .int (n : Nat), .ref aA, r])) := same_new hpz
    have hz3 : (upd H2 pz (.tup [.str "store", .int (n : Nat), .ref aA, r])) pz = some (.tup [.str "store", .int (n : Nat), .ref aA, r]) := upd_same
    show (gName 1) (V.ref pz) _ (upd H2 pz (.tup [.str "store", .int (n : Nat), .ref aA, r])) _
    generalize upd H2 pz (.tup [.str "store", .int (n : Nat), .ref aA, r]) = H3 at k3 hz3 ⊢
    refine ⟨_, rfl, Zd.repr_of (d := readP (.inr (n, acts, rd))) ?_ ft.ok ft.dp ft.bk (q _ (k1.trans (k2.trans k3)))⟩
    exact .tup (SqT.of hz3) (.cons (.str _) (.cons (.int _) (.cons (.tup (.inl (.inr ⟨o, k3 _ _ h2⟩)) (dpAll_dv (h3.kp (Kp.of k3)) (acts_pln acts))) (.cons ((hrv.kp (Kp.of k3)).dp (states_pln st.st).1) .nil))))
end
end K04
set_option Elab.async false
set_option linter.all false
set_option maxRecDepth 100000
set_option maxHeartbeats 4000000
set_option pp.maxSteps 2500
/-! k04: a store's text is read back (plain). -/
namespace K04
open PySem PySem.Spec PyProof.Rows L2 Zg Zr Zd Zv
open TL (tl len_tl ext_tl)
def AllC (p : Nat → Prop) (x : PySem.Str) : Prop := ∀ c ∈ tl x, p c
theorem AllC.app {p : Nat → Prop} {x y : PySem.Str} (h : AllC p x) (k : AllC p y) : AllC p (x ++ y) := fun c hc => by
  rw [TL.tl_append] at hc
  exact (List.mem_append.mp hc).elim (h c) (k c)
theorem joinL_mem {S : List Nat} {c : Nat} : ∀ {l : List (List Nat)}, c ∈ TL.joinL S l → c ∈ S ∨ ∃ p ∈ l, c ∈ p
  | [], h => by cases h
  | [x], h => .inr ⟨x, List.mem_singleton.mpr rfl, h⟩
  | x :: y :: l, h => by
    have h' : c ∈ x ++ (S ++ TL.joinL S (y :: l)) := h
    rcases List.mem_append.mp h' with h | h
    · exact .inr ⟨x, List.mem_cons_self, h⟩
    · rcases List.mem_append.mp h with h | h
      · exact .inl h
      · rcases joinL_mem h with h | ⟨p, hp, h⟩
        · exact .inl h
        · exact .inr ⟨p, List.mem_cons_of_mem _ hp, h⟩
theorem AllC.join {p : Nat → Prop} {y : PySem.Str} {l : List PySem.Str} (h : AllC p y) (k : ∀ x ∈ l, AllC p x) : AllC p (Txt.join y l) := fun c hc => by
  rw [TL.join_eq, TL.tl_join] at hc
  rcases joinL_mem hc with hc | ⟨q, hq, hc⟩
  · exact h c hc
  · obtain ⟨x, hx, rfl⟩ := List.mem_map.mp hq
    exact k x hx c hc
theorem AllC.imp {p q : Nat → Prop} {x : PySem.Str} (h : AllC p x) (k : ∀ c, p c → q c) : AllC q x := fun c hc => k c (h c hc)
/-- signs of words -/
def Wd (c : Nat) : Prop := 33 ≤ c ∧ c < 128 ∧ c ≠ 44
def Sg (c : Nat) : Prop := 32 ≤ c ∧ c < 128
theorem wd_num (k : Nat) : AllC Wd (numS k) := fun c hc => by
  rw [tl_numS] at hc
  have := TL.numL_digits k c hc
  exact ⟨by omega, by omega, by omega⟩
theorem wd_mv (m : Option Nat) : AllC Wd (mvS m) := by
  cases m with
  | none =>
    intro c hc
    have e : tl (mvS none) = [45] := by decide +kernel
    rw [e] at hc
    rw [List.mem_singleton.mp hc]
    exact ⟨by decide, by decide, by decide⟩
  | some k => exact wd_num k
theorem abc_wd : ∀ c ∈ ABC, 97 ≤ c ∧ c ≤ 122 := by decide +kernel
theorem wd_name {x : PySem.Str} (h : isName (.str x) = true) : AllC Wd x := fun c hc => by
  have h' : (decide (1 ≤ x.length) && decide (x.length ≤ 8) && x.cps.toList.all fun c => decide (c ∈ ABC)) = true := h
  rw [Bool.and_eq_true, List.all_eq_true] at h'
  have := abc_wd c (of_decide_eq_true (h'.2 c hc))
  exact ⟨by omega, by omega, by omega⟩
theorem sg_shown (ms : List (Option Nat)) : AllC (fun c => 33 ≤ c ∧ c < 128) (shown ms) := by
  unfold shown
  split
  · intro c hc
    have e : tl ("-" : PySem.Str) = [45] := by decide +kernel
    rw [e] at hc
    rw [List.mem_singleton.mp hc]
    exact ⟨by decide, by decide⟩
  · refine AllC.join (fun c hc => ?_) fun x hx => ?_
    · have e : tl ("," : PySem.Str) = [44] := by decide +kernel
      rw [e] at hc
      rw [List.mem_singleton.mp hc]
      exact ⟨by decide, by decide⟩
    · obtain ⟨m, _, rfl⟩ := List.mem_map.mp hx
      exact (wd_mv m).imp fun c h => ⟨h.1, h.2.1⟩
theorem sg_const {x : PySem.Str} (h : (tl x).all (fun c => decide (32 ≤ c) && decide (c < 128)) = true) : AllC Sg x := fun c hc => by
  have := List.all_eq_true.mp h c hc
  rw [Bool.and_eq_true, decide_eq_true_iff, decide_eq_true_iff] at this
  exact this
theorem sg_lines {n : Nat} {acts : List Act} {rs : List Nat} (A : Acts n acts) : ∀ x ∈ linesOf n acts rs, AllC Sg x := by
  intro x hx
  unfold linesOf at hx
  rcases List.mem_cons.mp hx with rfl | hx
  · exact (sg_const (by decide +kernel)).app ((wd_num n).imp fun c h => ⟨by have := h.1; omega, h.2.1⟩)
  rcases List.mem_cons.mp hx with rfl | hx
  · exact (sg_const (by decide +kernel)).app ((sg_shown _).imp fun c h => ⟨by omega, h.2⟩)
  obtain ⟨a, ha, rfl⟩ := List.mem_map.mp hx
  unfold actL
  exact (((sg_const (by decide +kernel)).app ((wd_name (A.nm a ha)).imp fun c h => ⟨by have := h.1; omega, h.2.1⟩)).app (sg_const (by decide +kernel))).app ((sg_shown _).imp fun c h => ⟨by omega, h.2⟩)
theorem text_ok {n : Nat} {acts : List Act} {rs : List Nat} (A : Acts n acts) : PyData.strOk (textOf n acts rs) = true := by
  have h : AllC (fun c => c < 128) (textOf n acts rs) := by
    refine AllC.join (fun c hc => ?_) fun x hx => (sg_lines A x hx).imp fun c h => h.2
    have e : tl ("\n" : PySem.Str) = [10] := by decide +kernel
    rw [e] at hc
    rw [List.mem_singleton.mp hc]
    decide
  show (textOf n acts rs).cps.all _ = true
  rw [← Array.all_toList, List.all_eq_true]
  intro c hc
  have : c < 128 := h c hc
  exact decide_eq_true (by omega)
theorem cutN_text {n : Nat} {acts : List Act} {rs : List Nat} (A : Acts n acts) : cutN (textOf n acts rs) = linesOf n acts rs := by
  have e : tl ("\n" : PySem.Str) = 10 :: [] := by decide +kernel
  refine TL.split_join e (by decide +kernel) (List.cons_ne_nil _ _) fun p hp h => ?_
  have := (sg_lines A p hp 10 h).1
  omega
theorem two_words {a b : PySem.Str} (ha : AllC (fun c => 33 ≤ c ∧ c < 128) a) (hb : AllC (fun c => 33 ≤ c ∧ c < 128) b) : wds (a ++ " " ++ b) = [a, b] := by
  have e : tl (" " : PySem.Str) = 32 :: [] := by decide +kernel
  have ej : Txt.join " " [a, b] = a ++ " " ++ b := by
    rw [TL.join_eq]
    exact ext_tl (by rw [TL.tl_join, TL.tl_append, TL.tl_append]; show tl a ++ (tl " " ++ tl b) = _; rw [List.append_assoc])
  rw [← ej]
  refine TL.split_join e (by decide +kernel) (List.cons_ne_nil _ _) fun p hp h => ?_
  rcases List.mem_cons.mp hp with rfl | hp
  · have := (ha 32 h).1
    omega
  · rw [List.mem_singleton.mp hp] at h
    have := (hb 32 h).1
    omega
theorem three_words {a b c : PySem.Str} (ha : AllC (fun c => 33 ≤ c ∧ c < 128) a) (hb : AllC (fun c => 33 ≤ c ∧ c < 128) b) (hc : AllC (fun c => 33 ≤ c ∧ c < 128) c) : wds (a ++ " " ++ b ++ " " ++ c) = [a, b, c] := by
  have e : tl (" " : PySem.Str) = 32 :: [] := by decide +kernel
  have ej : Txt.join " " [a, b, c] = a ++ " " ++ b ++ " " ++ c := by
    rw [TL.join_eq]
    exact ext_tl (by rw [TL.tl_join, TL.tl_append, TL.tl_append, TL.tl_append, TL.tl_append]; show tl a ++ (tl " " ++ (tl b ++ (tl " " ++ tl c))) = _; simp [List.append_assoc])
  rw [← ej]
  refine TL.split_join e (by decide +kernel) (List.cons_ne_nil _ _) fun p hp h => ?_
  rcases List.mem_cons.mp hp with rfl | hp
  · have := (ha 32 h).1
    omega
  rcases List.mem_cons.mp hp with rfl | hp
  · have := (hb 32 h).1
    omega
  · rw [List.mem_singleton.mp hp] at h
    have := (hc 32 h).1
    omega
theorem cm_moves {ms : List (Option Nat)} (h : ms ≠ []) : cm (movesS ms) = ms.map mvS := by
  have e : tl ("," : PySem.Str) = 44 :: [] := by decide +kernel
  refine TL.split_join e (by decide +kernel) (fun z => h (List.map_eq_nil_iff.mp z)) fun p hp hc => ?_
  obtain ⟨m, _, rfl⟩ := List.mem_map.mp hp
  exact (wd_mv m 44 hc).2.2 rfl
theorem int_num : ∀ k : Nat, k < 4 → intIn (numS k) = some k ∧ numS k ≠ "-" := by decide +kernel
theorem mv_back {n : Nat} (hn : n ≤ 4) {ms : List (Option Nat)} (low : Low n ms) : ∀ m ∈ ms, mvOne (mvS m) = m ∧ ¬ (mvS m ≠ "-" ∧ intIn (mvS m) = none) := by
  intro m hm
  cases m with
  | none => exact ⟨by decide +kernel, fun z => z.1 rfl⟩
  | some k =>
    have := low _ hm k rfl
    obtain ⟨h1, h2⟩ := int_num k (by omega)
    refine ⟨?_, fun z => ?_⟩
    · show mvOne (numS k) = some k
      unfold mvOne
      rw [if_neg h2, h1]
    · have h3 : intIn (numS k) = none := z.2
      rw [h1] at h3
      cases h3
theorem moves_back {n : Nat} (hn : n ≤ 4) {ms : List (Option Nat)} (low : Low n ms) (h : ms ≠ []) : movesIn (movesS ms) = some ms := by
  unfold movesIn
  rw [cm_moves h, if_neg]
  · rw [List.map_map]
    congr 1
    have : ∀ l : List (Option Nat), (∀ m ∈ l, mvOne (mvS m) = m) → l.map (mvOne ∘ mvS) = l := fun l => by
      induction l with
      | nil => intro _; rfl
      | cons m l ih =>
        intro hl
        rw [List.map_cons, ih fun x hx => hl x (List.mem_cons_of_mem _ hx)]
        show mvOne (mvS m) :: l = m :: l
        rw [hl m List.mem_cons_self]
    exact this ms fun m hm => (mv_back hn low m hm).1
  · rintro ⟨p, hp, z⟩
    obtain ⟨m, hm, rfl⟩ := List.mem_map.mp hp
    exact (mv_back hn low m hm).2 z
theorem states_back {n : Nat} (hn : n ≤ 4) {rs : List Nat} (low : Low n (rs.map some)) : statesD (shown (rs.map some)) = restD rs := by
  cases rs with
  | nil =>
    have e1 : shown (([] : List Nat).map some) = "-" := rfl
    rw [e1]
    unfold statesD stParts
    rw [if_pos rfl, if_neg (fun z => by cases z)]
    rfl
  | cons r rs =>
    have e1 : shown ((r :: rs).map some) = movesS ((r :: rs).map some) := by
      unfold shown
      exact if_neg (List.cons_ne_nil _ _)
    have e2 : cm (movesS ((r :: rs).map some)) = ((r :: rs).map some).map mvS := cm_moves (List.cons_ne_nil _ _)
    have ne : movesS ((r :: rs).map some) ≠ "-" := fun z => by
      rw [z] at e2
      have e3 : cm "-" = [("-" : PySem.Str)] := by decide +kernel
      rw [e3] at e2
      injection e2 with e2 _
      have := low (some r) List.mem_cons_self r rfl
      exact (int_num r (by omega)).2 e2.symm
    have e4 : stParts (movesS ((r :: rs).map some)) = (r :: rs).map some := by
      unfold stParts
      rw [if_neg ne, e2, List.map_map, List.map_map]
      refine List.map_congr_left fun k hk => ?_
      have := low (some k) (List.mem_map.mpr ⟨k, hk, rfl⟩) k rfl
      exact (int_num k (by omega)).1
    rw [e1]
    unfold statesD
    rw [e4, if_neg (fun z => by obtain ⟨k, _, e⟩ := List.mem_map.mp z; cases e)]
    rfl
theorem lit33 {x : PySem.Str} (h : (tl x).all (fun c => decide (33 ≤ c) && decide (c < 128)) = true) : AllC (fun c => 33 ≤ c ∧ c < 128) x := fun c hc => by
  have := List.all_eq_true.mp h c hc
  rw [Bool.and_eq_true, decide_eq_true_iff, decide_eq_true_iff] at this
  exact this
theorem app_assoc (x y z : PySem.Str) : x ++ y ++ z = x ++ (y ++ z) := ext_tl (by rw [TL.tl_append, TL.tl_append, TL.tl_append, TL.tl_append, List.append_assoc])
theorem size_back {n : Nat} (n1 : 1 ≤ n) (n3 : n ≤ 3) : sizeIn ("size " ++ numS n) = some n := by
  have hw : wds ("size " ++ numS n) = [("size" : PySem.Str), numS n] := by
    have e : ("size " : PySem.Str) = "size" ++ " " := by decide +kernel
    rw [e]
    exact two_words (lit33 (by decide +kernel)) ((wd_num n).imp fun c h => ⟨h.1, h.2.1⟩)
  unfold sizeIn
  rw [hw]
  have h := (int_num n (by omega)).1
  show (if ("size" : PySem.Str) = "size" ∧ isSz (mvD (intIn (numS n))) = true then intIn (numS n) else none) = some n
  rw [h, if_pos]
  refine ⟨rfl, ?_⟩
  show (decide ((1 : Int) ≤ (n : Nat)) && decide (((n : Nat) : Int) ≤ 3)) = true
  rw [decide_eq_true (by omega), decide_eq_true (by omega)]
  rfl
theorem rest_back {n : Nat} (n3 : n ≤ 3) {rs : List Nat} (h : areStates n (restD rs) = true) : restIn n ("resting " ++ shown (rs.map some)) = some (restD rs) := by
  have hw : wds ("resting " ++ shown (rs.map some)) = [("resting" : PySem.Str), shown (rs.map some)] := by
    have e : ("resting " : PySem.Str) = "resting" ++ " " := by decide +kernel
    rw [e]
    exact two_words (lit33 (by decide +kernel)) (sg_shown _)
  unfold restIn
  rw [hw]
  show (if ("resting" : PySem.Str) = "resting" ∧ areStates n (statesD (shown (rs.map some))) = true then some (statesD (shown (rs.map some))) else none) = some (restD rs)
  rw [states_back (n := n) (by omega) (rest_low h), if_pos ⟨rfl, h⟩]
theorem act_back {n : Nat} {acts : List Act} (A : Acts n acts) (n1 : 1 ≤ n) {a : Act} (ha : a ∈ acts) : actIn n (actL a) = some a := by
  have hw : wds (actL a) = [("action" : PySem.Str), a.1, shown a.2] := by
    have e : ("action " : PySem.Str) = "action" ++ " " := by decide +kernel
    unfold actL
    rw [e]
    exact three_words (lit33 (by decide +kernel)) ((wd_name (A.nm a ha)).imp fun c h => ⟨h.1, h.2.1⟩) (sg_shown _)
  have hl := A.ln a ha
  have ne : a.2 ≠ [] := fun z => by
    rw [z] at hl
    simp at hl
    omega
  have es : shown a.2 = movesS a.2 := by
    unfold shown
    rw [if_neg ne]
  have hm := moves_back (n := n) (by have := A.sz; omega) (A.mv a ha) ne
  have hz := A.isAct a ha
  unfold actIn
  rw [hw, es]
  show (if ("action" : PySem.Str) = "action" then (match movesIn (movesS a.2) with
    | some ms => if isAct n (.tuple [.str a.1, .tuple (ms.map mvD)]) = true then some (a.1, ms) else none
    | none => none) else none) = some a
  rw [if_pos rfl, hm]
  exact if_pos hz
theorem acts_back {n : Nat} : ∀ {rest f : List Act} {k : Nat}, (∀ a ∈ rest, actIn n (actL a) = some a) → AscS (f ++ rest) → actsIn n (rest.map actL) k f = .inr (f ++ rest)
  | [], f, k, _, _ => by
    show Sum.inr f = Sum.inr (f ++ [])
    rw [List.append_nil]
  | a :: rest, f, k, h, s => by
    show (match actIn n (actL a) with
      | none => .inl k
      | some a => if (∃ b ∈ f.getLast?, ¬ b.1.cps.toList < a.1.cps.toList) then .inl k else actsIn n (rest.map actL) (k + 1) (f ++ [a])) = (.inr (f ++ a :: rest) : Nat ⊕ List Act)
    rw [h a List.mem_cons_self]
    show (if (∃ b ∈ f.getLast?, ¬ b.1.cps.toList < a.1.cps.toList) then .inl k else actsIn n (rest.map actL) (k + 1) (f ++ [a])) = (.inr (f ++ a :: rest) : Nat ⊕ List Act)
    have e : f ++ a :: rest = f ++ [a] ++ rest := by rw [List.append_assoc]; rfl
    rw [if_neg, e]
    · exact acts_back (fun x hx => h x (List.mem_cons_of_mem _ hx)) (by rw [← e]; exact s)
    · rintro ⟨b, hb, z⟩
      exact z ((List.pairwise_append.mp s).2.2 b (List.mem_of_getLast? hb) a List.mem_cons_self)
theorem ascS_of {n : Nat} {acts : List Act} (A : Acts n acts) (h : Asc acts) : AscS acts := by
  have nd := A.nd
  have h2 : (acts.map (·.1)).Pairwise (· ≠ ·) := nd
  have h3 := List.pairwise_map.mp h2
  refine (h.and h3).imp fun {x y} z => ?_
  rcases Classical.em (x.1.cps.toList < y.1.cps.toList) with e | e
  · exact e
  · exact absurd (Zt.str_ext (List.le_antisymm (List.not_lt.mp z.1) (List.not_lt.mp e))) z.2
/-- a store's text, read, is the store -/
theorem text_back {n : Nat} {acts : List Act} {rs : List Nat} (A : Acts n acts) (asc : Asc acts) (n1 : 1 ≤ n) (h : areStates n (restD rs) = true) : readD (.str (textOf n acts rs)) = .inr (n, acts, restD rs) := by
  show readL (cutN (textOf n acts rs)) = _
  rw [cutN_text A]
  unfold linesOf
  rw [readL_some (size_back n1 A.sz)]
  unfold readR
  dsimp only
  rw [rest_back A.sz h]
  dsimp only
  rw [acts_back (f := []) (fun a ha => act_back A n1 ha) (by rw [List.nil_append]; exact ascS_of A asc)]
  rfl
end K04
set_option Elab.async false
set_option linter.all false
set_option maxRecDepth 100000
set_option maxHeartbeats 4000000
set_option pp.maxSteps 2500
/-! k04: the law. -/
namespace K04
open PySem PySem.Spec PyProof.Rows L2 Zg Zr Zd Zv Xu
open TL (tl len_tl ext_tl)
mutual
/-- no list, no dict within -/
def noL : PyData → Bool
  | .none | .bool _ | .int _ | .str _ => true
  | .list _ | .dict _ => false
  | .tuple xs => noLAll xs
def noLAll : List PyData → Bool
  | [] => true
  | x :: xs => noL x && noLAll xs
end
theorem noLAll_iff : ∀ {l : List PyData}, noLAll l = true ↔ ∀ d ∈ l, noL d = true
  | [] => by simp [noLAll]
  | x :: l => by
    rw [noLAll, Bool.and_eq_true, noLAll_iff (l := l)]
    simp
mutual
/-- tuples stand nowhere where a list stands -/
theorem dv_noL {S : List Addr} {H : Hp} {p : Addr} {ys : List V} (hp : H p = some (.lst ys)) : ∀ {v : V} {d : PyData}, Dv S H v d → noL d = true → Dv (p :: S) H v d
  | _, _, .non, _ => .non
  | _, _, .bl b, _ => .bl b
  | _, _, .int i, _ => .int i
  | _, _, .str x, _ => .str x
  | _, _, .lst h n t, e => by cases e
  | _, _, .tup (a := a) h n t, e => .tup h (fun m => by
      rcases List.mem_cons.mp m with m | m
      · rw [m, hp] at h
        cases h
      · exact n m) (dvs_noL hp t e)
  | _, _, .dic h n, e => by cases e
theorem dvs_noL {S : List Addr} {H : Hp} {p : Addr} {ys : List V} (hp : H p = some (.lst ys)) : ∀ {vs : List V} {ds : List PyData}, DvAll S H vs ds → noLAll ds = true → DvAll (p :: S) H vs ds
  | _, _, .nil, _ => .nil
  | _, _, .cons (d := d) (ds := ds) h t, e => by
    have e' : (noL d && noLAll ds) = true := e
    rw [Bool.and_eq_true] at e'
    exact .cons (dv_noL hp h e'.1) (dvs_noL hp t e'.2)
end
theorem dvs_rev {S : List Addr} {H : Hp} : ∀ {vs : List V} {ds : List PyData}, DvAll S H vs ds → DvAll S H vs.reverse ds.reverse
  | _, _, .nil => .nil
  | _, _, .cons h t => by
    rw [List.reverse_cons, List.reverse_cons]
    exact (dvs_rev t).append (.cons h .nil)
theorem acts_noL (acts : List Act) : noL (.tuple (acts.map actD)) = true := noLAll_iff.mpr fun d hd => by
  obtain ⟨a, _, rfl⟩ := List.mem_map.mp hd
  refine noLAll_iff.mpr fun d hd => ?_
  rcases List.mem_cons.mp hd with rfl | hd
  · rfl
  · rw [List.mem_singleton.mp hd]
    refine noLAll_iff.mpr fun d hd => ?_
    obtain ⟨m, _, rfl⟩ := List.mem_map.mp hd
    cases m <;> rfl
theorem rest_noL (rs : List Nat) : noL (restD rs) = true := noLAll_iff.mpr fun d hd => by
  obtain ⟨m, _, rfl⟩ := List.mem_map.mp hd
  cases m <;> rfl
/-- the values that are asked for stand -/
structure Ask (H : Hp) (w l ps : Addr) (C m : Nat) : Prop where
  well : Well H w l C
  out : ps ∉ [w, l]
  at_ : ∃ (xs : List V) (ds : List PyData), H ps = some (.lst xs) ∧ DvAll [ps, w, l] H xs ds ∧ (∀ d ∈ ds, sml d = true) ∧ ds.length ≤ m
theorem Ask.kp {H H' : Hp} {w l ps : Addr} {C C' m : Nat} (h : Ask H w l ps C m) (k : Kp [w, l] H H') (hw : Well H' w l C') : Ask H' w l ps C' m := by
  obtain ⟨xs, ds, h1, h2, h3, h4⟩ := h.at_
  exact ⟨hw, h.out, xs, ds, k _ _ h.out h1, h2.kp (k.sub fun a m => List.mem_cons_of_mem _ m), h3, h4⟩
theorem Ask.same {H H' : Hp} {w l ps : Addr} {C m : Nat} (h : Ask H w l ps C m) (k : Same H H') : Ask H' w l ps C m := h.kp (Kp.of k) (h.well.same k)
theorem Ask.mono {H : Hp} {w l ps : Addr} {C C' m m' : Nat} (h : Ask H w l ps C m) (e : C ≤ C') (e' : m ≤ m') : Ask H w l ps C' m' := by
  obtain ⟨xs, ds, h1, h2, h3, h4⟩ := h.at_
  exact ⟨h.well.mono e, h.out, xs, ds, h1, h2, h3, Nat.le_trans h4 e'⟩
theorem Ask.ne {H : Hp} {w l ps p : Addr} {C m : Nat} (h : Ask H w l ps C m) (n : H p = none) : p ∉ [ps, w, l] := fun hm => by
  rcases List.mem_cons.mp hm with hm | hm
  · obtain ⟨xs, ds, h1, _⟩ := h.at_
    rw [hm, h1] at n
    cases n
  · exact h.well.ne n hm
theorem Ask.push {H : Hp} {w l ps : Addr} {C m : Nat} (h : Ask H w l ps C m) {z : PySem.Str} (hz : z.length ≤ 640) : ∃ xs : List V, H ps = some (.lst xs) ∧ xs.length ≤ m ∧ Ask (upd H ps (.lst (xs ++ [.str z]))) w l ps C (m + 1) := by
  obtain ⟨xs, ds, h1, h2, h3, h4⟩ := h.at_
  have hxl := h2.length
  refine ⟨xs, h1, by omega, h.well.new h.out, h.out, xs ++ [.str z], ds ++ [.str z], upd_same, ?_, ?_, ?_⟩
  · exact (h2.append (.cons (.str z) .nil)).kp ((Kp.refl _ _).wr (.inl List.mem_cons_self))
  · intro d hd
    rcases List.mem_append.mp hd with hd | hd
    · exact h3 d hd
    · rw [List.mem_singleton.mp hd]
      exact decide_eq_true hz
  · rw [List.length_append]
    exact Nat.succ_le_succ h4
theorem slA_to {K : PySem.W.Frag} {H : Hp} {Q : VK} {a : Addr} {xs : List V} {n : Int} {k : Nat} (hn : n = (k : Int)) (ha : H a = some (.tup xs)) (q : ∀ H' p, Same H H' → H' p = some (.tup (xs.take k)) → Q (.ref p) H') : rSlA K (.ref a) none (some n) H Q := by
  subst hn
  refine ⟨a, xs, rfl, SqT.of ha, fun hw => q H a (Same.refl _) ?_, fun hw p hp => q _ p (same_new hp) ?_⟩
  · have h2 := hw.2
    rw [HT.sIx_nat] at h2
    rw [List.take_of_length_le (by omega)]
    exact ha
  · rw [upd_same, cut_to]
/-- a store's lines -/
theorem lines_ln {n : Nat} {acts : List Act} {rs : List Nat} (A : Acts n acts) (n1 : 1 ≤ n) (low : Low n (rs.map some)) (rl : rs.length ≤ 3) (k : Nat) (hk : acts.length ≤ k) : Ln 21 (21 + k * 22) (linesOf n acts rs) := by
  have n3 := A.sz
  have sl : ∀ {ms : List (Option Nat)}, Low n ms → ms.length ≤ 3 → (shown ms).length ≤ 5 := fun {ms} h hl => by
    unfold shown
    split
    · show 1 ≤ 5
      decide
    · rename_i ne
      unfold movesS
      have h1 := join_wt 44 (l := ms.map mvS) (fun z => ne (List.map_eq_nil_iff.mp z))
      rw [← comma] at h1
      have h2 : wt (ms.map mvS) = ms.length + ms.length := by
        unfold wt
        have h5 : ((ms.map mvS).map PySem.Str.length).sum = ms.length := ones (h.up (by omega : n ≤ 10))
        rw [h5, List.length_map]
      omega
  have nl := numS_len (k := n) (by omega)
  have l1 : ("size " ++ numS n : PySem.Str).length = 6 := by
    rw [app_len, nl]
    rfl
  have l2 : ("resting " ++ shown (rs.map some) : PySem.Str).length ≤ 13 := by
    rw [app_len]
    have := sl low (by rw [List.length_map]; exact rl)
    show 8 + _ ≤ 13
    omega
  have l3 : ∀ a ∈ acts, (actL a).length ≤ 21 := fun a ha => by
    unfold actL
    rw [app_len, app_len, app_len]
    have := sl (A.mv a ha) (by rw [A.ln a ha]; omega)
    have := (isName_ok (A.nm a ha)).2.2
    show 7 + a.1.length + 1 + _ ≤ 21
    omega
  refine ⟨List.cons_ne_nil _ _, fun x hx => ?_, ?_⟩
  · unfold linesOf at hx
    rcases List.mem_cons.mp hx with rfl | hx
    · omega
    rcases List.mem_cons.mp hx with rfl | hx
    · omega
    obtain ⟨a, ha, rfl⟩ := List.mem_map.mp hx
    exact l3 a ha
  · unfold linesOf
    rw [wt_cons, wt_cons, l1]
    have : wt (acts.map actL) ≤ acts.length * 22 := by
      unfold wt
      rw [List.map_map, List.length_map]
      have := sum_le (f := PySem.Str.length ∘ actL) (k := 21) (l := acts) l3
      omega
    have := Nat.mul_le_mul_right 22 hk
    omega
theorem acts_take {n : Nat} {acts : List Act} (A : Acts n acts) (k : Nat) : Acts n (acts.take k) :=
  ⟨fun a h => A.nm a (List.mem_of_mem_take h), fun a h => A.ln a (List.mem_of_mem_take h), fun a h => A.mv a (List.mem_of_mem_take h), by rw [List.map_take]; exact A.nd.sublist (List.take_sublist _ _), by rw [List.length_take]; exact Nat.le_trans (Nat.min_le_right _ _) A.few, A.sz⟩
def Mx (r : Nat) : Nat := 21 * 3 ^ r
def Tx : Nat → Nat
  | 0 => 87
  | 1 => 129
  | 2 => 255
  | _ => 633
section
variable {P : Program} {w : World} {K : PySem.W.Frag} {mg : PySem.Str → Option Value} {base : Heap}
theorem kbr (T : Txt K mg) : KBn K T.d_Store_read P_Store_read 1 ["text"] (fun us ws => us ++ ws.reverse) (fun vs zs => vs ++ zs.reverse) :=
  Sk.kb1 T.F_Store_read (fun _ _ _ _ _ _ us ws h1 h2 => match us, h1, ws, h2 with
    | [_], _, [_], _ => rfl) fun r rz => r.append rz.reverse
theorem ok_law (T : Txt K mg) : FnG P w K mg base 20 T.a_law T.d_law P_law (sp_law K) := by
  refine okG T.F_law sc_law (fun vs H Q E h => by obtain ⟨a, ns, rfl, _⟩ := h; rfl) (fun cdv A outer s H vs Q hgd hr h => ?_)
  refine ⟨_, (pss_cons (ps_set (i := 1) sc_law.nd rfl (Or.inl rfl) (pe_call (ok_well T) (hr.mono (by omega)) (by rfl) T.g_well T.F_well.kp T.b_well .nil pass0 (pa_cons (pv 0) pa_nil)))
    (pss_cons (ps_set (i := 2) sc_law.nd rfl (Or.inl rfl) (pe_lst (pa_cons pe_non (pa_cons pe_bl (pa_cons pe_int (pa_cons (pe_lst pa_nil) (pa_cons (pe_lst (pa_cons pe_str (pa_cons pe_str pa_nil))) (pa_cons pe_str (pa_cons pe_str (pa_cons pe_str (pa_cons pe_str (pa_cons pe_str (pa_cons pe_str pa_nil)))))))))))))
    (pss_cons (ps_for PassesOwn.never rfl (pi_range1 (by rfl) T.n_range (pa_cons pe_int pa_nil)) (pg_name (i := 3) sc_law.nd rfl (Or.inl rfl)) (pss_cons (ps_asg (pe_call (ok_store T) (hr.mono (by omega)) (by rfl) T.g_store T.F_store.kp T.b_store .nil pass0 (pa_cons (pv 1) pa_nil)) (pg_lst (by rfl) (pgs_cons (pg_name (i := 4) sc_law.nd rfl (Or.inl rfl)) (pgs_cons (pg_name (i := 5) sc_law.nd rfl (Or.inl rfl)) (pgs_cons (pg_name (i := 6) sc_law.nd rfl (Or.inl rfl)) pgs_nil)))))
    (pss_cons (ps_par (i := 7) (j := 8) (by rfl) sc_law.nd rfl rfl (by decide) rfl rfl (pa_cons (pe_call (ok_lines T) (hr.mono (by omega)) (by rfl) T.g_lines T.F_lines.kp T.b_lines .nil pass0 (pa_cons (pv 4) (pa_cons (pv 5) (pa_cons (pv 6) pa_nil)))) (pa_cons (ClX.pe_cmeth (pe_glob (v := .ref T.C_Store) rfl T.g_Store rfl) T.rd_Store T.me_Store_of ((Xk.calm (ok_Store_of T)).raw T.b_Store_of .nil) (hr.mono (by decide)) pass0 (pa_cons (pv 4) (pa_cons (Zw.pe_revT (pv 5)) (pa_cons (pv 6) pa_nil)))) pa_nil)) (by rfl))
    (pss_cons (ps_set (i := 9) sc_law.nd rfl (Or.inl rfl) (pe_join pe_str (pv 7)))
    (pss_cons (ps_if (PW.pt (pw_or (pt_cmpR op_ne (pe_callB (cr_repr hgd hr) (by rfl) T.n_repr (by decide +kernel) (pa_cons (pe_lst (pa_cons (pe_prop (pv 8) T.cl_Store T.me_Store_text (ok_Store_text T) (hr.mono (by decide)) T.b_Store_text .nil pass0 rfl) (pa_cons (pe_prop (pv 8) T.cl_Store T.me_Store_text (ok_Store_text T) (hr.mono (by decide)) T.b_Store_text .nil pass0 rfl) pa_nil))) pa_nil)) (pe_callB (cr_repr hgd hr) (by rfl) T.n_repr (by decide +kernel) (pa_cons (pe_lst (pa_cons (pv 9) (pa_cons (pv 9) pa_nil))) pa_nil)) (nomark _)) (pw_or1 (pt_not (pt_cmpR (Xo.op_eqO (ok_Store_eq T) (hr.mono (by decide)) T.b_Store_eq T.eq_Store T.eqf_Store) (Xk.pe_cmethKw (pe_glob (v := .ref T.C_Store) rfl T.g_Store rfl) T.rd_Store T.me_Store_read (Xk.calm (ok_Store_read T)) (hr.mono (by decide)) (kbr T) pass0 (pk_cons (pv 9) pk_nil)) (pv 8) (nomark _)))))) (pss_one (ps_ret pe_bl)) pss_nil)
    (pss_cons (ps_expr (pe_bm PySem.F.plainAttrs_list PySem.F.slot_list_append PySem.F.type_list_append mt_append (pv 2) (pa_cons (pv 9) pa_nil)))
    (pss_one (ps_for PassesOwn.never rfl (pi_range1 (by rfl) T.n_range (pa_cons pe_int pa_nil)) (pg_name (i := 10) sc_law.nd rfl (Or.inl rfl)) (pss_cons (ps_set (i := 7) sc_law.nd rfl (Or.inl rfl) (pe_call (ok_bent T) (hr.mono (by omega)) (by rfl) T.g_bent T.F_bent.kp T.b_bent .nil pass0 (pa_cons (pv 1) (pa_cons (pe_ifExp (pt_cmpR op_gt (pe_op op_mod (pe_callTy call_int1 (by rfl) T.n_int (by decide +kernel) (pa_cons (pv 10) pa_nil)) pe_int) pe_int (nomark _)) (pv 7) (pe_call (ok_lines T) (hr.mono (by omega)) (by rfl) T.g_lines T.F_lines.kp T.b_lines .nil pass0 (pa_cons (pv 4) (pa_cons (pe_slice sl_tupA (pv 5) po_none (po_some pe_int)) (pa_cons (pv 6) pa_nil))))) pa_nil))))
    (pss_one (ps_expr (pe_bm PySem.F.plainAttrs_list PySem.F.slot_list_append PySem.F.type_list_append mt_append (pv 2) (pa_cons (pe_join pe_str (pv 7)) pa_nil)))))))))))))
    (pss_cons (ps_for PassesOwn.never rfl (pi_list (pv 2)) (pg_name (i := 9) sc_law.nd rfl (Or.inl rfl)) (pss_cons (ps_set (i := 11) sc_law.nd rfl (Or.inl rfl) (pe_callB (cr_repr hgd hr) (by rfl) T.n_repr (by decide +kernel) (pa_cons (pe_call (ok_read T) (hr.mono (by omega)) (by rfl) T.g_read T.F_read.kp T.b_read .nil pass0 (pa_cons (pv 9) pa_nil)) pa_nil)))
    (pss_one (ps_if (pt_cmpR (Xl.op_neS (Nat.lt_of_le_of_lt (Nat.le_add_right _ 64) hr.units)) (pe_lst (pa_cons (pe_callG (ok_told T) hgd (hr.mono (by omega)) (by rfl) T.g_told T.F_told.kp T.b_told .nil (pa_cons (pv 9) pa_nil)) (pa_cons (pe_callG (ok_told T) hgd (hr.mono (by omega)) (by rfl) T.g_told T.F_told.kp T.b_told .nil (pa_cons (pv 9) pa_nil)) pa_nil))) (pe_lst (pa_cons (pv 11) (pa_cons (pv 11) pa_nil))) (nomark _)) (pss_one (ps_ret pe_bl)) pss_nil))))
    (pss_one (ps_ret pe_bl)))))), ?_⟩
  obtain ⟨a, ns, rfl, hS, hl, q⟩ := h
  refine ⟨_, rfl, a, ns, rfl, hS, hl, fun H1 w l s1 hw0 hl0 hW => ?_⟩
  refine ⟨by show 0 ≤ sizeLine; decide, fun p3 hp3 => ⟨by show 2 ≤ sizeLine; decide, fun p4 hp4 => ⟨by show 11 ≤ sizeLine; decide, fun ps hps => ?_⟩⟩⟩
  have ask0 : Ask (upd (upd (upd H1 p3 (.lst [])) p4 (.lst [.str "size 1", .str "resting -"])) ps (.lst [.non, .bl true, .int 0, .ref p3, .ref p4, .str "", .str "\n", .str "size 1", .str "size 1\n", .str "size 1\nresting -", .str " "])) w l ps 0 11 := by
    have n3 := hW.ne hp3
    have k3 : Same H1 (upd H1 p3 (.lst [])) := same_new hp3
    have n4 := (hW.same k3).ne hp4
    have k4 : Same (upd H1 p3 (.lst [])) (upd (upd H1 p3 (.lst [])) p4 (.lst [.str "size 1", .str "resting -"])) := same_new hp4
    have ns := ((hW.same k3).same k4).ne hps
    have h3 : (upd (upd H1 p3 (.lst [])) p4 (.lst [.str "size 1", .str "resting -"])) p3 = some (.lst []) := k4 _ _ upd_same
    have h4 : (upd (upd H1 p3 (.lst [])) p4 (.lst [.str "size 1", .str "resting -"])) p4 = some (.lst [.str "size 1", .str "resting -"]) := upd_same
    refine ⟨((hW.same k3).same k4).same (same_new hps), ns, _, [.none, .bool true, .int 0, .list [], .list [.str "size 1", .str "resting -"], .str "", .str "\n", .str "size 1", .str "size 1\n", .str "size 1\nresting -", .str " "], upd_same, ?_, ?_, Nat.le_refl _⟩
    · have e3 : p3 ∉ [ps, w, l] := fun hm => by
        rcases List.mem_cons.mp hm with hm | hm
        · rw [← hm, h3] at hps
          cases hps
        · exact n3 hm
      have e4 : p4 ∉ [ps, w, l] := fun hm => by
        rcases List.mem_cons.mp hm with hm | hm
        · rw [← hm, h4] at hps
          cases hps
        · exact n4 hm
      exact .cons .non (.cons (.bl _) (.cons (.int _) (.cons (.lst (same_new hps _ _ h3) e3 .nil) (.cons (.lst (same_new hps _ _ h4) e4 (.cons (.str _) (.cons (.str _) .nil))) (.cons (.str _) (.cons (.str _) (.cons (.str _) (.cons (.str _) (.cons (.str _) (.cons (.str _) .nil))))))))))
    · intro d hd
      simp only [List.mem_cons, List.not_mem_nil, or_false] at hd
      rcases hd with rfl | rfl | rfl | rfl | rfl | rfl | rfl | rfl | rfl | rfl | rfl <;> first | rfl | decide +kernel
  show (gName 2) (V.ref ps) _ (upd (upd (upd H1 p3 (.lst [])) p4 (.lst [.str "size 1", .str "resting -"])) ps (.lst [.non, .bl true, .int 0, .ref p3, .ref p4, .str "", .str "\n", .str "size 1", .str "size 1\n", .str "size 1\nresting -", .str " "])) _
  generalize upd (upd (upd H1 p3 (.lst [])) p4 (.lst [.str "size 1", .str "resting -"])) ps (.lst [.non, .bl true, .int 0, .ref p3, .ref p4, .str "", .str "\n", .str "size 1", .str "size 1\n", .str "size 1\nresting -", .str " "]) = H2 at ask0 ⊢
  refine ⟨4, rfl, by decide, by decide, for_range (lo := 0) (n := 4) (fun i σ H' => ∃ (y3 y4 y5 y6 y7 y8 y9 y10 y11 : Option V), σ = [some (.ref a), some (.ref w), some (.ref ps), y3, y4, y5, y6, y7, y8, y9, y10, y11] ∧ Ask H' w l ps (400 * i) (11 + 10 * i)) ⟨_, _, _, _, _, _, _, _, _, rfl, ask0⟩ ?_ ?_⟩
  · rintro i σ H3 hi ⟨y3, y4, y5, y6, y7, y8, y9, y10, y11, rfl, ask3⟩
    refine ⟨_, rfl, w, l, 400 * i, rfl, ask3.well, (by show _ < 1000000000; omega), fun H4 p A B n acts rs k4 hW4 np hp dA dB AA asc a6 n1 hst ok rl => ?_⟩
    refine ⟨p, _, rfl, SqL.of hp, rfl, _, _, rfl, _, _, rfl, _, _, rfl, rfl, ?_⟩
    have ask4 := ask3.kp k4 hW4
    obtain ⟨A', xsA, dsA, eA, edA, hA, nA, hxA⟩ := dA.tuple rfl
    injection eA with eA
    subst eA
    injection edA with edA
    subst edA
    obtain ⟨B', xsB, dsB, eB, edB, hB, nB, hxB⟩ := dB.tuple rfl
    injection eB with eB
    subst eB
    have edB' : (rs.map some).map mvD = dsB := by injection edB
    subst edB'
    have exB := dvs_at hxB
    subst exB
    have low := rest_low hst
    refine ⟨_, rfl, _, rfl, _, rfl, [w, l], n, A, B, xsA, acts, rs, rfl, SqT.of hA, hxA, SqT.of hB, AA, n1, low, rl, fun H5 pl k5 hpl0 hpl => ?_⟩
    refine ⟨rfl, _, rfl, _, rfl, A, xsA, rfl, SqT.of (k5 _ _ hA), fun pr hpr => ⟨_, rfl, ?_⟩⟩
    have k6 : Same H5 (upd H5 pr (.tup xsA.reverse)) := same_new hpr
    have hpr6 : (upd H5 pr (.tup xsA.reverse)) pr = some (.tup xsA.reverse) := upd_same
    generalize upd H5 pr (.tup xsA.reverse) = H6 at k6 hpr6 ⊢
    have k46 := k5.trans k6
    have nr : pr ∉ [w, l] := (hW4.same k5).ne hpr
    dsimp only [tNil]
    refine of_made (S := [w, l]) (acts := acts.reverse) (acts0 := acts) (AA.perm (List.reverse_perm _)) n1 (.tup hpr6 nr (by rw [List.map_reverse]; exact dvs_rev (hxA.kp (Kp.of k46)))) (dB.kp (Kp.of k46)) hst ok asc (List.reverse_perm _).symm fun H7 st k7 hst0 sto => ?_
    refine ⟨_, _, rfl, ?_⟩
    have k47 := k46.trans k7
    have ask7 := ask4.same k47
    have hpl7 := k7 _ _ (k6 _ _ hpl)
    have L0 := lines_ln AA n1 low rl 6 a6
    have ne0 : linesOf n acts rs ≠ [] := L0.ne
    have tl0 : (textOf n acts rs).length ≤ 640 := by
      have h1 := join_le 10 (linesOf n acts rs)
      rw [← feed] at h1
      have h2 := L0.wt
      have h3 : (textOf n acts rs).length ≤ wt (linesOf n acts rs) := h1
      omega
    refine ⟨⟨_, rfl⟩, _, rfl, _, pl, linesOf n acts rs, rfl, rfl, .inl (SqL.of hpl7), ?_, ?_⟩
    · show ((linesOf n acts rs).map (fun x : PySem.Str => x.length)).sum + (linesOf n acts rs).length * 1 ≤ 16777216
      rw [wt_sum]
      have := L0.wt
      omega
    show (gName 9) (V.str (textOf n acts rs)) _ H7 _
    obtain ⟨S0, r0, sa0, hr0⟩ := sto.ex
    obtain ⟨dx, aX, oX, psX, dMX, lWX, kvsX, dsX, hst7, _⟩ := sa0.ex
    have okd2 : okd (.list [.str (textOf n acts rs), .str (textOf n acts rs)]) = true := by
      have h := text_ok (rs := rs) AA
      show (okd (.str (textOf n acts rs)) && (okd (.str (textOf n acts rs)) && true)) = true
      have h' : okd (.str (textOf n acts rs)) = true := h
      rw [h']
      rfl
    have bk2 : (PyData.list [.str (textOf n acts rs), .str (textOf n acts rs)]).bulk ≤ 300000 := by
      have h : (textOf n acts rs).cps.size ≤ 640 := tl0
      show (textOf n acts rs).cps.size + 1 + ((textOf n acts rs).cps.size + 1 + 0) ≤ 300000
      omega
    have dp2 : (PyData.list [.str (textOf n acts rs), .str (textOf n acts rs)]).depth ≤ 60 := by
      show max 0 (max 0 0) + 1 ≤ 60
      decide
    refine ⟨_, rfl, st, dx, _, rfl, hst7, st, n, acts, rs, rfl, sto, by omega, fun H8 k8 => ?_⟩
    refine ⟨_, rfl, st, dx, _, rfl, k8 _ _ hst7, st, n, acts, rs, rfl, sto.same k8, by omega, fun H9 k9 => ⟨by show 2 ≤ sizeLine; decide, fun p9 hp9 => ?_⟩⟩
    have k10 : Same H9 (upd H9 p9 (.lst [.str (textOf n acts rs), .str (textOf n acts rs)])) := same_new hp9
    have h10 : (upd H9 p9 (.lst [.str (textOf n acts rs), .str (textOf n acts rs)])) p9 = some (.lst [.str (textOf n acts rs), .str (textOf n acts rs)]) := upd_same
    generalize upd H9 p9 (.lst [.str (textOf n acts rs), .str (textOf n acts rs)]) = H10 at k10 h10 ⊢
    dsimp only [tNil]
    refine Zd.repr_of (d := .list [.str (textOf n acts rs), .str (textOf n acts rs)]) (.lst (SqL.of h10) (.cons (.str _) (.cons (.str _) .nil))) okd2 dp2 bk2 ?_
    refine ⟨_, rfl, _, rfl, by show 2 ≤ sizeLine; decide, fun p11 hp11 => ?_⟩
    have k11 : Same H10 (upd H10 p11 (.lst [.str (textOf n acts rs), .str (textOf n acts rs)])) := same_new hp11
    have h11 : (upd H10 p11 (.lst [.str (textOf n acts rs), .str (textOf n acts rs)])) p11 = some (.lst [.str (textOf n acts rs), .str (textOf n acts rs)]) := upd_same
    generalize upd H10 p11 (.lst [.str (textOf n acts rs), .str (textOf n acts rs)]) = H11 at k11 h11 ⊢
    dsimp only [tNil]
    refine Zd.repr_of (d := .list [.str (textOf n acts rs), .str (textOf n acts rs)]) (.lst (SqL.of h11) (.cons (.str _) (.cons (.str _) .nil))) okd2 dp2 bk2 ?_
    have k711 : Same H7 H11 := k8.trans (k9.trans (k10.trans k11))
    refine ⟨rfl, _, rfl, ?_⟩
    have e0 : (!decide (V.str (PyData.list [PyData.str (textOf n acts rs), PyData.str (textOf n acts rs)]).shown = V.str (PyData.list [PyData.str (textOf n acts rs), PyData.str (textOf n acts rs)]).shown)) = false := by simp
    rw [e0]
    refine iteF ?_
    have rb := text_back AA asc n1 hst
    refine ⟨rfl, _, rfl, rfl, [], .str (textOf n acts rs), .str (textOf n acts rs), rfl, .str _, decide_eq_true tl0, ?_⟩
    rw [rb]
    intro H12 st2 k12 sto2
    obtain ⟨S2, r2, sa2, hr2⟩ := sto2.ex
    obtain ⟨dx2, aX2, oX2, psX2, dMX2, lWX2, kvsX2, dsX2, hst12, _⟩ := sa2.ex
    have k712 := k711.trans k12
    have sto12 := sto.same k712
    refine ⟨_, rfl, st2, dx2, _, .ref T.C_Store, rfl, hst12, sto12.ty, Xo.not_first_me K T.C_Store, st2, .ref st, n, acts, restD rs, rfl, sto2, .inr ⟨st, n, acts, restD rs, rfl, sto12, fun H13 b k13 hb => ?_⟩⟩
    obtain rfl : b = true := hb.mpr ⟨rfl, rfl, rfl⟩
    refine ⟨_, rfl, _, rfl, iteF ?_⟩
    unfold tNext; dsimp only
    have k413 : Same H4 H13 := k47.trans (k712.trans k13)
    have ask13 := ask4.same k413
    obtain ⟨xs0, hps13, xl0, ask14⟩ := ask13.push tl0
    have dA13 : Dv [ps, w, l] H13 (.ref A) (.tuple (acts.map actD)) := dv_noL hps13 (dA.kp (Kp.of k413)) (acts_noL acts)
    have dB13 : Dv [ps, w, l] H13 (.ref B) (restD rs) := dv_noL hps13 (dB.kp (Kp.of k413)) (rest_noL rs)
    refine ⟨_, rfl, .inl ⟨rfl, _, SqL.of hps13⟩, _, rfl, ps, xs0, _, rfl, rfl, hps13, by rw [sizeLine_eq]; omega, ?_⟩
    have kS : Kp [ps, w, l] H13 (upd H13 ps (.lst (xs0 ++ [.str (textOf n acts rs)]))) := (Kp.refl _ _).wr (.inl List.mem_cons_self)
    have dA14 := dA13.kp kS
    have dB14 := dB13.kp kS
    generalize upd H13 ps (.lst (xs0 ++ [.str (textOf n acts rs)])) = H14 at ask14 dA14 dB14 kS ⊢
    refine ⟨9, rfl, by decide, by decide, for_range (lo := 0) (n := 9) (fun j σ H' => ∃ (y3 y7 y8 y9 y10 y11 : Option V), σ = [some (.ref a), some (.ref w), some (.ref ps), y3, some (.int (n : Nat)), some (.ref A), some (.ref B), y7, y8, y9, y10, y11] ∧ Ask H' w l ps (400 * i + 120 + 20 * j) (12 + 10 * i + j) ∧ Dv [ps, w, l] H' (.ref A) (.tuple (acts.map actD)) ∧ Dv [ps, w, l] H' (.ref B) (restD rs) ∧ (j % 3 ≠ 0 → ∃ (p : Addr) (ls : List PySem.Str), y7 = some (.ref p) ∧ p ∉ [ps, w, l] ∧ H' p = some (.lst (ls.map V.str)) ∧ Ln (Mx (j % 3)) (Tx (j % 3)) ls)) ⟨_, _, _, _, _, _, rfl, ask14.mono (by omega) (by omega), dA14, dB14, fun z => absurd rfl z⟩ ?_ ?_⟩
    · rintro j σ H15 hj ⟨z3, z7, z8, z9, z10, z11, rfl, ask15, dA15, dB15, st15⟩
      dsimp only [gName]
      refine asg_via (fun v H' => ∃ (p' : Addr) (ls' : List PySem.Str), v = .ref p' ∧ Kp [w, l] H15 H' ∧ Well H' w l (400 * i + 120 + 20 * j + 20) ∧ p' ∉ [ps, w, l] ∧ H' p' = some (.lst (ls'.map V.str)) ∧ Ln (Mx (j % 3 + 1)) (Tx (j % 3 + 1)) ls') (fun R hR => ?_) ?_
      · have fin : ∀ (H16 : Hp) (pl' : Addr) (ls : List PySem.Str), Kp [w, l] H15 H16 → Ask H16 w l ps (400 * i + 120 + 20 * j) (12 + 10 * i + j) → pl' ∉ [w, l] → H16 pl' = some (.lst (ls.map V.str)) → Ln (Mx (j % 3)) (Tx (j % 3)) ls → sp_bent [.ref w, .ref pl'] H16 R E0 := fun H16 pl' ls k16 ask16 np' hpl' L => by
          have r3 : j % 3 < 3 := Nat.mod_lt _ (by decide)
          have eM : Mx (j % 3 + 1) = 3 * Mx (j % 3) ∧ Tx (j % 3 + 1) = Tx (j % 3) + 2 * Mx (j % 3) ∧ 15 ≤ Mx (j % 3) ∧ Mx (j % 3) ≤ 1000 ∧ Tx (j % 3) ≤ 2000 := by
            generalize j % 3 = r at r3
            match r, r3 with
            | 0, _ => decide
            | 1, _ => decide
            | 2, _ => decide
          refine ⟨w, l, pl', _, _, _, ls, rfl, ask16.well, (by show _ < 1000000000; omega), np', hpl', L, eM.2.2.1, eM.2.2.2.1, eM.2.2.2.2, fun H17 p' ls' k17 hW17 hp0 np2 hp17 L' => hR _ _ ⟨p', ls', rfl, k16.trans k17, hW17, fun hm => ?_, hp17, by rw [eM.1, eM.2.1]; exact L'⟩⟩
          rcases List.mem_cons.mp hm with hm | hm
          · obtain ⟨_, _, h1, _⟩ := ask16.at_
            rw [← hm, hp0] at h1
            cases h1
          · exact np2 hm
        refine ⟨_, rfl, _, rfl, .inl ⟨_, rfl, _, _, rfl, rfl, (show (0 : Int) < 3 by decide), _, _, rfl, rfl, _, rfl, ?_⟩⟩
        by_cases hr0 : j % 3 = 0
        · rw [decide_eq_false (by omega)]
          obtain ⟨A2, xs15, ds15, eA2, edA2, hA15, nA15, hxA15⟩ := dA15.tuple rfl
          injection eA2 with eA2
          subst eA2
          injection edA2 with edA2
          subst edA2
          obtain ⟨B2, ys15, es15, eB2, edB2, hB15, nB15, hxB15⟩ := dB15.tuple rfl
          injection eB2 with eB2
          subst eB2
          have edB2' : (rs.map some).map mvD = es15 := by injection edB2
          subst edB2'
          have exB2 := dvs_at hxB15
          subst exB2
          refine ⟨_, rfl, _, rfl, ((3 : Nat) : Int), rfl, ?_⟩
          dsimp only
          refine slA_to (k := 3) rfl hA15 fun H16 pa k16 hpa => ?_
          refine ⟨_, rfl, ?_⟩
          dsimp only [tNil]
          have A3 := acts_take AA 3
          have hx3 : DvAll [ps, w, l] H16 (xs15.take 3) ((acts.take 3).map actD) := by
            rw [List.map_take]
            exact (hxA15.kp (Kp.of k16)).take 3
          refine ⟨[ps, w, l], n, pa, B, xs15.take 3, acts.take 3, rs, rfl, SqT.of hpa, hx3, SqT.of (k16 _ _ hB15), A3, n1, low, rl, fun H17 pl2 k17 hpl20 hpl2 => ?_⟩
          dsimp only
          have k1517 := k16.trans k17
          have ask17 := ask15.same k1517
          have L3 := lines_ln A3 n1 low rl 3 (by rw [List.length_take]; omega)
          refine fin H17 pl2 _ (Kp.of k1517) ask17 ?_ hpl2 ?_
          · exact fun hm => ask15.well.ne (k16.free hpl20) hm
          · rw [hr0]
            exact L3
        · rw [decide_eq_true (by omega)]
          obtain ⟨p', ls, rfl, np', hp', L⟩ := st15 hr0
          refine ⟨_, rfl, ?_⟩
          dsimp only [tNil]
          exact fin H15 p' ls (Kp.refl _ _) ask15 (fun hm => np' (List.mem_cons_of_mem _ hm)) hp' L
      · rintro v H16 ⟨p', ls', rfl, k16, hW16, np', hp', L'⟩
        have r3 : j % 3 < 3 := Nat.mod_lt _ (by decide)
        have tx : Tx (j % 3 + 1) ≤ 633 := by
          generalize j % 3 = r at r3
          match r, r3 with
          | 0, _ => decide
          | 1, _ => decide
          | 2, _ => decide
        have lt' := L'.wt
        have ask16 : Ask H16 w l ps (400 * i + 120 + 20 * (j + 1)) (12 + 10 * i + j) := ask15.kp k16 (hW16.mono (by omega))
        have tl' : (Txt.join "\n" ls').length ≤ 640 := by
          have h1 := join_le 10 ls'
          rw [← feed] at h1
          omega
        obtain ⟨xs16, hps16, xl16, ask17⟩ := ask16.push tl'
        refine ⟨_, rfl, .inl ⟨rfl, _, SqL.of hps16⟩, ⟨_, rfl⟩, _, rfl, _, p', ls', rfl, rfl, .inl (SqL.of hp'), ?_, ps, xs16, _, rfl, rfl, hps16, by rw [sizeLine_eq]; omega, _, _, _, _, _, _, rfl, ask17.mono (Nat.le_refl _) (by omega), ?_, ?_, fun hne => ?_⟩
        · show (ls'.map (fun x : PySem.Str => x.length)).sum + ls'.length * 1 ≤ 16777216
          rw [wt_sum]
          omega
        · exact (dA15.kp (k16.sub fun a m => List.mem_cons_of_mem _ m)).kp ((Kp.refl _ _).wr (.inl List.mem_cons_self))
        · exact (dB15.kp (k16.sub fun a m => List.mem_cons_of_mem _ m)).kp ((Kp.refl _ _).wr (.inl List.mem_cons_self))
        · have er : (j + 1) % 3 = j % 3 + 1 := by omega
          rw [er]
          exact ⟨p', ls', rfl, np', by rw [upd_ne (fun z => np' (by rw [z]; exact List.mem_cons_self))]; exact hp', L'⟩
    · rintro σ H15 ⟨z3, z7, z8, z9, z10, z11, rfl, ask15, dA15, dB15, st15⟩
      exact ⟨_, _, _, _, _, _, _, _, _, rfl, ask15.mono (by omega) (by omega)⟩
  · rintro σ H3 ⟨y3, y4, y5, y6, y7, y8, y9, y10, y11, rfl, ask3⟩
    obtain ⟨xs, ds, hps3, hx3, sm3, _⟩ := ask3.at_
    refine ⟨_, rfl, ps, rfl, ⟨_, SqL.of hps3⟩, for_list (K := K) (a := ps) (xs := xs) (fun i σ H' => ∃ (y9 y11 : Option V), σ = [some (.ref a), some (.ref w), some (.ref ps), y3, y4, y5, y6, y7, y8, y9, y10, y11] ∧ Same H3 H') ⟨_, _, rfl, Same.refl _⟩ (fun i σ H' _ ⟨_, _, _, k⟩ => SqL.of (k _ _ hps3)) ?_ ?_⟩
    · rintro i x σ H4 hi ⟨z9, z11, rfl, k4⟩
      obtain ⟨d, hdi, hdx⟩ := hx3.get hi
      have sd := sm3 d (List.mem_of_getElem? hdi)
      have ft := readD_fit sd
      have hd4 := hdx.kp (Kp.of k4)
      refine ⟨_, rfl, [ps, w, l], [], x, d, rfl, hd4, sd, (fun _ h => nomatch h), fun H5 v' k5 dv => ?_⟩
      obtain ⟨pz, rfl⟩ : ∃ pz, v' = .ref pz := by
        revert dv
        cases readD d with
        | inl k => intro dv; cases dv with | tup h1 h2 h3 => exact ⟨_, rfl⟩
        | inr u =>
          obtain ⟨n, acts, rd⟩ := u
          intro dv
          cases dv with
          | tup h1 h2 h3 => exact ⟨_, rfl⟩
      dsimp only [tNil]
      refine Zd.repr_of (d := readP (readD d)) (dp_dv dv ft.pl) ft.ok ft.dp ft.bk ?_
      refine ⟨_, rfl, [ps, w, l], x, d, rfl, hd4.kp (Kp.of k5), sd, fun H6 k6 => ?_⟩
      refine ⟨_, rfl, [ps, w, l], x, d, rfl, hd4.kp (Kp.of (k5.trans k6)), sd, fun H7 k7 => ⟨by show 2 ≤ sizeLine; decide, fun p8 hp8 => ?_⟩⟩
      have k8 : Same H7 (upd H7 p8 (.lst [.str (readP (readD d)).shown, .str (readP (readD d)).shown])) := same_new hp8
      have h8 : (upd H7 p8 (.lst [.str (readP (readD d)).shown, .str (readP (readD d)).shown])) p8 = some (.lst ([(readP (readD d)).shown, (readP (readD d)).shown].map V.str)) := upd_same
      generalize upd H7 p8 (.lst [.str (readP (readD d)).shown, .str (readP (readD d)).shown]) = H8 at k8 h8 ⊢
      refine ⟨_, rfl, _, rfl, by show 2 ≤ sizeLine; decide, fun p9 hp9 => ?_⟩
      have k9 : Same H8 (upd H8 p9 (.lst [.str (readP (readD d)).shown, .str (readP (readD d)).shown])) := same_new hp9
      have h9 : (upd H8 p9 (.lst [.str (readP (readD d)).shown, .str (readP (readD d)).shown])) p9 = some (.lst ([(readP (readD d)).shown, (readP (readD d)).shown].map V.str)) := upd_same
      refine ⟨p8, p9, [(readP (readD d)).shown, (readP (readD d)).shown], [(readP (readD d)).shown, (readP (readD d)).shown], rfl, rfl, SqL.of (k9 _ _ h8), SqL.of h9, _, rfl, ?_⟩
      show (if (!decide ([(readP (readD d)).shown, (readP (readD d)).shown] = [(readP (readD d)).shown, (readP (readD d)).shown])) = true then _ else _)
      rw [decide_eq_true rfl]
      exact ⟨_, _, rfl, k4.trans (k5.trans (k6.trans (k7.trans (k8.trans k9))))⟩
    · rintro σ H4 ⟨z9, z11, rfl, k4⟩
      exact q H4
end
end K04
set_option Elab.async false
set_option linter.all false
set_option maxRecDepth 100000
set_option maxHeartbeats 4000000
/-! k04: the end. -/
namespace K04
open PySem PySem.Spec PyProof.Rows L2 Zg Zr Zd Zv
theorem all_mk {l : PySem.W.OpenLaw} {w : World} {K : PySem.W.Frag} {h : Heap} {mg : PySem.Str → Option Value} {fa f0 f1 f2 f3 f4 f5 f6 f7 f8 f9 f10 f11 f12 f13 f14 f15 f16 f17 f18 f19 f20 f21 f22 f23 f24 f25 f26 f27 f28 f29 f30 f31 f32 f33 f34 f35 f36 f37 f38 f39 f40 : Addr} (X : K.In h) (G : h.Ns mainGlobals mg) (hfa : mg "law" = some (.ref fa))
    {od0 an0 od1 an1 od2 an2 od3 an3 od4 an4 od5 an5 od6 an6 od7 an7 od8 an8 od9 an9 od10 an10 od11 an11 od12 an12 od13 an13 od14 an14 od15 an15 od16 an16 od17 an17 od18 an18 od19 an19 od20 an20 od21 an21 od22 an22 od23 an23 od24 an24 od25 an25 od26 an26 od27 an27 od28 an28 od29 an29 od30 an30 od31 an31 od32 an32 od33 an33 od34 an34 od35 an35 od36 an36 od37 an37 od38 an38 od39 an39 od40 an40 : Option Addr} {sl0 sl1 sl2 sl3 sl4 sl5 sl6 sl7 sl8 sl9 sl10 sl11 sl12 sl13 sl14 sl15 sl16 sl17 sl18 sl19 sl20 sl21 sl22 sl23 sl24 sl25 sl26 sl27 sl28 sl29 sl30 sl31 sl32 sl33 sl34 sl35 sl36 sl37 sl38 sl39 sl40 : Array (Option Value)} {oc0 dc0 pm0 cd0 ct0 kV0 oc1 dc1 pm1 cd1 ct1 kV1 oc2 dc2 pm2 cd2 ct2 kV2 oc3 dc3 pm3 cd3 ct3 kV3 oc4 dc4 pm4 cd4 ct4 kV4 oc5 dc5 pm5 cd5 ct5 kV5 oc6 dc6 pm6 cd6 ct6 kV6 oc7 dc7 pm7 cd7 ct7 kV7 oc8 dc8 pm8 cd8 ct8 kV8 oc9 dc9 pm9 cd9 ct9 kV9 oc10 dc10 pm10 cd10 ct10 kV10 oc11 dc11 pm11 cd11 ct11 kV11 oc12 dc12 pm12 cd12 ct12 kV12 oc13 dc13 pm13 cd13 ct13 kV13 oc14 dc14 pm14 cd14 ct14 kV14 oc15 dc15 pm15 cd15 ct15 kV15 oc16 dc16 pm16 cd16 ct16 kV16 oc17 dc17 pm17 cd17 ct17 kV17 oc18 dc18 pm18 cd18 ct18 kV18 oc19 dc19 pm19 cd19 ct19 kV19 oc20 dc20 pm20 cd20 ct20 oc21 dc21 pm21 cd21 ct21 kV21 oc22 dc22 pm22 cd22 ct22 kV22 oc23 dc23 pm23 cd23 ct23 kV23 oc24 dc24 pm24 cd24 ct24 kV24 oc25 dc25 pm25 cd25 ct25 kV25 oc26 dc26 pm26 cd26 ct26 kV26 oc27 dc27 pm27 cd27 ct27 kV27 oc28 dc28 pm28 cd28 ct28 kV28 oc29 dc29 pm29 cd29 ct29 kV29 oc30 dc30 pm30 cd30 ct30 kV30 oc31 dc31 pm31 cd31 ct31 kV31 oc32 dc32 pm32 cd32 ct32 kV32 oc33 dc33 pm33 cd33 ct33 kV33 oc34 dc34 pm34 cd34 ct34 kV34 oc35 dc35 pm35 cd35 ct35 kV35 oc36 dc36 pm36 cd36 ct36 kV36 oc37 dc37 pm37 cd37 ct37 kV37 oc38 dc38 pm38 cd38 ct38 kV38 oc39 dc39 pm39 cd39 ct39 kV39 oc40 dc40 pm40 cd40 ct40 kV40 : Value}
    {aCBadStore : Addr} (a0 : PySem.W.nsIn K mainGlobals "BadStore" = some (some (.ref aCBadStore))) (i0 : PySem.W.findIn K (.ref aCBadStore) "__init__" = some (some (.ref f0))) (t0 : PySem.W.typeIn K (.ref f0) = some (.type "function"))
    (l0 : K.lookup f0 = some ⟨oc0, od0, .func (PySem.W.fnOf "__init__" "BadStore.__init__" (defArgs s_BadStore_init) (defBody s_BadStore_init) (defScope s_BadStore_init) .none kV0 dc0 pm0 an0 cd0 ct0), sl0⟩) (c0 : PySem.W.codeIn K cd0 "BadStore.__init__" = true) (k0 : PySem.W.keepIn K (.ref f0) = true)
    {aCInvalidText : Addr} (a1 : PySem.W.nsIn K mainGlobals "InvalidText" = some (some (.ref aCInvalidText))) (i1 : PySem.W.findIn K (.ref aCInvalidText) "__init__" = some (some (.ref f1))) (t1 : PySem.W.typeIn K (.ref f1) = some (.type "function"))
    (l1 : K.lookup f1 = some ⟨oc1, od1, .func (PySem.W.fnOf "__init__" "InvalidText.__init__" (defArgs s_InvalidText_init) (defBody s_InvalidText_init) (defScope s_InvalidText_init) .none kV1 dc1 pm1 an1 cd1 ct1), sl1⟩) (c1 : PySem.W.codeIn K cd1 "InvalidText.__init__" = true) (k1 : PySem.W.keepIn K (.ref f1) = true)
    (a2 : PySem.W.nsIn K mainGlobals "is_integer" = some (some (.ref f2))) (l2 : K.lookup f2 = some ⟨oc2, od2, .func (PySem.W.fnOf "is_integer" "is_integer" (defArgs s_is_integer) (defBody s_is_integer) (defScope s_is_integer) .none kV2 dc2 pm2 an2 cd2 ct2), sl2⟩) (c2 : PySem.W.codeIn K cd2 "is_integer" = true) (k2 : PySem.W.keepIn K (.ref f2) = true)
    (a3 : PySem.W.nsIn K mainGlobals "is_name" = some (some (.ref f3))) (l3 : K.lookup f3 = some ⟨oc3, od3, .func (PySem.W.fnOf "is_name" "is_name" (defArgs s_is_name) (defBody s_is_name) (defScope s_is_name) .none kV3 dc3 pm3 an3 cd3 ct3), sl3⟩) (c3 : PySem.W.codeIn K cd3 "is_name" = true) (k3 : PySem.W.keepIn K (.ref f3) = true)
    (a4 : PySem.W.nsIn K mainGlobals "are_ascending" = some (some (.ref f4))) (l4 : K.lookup f4 = some ⟨oc4, od4, .func (PySem.W.fnOf "are_ascending" "are_ascending" (defArgs s_are_ascending) (defBody s_are_ascending) (defScope s_are_ascending) .none kV4 dc4 pm4 an4 cd4 ct4), sl4⟩) (c4 : PySem.W.codeIn K cd4 "are_ascending" = true) (k4 : PySem.W.keepIn K (.ref f4) = true)
    (a5 : PySem.W.nsIn K mainGlobals "is_state" = some (some (.ref f5))) (l5 : K.lookup f5 = some ⟨oc5, od5, .func (PySem.W.fnOf "is_state" "is_state" (defArgs s_is_state) (defBody s_is_state) (defScope s_is_state) .none kV5 dc5 pm5 an5 cd5 ct5), sl5⟩) (c5 : PySem.W.codeIn K cd5 "is_state" = true) (k5 : PySem.W.keepIn K (.ref f5) = true)
    (a6 : PySem.W.nsIn K mainGlobals "are_states" = some (some (.ref f6))) (l6 : K.lookup f6 = some ⟨oc6, od6, .func (PySem.W.fnOf "are_states" "are_states" (defArgs s_are_states) (defBody s_are_states) (defScope s_are_states) .none kV6 dc6 pm6 an6 cd6 ct6), sl6⟩) (c6 : PySem.W.codeIn K cd6 "are_states" = true) (k6 : PySem.W.keepIn K (.ref f6) = true)
    (a7 : PySem.W.nsIn K mainGlobals "is_size" = some (some (.ref f7))) (l7 : K.lookup f7 = some ⟨oc7, od7, .func (PySem.W.fnOf "is_size" "is_size" (defArgs s_is_size) (defBody s_is_size) (defScope s_is_size) .none kV7 dc7 pm7 an7 cd7 ct7), sl7⟩) (c7 : PySem.W.codeIn K cd7 "is_size" = true) (k7 : PySem.W.keepIn K (.ref f7) = true)
    (a8 : PySem.W.nsIn K mainGlobals "is_action" = some (some (.ref f8))) (l8 : K.lookup f8 = some ⟨oc8, od8, .func (PySem.W.fnOf "is_action" "is_action" (defArgs s_is_action) (defBody s_is_action) (defScope s_is_action) .none kV8 dc8 pm8 an8 cd8 ct8), sl8⟩) (c8 : PySem.W.codeIn K cd8 "is_action" = true) (k8 : PySem.W.keepIn K (.ref f8) = true)
    (a9 : PySem.W.nsIn K mainGlobals "check_store" = some (some (.ref f9))) (l9 : K.lookup f9 = some ⟨oc9, od9, .func (PySem.W.fnOf "check_store" "check_store" (defArgs s_check_store) (defBody s_check_store) (defScope s_check_store) .none kV9 dc9 pm9 an9 cd9 ct9), sl9⟩) (c9 : PySem.W.codeIn K cd9 "check_store" = true) (k9 : PySem.W.keepIn K (.ref f9) = true)
    (a10 : PySem.W.nsIn K mainGlobals "ways_from" = some (some (.ref f10))) (l10 : K.lookup f10 = some ⟨oc10, od10, .func (PySem.W.fnOf "ways_from" "ways_from" (defArgs s_ways_from) (defBody s_ways_from) (defScope s_ways_from) .none kV10 dc10 pm10 an10 cd10 ct10), sl10⟩) (c10 : PySem.W.codeIn K cd10 "ways_from" = true) (k10 : PySem.W.keepIn K (.ref f10) = true)
    (a11 : PySem.W.nsIn K mainGlobals "shown_states" = some (some (.ref f11))) (l11 : K.lookup f11 = some ⟨oc11, od11, .func (PySem.W.fnOf "shown_states" "shown_states" (defArgs s_shown_states) (defBody s_shown_states) (defScope s_shown_states) .none kV11 dc11 pm11 an11 cd11 ct11), sl11⟩) (c11 : PySem.W.codeIn K cd11 "shown_states" = true) (k11 : PySem.W.keepIn K (.ref f11) = true)
    (a12 : PySem.W.nsIn K mainGlobals "integer_in" = some (some (.ref f12))) (l12 : K.lookup f12 = some ⟨oc12, od12, .func (PySem.W.fnOf "integer_in" "integer_in" (defArgs s_integer_in) (defBody s_integer_in) (defScope s_integer_in) .none kV12 dc12 pm12 an12 cd12 ct12), sl12⟩) (c12 : PySem.W.codeIn K cd12 "integer_in" = true) (k12 : PySem.W.keepIn K (.ref f12) = true)
    (a13 : PySem.W.nsIn K mainGlobals "states_in" = some (some (.ref f13))) (l13 : K.lookup f13 = some ⟨oc13, od13, .func (PySem.W.fnOf "states_in" "states_in" (defArgs s_states_in) (defBody s_states_in) (defScope s_states_in) .none kV13 dc13 pm13 an13 cd13 ct13), sl13⟩) (c13 : PySem.W.codeIn K cd13 "states_in" = true) (k13 : PySem.W.keepIn K (.ref f13) = true)
    (a14 : PySem.W.nsIn K mainGlobals "moves_in" = some (some (.ref f14))) (l14 : K.lookup f14 = some ⟨oc14, od14, .func (PySem.W.fnOf "moves_in" "moves_in" (defArgs s_moves_in) (defBody s_moves_in) (defScope s_moves_in) .none kV14 dc14 pm14 an14 cd14 ct14), sl14⟩) (c14 : PySem.W.codeIn K cd14 "moves_in" = true) (k14 : PySem.W.keepIn K (.ref f14) = true)
    (a15 : PySem.W.nsIn K mainGlobals "size_in" = some (some (.ref f15))) (l15 : K.lookup f15 = some ⟨oc15, od15, .func (PySem.W.fnOf "size_in" "size_in" (defArgs s_size_in) (defBody s_size_in) (defScope s_size_in) .none kV15 dc15 pm15 an15 cd15 ct15), sl15⟩) (c15 : PySem.W.codeIn K cd15 "size_in" = true) (k15 : PySem.W.keepIn K (.ref f15) = true)
    (a16 : PySem.W.nsIn K mainGlobals "resting_in" = some (some (.ref f16))) (l16 : K.lookup f16 = some ⟨oc16, od16, .func (PySem.W.fnOf "resting_in" "resting_in" (defArgs s_resting_in) (defBody s_resting_in) (defScope s_resting_in) .none kV16 dc16 pm16 an16 cd16 ct16), sl16⟩) (c16 : PySem.W.codeIn K cd16 "resting_in" = true) (k16 : PySem.W.keepIn K (.ref f16) = true)
    (a17 : PySem.W.nsIn K mainGlobals "action_in" = some (some (.ref f17))) (l17 : K.lookup f17 = some ⟨oc17, od17, .func (PySem.W.fnOf "action_in" "action_in" (defArgs s_action_in) (defBody s_action_in) (defScope s_action_in) .none kV17 dc17 pm17 an17 cd17 ct17), sl17⟩) (c17 : PySem.W.codeIn K cd17 "action_in" = true) (k17 : PySem.W.keepIn K (.ref f17) = true)
    (a18 : PySem.W.nsIn K mainGlobals "actions_in" = some (some (.ref f18))) (l18 : K.lookup f18 = some ⟨oc18, od18, .func (PySem.W.fnOf "actions_in" "actions_in" (defArgs s_actions_in) (defBody s_actions_in) (defScope s_actions_in) .none kV18 dc18 pm18 an18 cd18 ct18), sl18⟩) (c18 : PySem.W.codeIn K cd18 "actions_in" = true) (k18 : PySem.W.keepIn K (.ref f18) = true)
    (a19 : PySem.W.nsIn K mainGlobals "store_of_lines" = some (some (.ref f19))) (l19 : K.lookup f19 = some ⟨oc19, od19, .func (PySem.W.fnOf "store_of_lines" "store_of_lines" (defArgs s_store_of_lines) (defBody s_store_of_lines) (defScope s_store_of_lines) .none kV19 dc19 pm19 an19 cd19 ct19), sl19⟩) (c19 : PySem.W.codeIn K cd19 "store_of_lines" = true) (k19 : PySem.W.keepIn K (.ref f19) = true)
    {aCStore : Addr} (xStore : PySem.W.nsIn K mainGlobals "Store" = some (some (.ref aCStore))) (yStore0 : PySem.W.plainGet K aCStore Str.empty = true) (yStore1 : PySem.W.hasDictIn K aCStore = true) (yStore2 : PySem.W.plainOver K aCStore = true) (yStore3 : PySem.W.findIn K (.ref aCStore) "__setattr__" = some (some (.builtin "object.__setattr__"))) (yStore4 : PySem.W.makesIn K aCStore = true) (yStore5 : PySem.W.keepIn K (.ref aCStore) = true)
    (vStoresize : PySem.W.findIn K (.ref aCStore) "size" = some none)
    (vStoreactions : PySem.W.findIn K (.ref aCStore) "actions" = some none)
    (vStoreresting : PySem.W.findIn K (.ref aCStore) "resting" = some none)
    (vStoremoves_by_name : PySem.W.findIn K (.ref aCStore) "moves_by_name" = some none)
    (vStoreways_by_state : PySem.W.findIn K (.ref aCStore) "ways_by_state" = some none)
    (rStore0 : PySem.W.readsIn K aCStore (.type "type") = true) (rStore1 : PySem.W.specialIn K (.ref aCStore) "__getattribute__" = some (some (.builtin "type.__getattribute__")))
    (a20 : PySem.W.findIn K (.ref aCStore) "__init__" = some (some (.ref f20))) (i20 : PySem.W.isFn K (.ref f20) = true)
    {dfD : Addr}
    (l20 : K.lookup f20 = some ⟨oc20, od20, .func (PySem.W.fnOf "__init__" "Store.__init__" (defArgs s_Store_init) (defBody s_Store_init) (defScope s_Store_init) .none (.ref dfD) dc20 pm20 an20 cd20 ct20), sl20⟩) (c20 : PySem.W.codeIn K cd20 "Store.__init__" = true) (k20 : PySem.W.keepIn K (.ref f20) = true)
    {p21 : Addr} {rest21 : List Value} (a21 : PySem.W.findCls K (.ref aCStore) (.type "type") "of" = some (.get (.builtin "classmethod.__get__") (.ref p21) .none (.ref aCStore))) (u21 : PySem.W.recIn K p21 "classmethod" = some (.ref f21 :: rest21)) (i21 : PySem.W.fnIn K f21 = true)
    (l21 : K.lookup f21 = some ⟨oc21, od21, .func (PySem.W.fnOf "of" "Store.of" (defArgs s_Store_of) (defBody s_Store_of) (defScope s_Store_of) .none kV21 dc21 pm21 an21 cd21 ct21), sl21⟩) (c21 : PySem.W.codeIn K cd21 "Store.of" = true) (k21 : PySem.W.keepIn K (.ref f21) = true)
    {p22 : Addr} {rest22 : List Value} (a22 : PySem.W.findCls K (.ref aCStore) (.type "type") "read" = some (.get (.builtin "classmethod.__get__") (.ref p22) .none (.ref aCStore))) (u22 : PySem.W.recIn K p22 "classmethod" = some (.ref f22 :: rest22)) (i22 : PySem.W.fnIn K f22 = true)
    (l22 : K.lookup f22 = some ⟨oc22, od22, .func (PySem.W.fnOf "read" "Store.read" (defArgs s_Store_read) (defBody s_Store_read) (defScope s_Store_read) .none kV22 dc22 pm22 an22 cd22 ct22), sl22⟩) (c22 : PySem.W.codeIn K cd22 "Store.read" = true) (k22 : PySem.W.keepIn K (.ref f22) = true)
    {p23 : Addr} {rest23 : List Value} (a23 : PySem.W.findIn K (.ref aCStore) "text" = some (some (.ref p23))) (i23 : PySem.W.specialIn K (.ref p23) "__get__" = some (some (.builtin "property.__get__"))) (t23 : PySem.W.takesIn K (.ref p23) = some true) (u23 : PySem.W.recIn K p23 "property" = some (.ref f23 :: rest23))
    (l23 : K.lookup f23 = some ⟨oc23, od23, .func (PySem.W.fnOf "text" "Store.text" (defArgs s_Store_text) (defBody s_Store_text) (defScope s_Store_text) .none kV23 dc23 pm23 an23 cd23 ct23), sl23⟩) (c23 : PySem.W.codeIn K cd23 "Store.text" = true) (k23 : PySem.W.keepIn K (.ref f23) = true)
    (a24 : PySem.W.findIn K (.ref aCStore) "__eq__" = some (some (.ref f24))) (i24 : PySem.W.isFn K (.ref f24) = true)
    (l24 : K.lookup f24 = some ⟨oc24, od24, .func (PySem.W.fnOf "__eq__" "Store.__eq__" (defArgs s_Store_eq) (defBody s_Store_eq) (defScope s_Store_eq) .none kV24 dc24 pm24 an24 cd24 ct24), sl24⟩) (c24 : PySem.W.codeIn K cd24 "Store.__eq__" = true) (k24 : PySem.W.keepIn K (.ref f24) = true)
    (a25 : PySem.W.nsIn K mainGlobals "_law_well" = some (some (.ref f25))) (l25 : K.lookup f25 = some ⟨oc25, od25, .func (PySem.W.fnOf "_law_well" "_law_well" (defArgs s_well) (defBody s_well) (defScope s_well) .none kV25 dc25 pm25 an25 cd25 ct25), sl25⟩) (c25 : PySem.W.codeIn K cd25 "_law_well" = true) (k25 : PySem.W.keepIn K (.ref f25) = true)
    (a26 : PySem.W.nsIn K mainGlobals "_law_drawn" = some (some (.ref f26))) (l26 : K.lookup f26 = some ⟨oc26, od26, .func (PySem.W.fnOf "_law_drawn" "_law_drawn" (defArgs s_drawn) (defBody s_drawn) (defScope s_drawn) .none kV26 dc26 pm26 an26 cd26 ct26), sl26⟩) (c26 : PySem.W.codeIn K cd26 "_law_drawn" = true) (k26 : PySem.W.keepIn K (.ref f26) = true)
    (a27 : PySem.W.nsIn K mainGlobals "_law_one_of" = some (some (.ref f27))) (l27 : K.lookup f27 = some ⟨oc27, od27, .func (PySem.W.fnOf "_law_one_of" "_law_one_of" (defArgs s_one_of) (defBody s_one_of) (defScope s_one_of) .none kV27 dc27 pm27 an27 cd27 ct27), sl27⟩) (c27 : PySem.W.codeIn K cd27 "_law_one_of" = true) (k27 : PySem.W.keepIn K (.ref f27) = true)
    (a28 : PySem.W.nsIn K mainGlobals "_law_name" = some (some (.ref f28))) (l28 : K.lookup f28 = some ⟨oc28, od28, .func (PySem.W.fnOf "_law_name" "_law_name" (defArgs s_name) (defBody s_name) (defScope s_name) .none kV28 dc28 pm28 an28 cd28 ct28), sl28⟩) (c28 : PySem.W.codeIn K cd28 "_law_name" = true) (k28 : PySem.W.keepIn K (.ref f28) = true)
    (a29 : PySem.W.nsIn K mainGlobals "_law_store" = some (some (.ref f29))) (l29 : K.lookup f29 = some ⟨oc29, od29, .func (PySem.W.fnOf "_law_store" "_law_store" (defArgs s_store) (defBody s_store) (defScope s_store) .none kV29 dc29 pm29 an29 cd29 ct29), sl29⟩) (c29 : PySem.W.codeIn K cd29 "_law_store" = true) (k29 : PySem.W.keepIn K (.ref f29) = true)
    (a30 : PySem.W.nsIn K mainGlobals "_law_lines" = some (some (.ref f30))) (l30 : K.lookup f30 = some ⟨oc30, od30, .func (PySem.W.fnOf "_law_lines" "_law_lines" (defArgs s_lines) (defBody s_lines) (defScope s_lines) .none kV30 dc30 pm30 an30 cd30 ct30), sl30⟩) (c30 : PySem.W.codeIn K cd30 "_law_lines" = true) (k30 : PySem.W.keepIn K (.ref f30) = true)
    (a31 : PySem.W.nsIn K mainGlobals "_law_word" = some (some (.ref f31))) (l31 : K.lookup f31 = some ⟨oc31, od31, .func (PySem.W.fnOf "_law_word" "_law_word" (defArgs s_word) (defBody s_word) (defScope s_word) .none kV31 dc31 pm31 an31 cd31 ct31), sl31⟩) (c31 : PySem.W.codeIn K cd31 "_law_word" = true) (k31 : PySem.W.keepIn K (.ref f31) = true)
    (a32 : PySem.W.nsIn K mainGlobals "_law_line_bent" = some (some (.ref f32))) (l32 : K.lookup f32 = some ⟨oc32, od32, .func (PySem.W.fnOf "_law_line_bent" "_law_line_bent" (defArgs s_line_bent) (defBody s_line_bent) (defScope s_line_bent) .none kV32 dc32 pm32 an32 cd32 ct32), sl32⟩) (c32 : PySem.W.codeIn K cd32 "_law_line_bent" = true) (k32 : PySem.W.keepIn K (.ref f32) = true)
    (a33 : PySem.W.nsIn K mainGlobals "_law_bent" = some (some (.ref f33))) (l33 : K.lookup f33 = some ⟨oc33, od33, .func (PySem.W.fnOf "_law_bent" "_law_bent" (defArgs s_bent) (defBody s_bent) (defScope s_bent) .none kV33 dc33 pm33 an33 cd33 ct33), sl33⟩) (c33 : PySem.W.codeIn K cd33 "_law_bent" = true) (k33 : PySem.W.keepIn K (.ref f33) = true)
    (a34 : PySem.W.nsIn K mainGlobals "_law_number" = some (some (.ref f34))) (l34 : K.lookup f34 = some ⟨oc34, od34, .func (PySem.W.fnOf "_law_number" "_law_number" (defArgs s_number) (defBody s_number) (defScope s_number) .none kV34 dc34 pm34 an34 cd34 ct34), sl34⟩) (c34 : PySem.W.codeIn K cd34 "_law_number" = true) (k34 : PySem.W.keepIn K (.ref f34) = true)
    (a35 : PySem.W.nsIn K mainGlobals "_law_states" = some (some (.ref f35))) (l35 : K.lookup f35 = some ⟨oc35, od35, .func (PySem.W.fnOf "_law_states" "_law_states" (defArgs s_states) (defBody s_states) (defScope s_states) .none kV35 dc35 pm35 an35 cd35 ct35), sl35⟩) (c35 : PySem.W.codeIn K cd35 "_law_states" = true) (k35 : PySem.W.keepIn K (.ref f35) = true)
    (a36 : PySem.W.nsIn K mainGlobals "_law_moves" = some (some (.ref f36))) (l36 : K.lookup f36 = some ⟨oc36, od36, .func (PySem.W.fnOf "_law_moves" "_law_moves" (defArgs s_moves) (defBody s_moves) (defScope s_moves) .none kV36 dc36 pm36 an36 cd36 ct36), sl36⟩) (c36 : PySem.W.codeIn K cd36 "_law_moves" = true) (k36 : PySem.W.keepIn K (.ref f36) = true)
    (a37 : PySem.W.nsIn K mainGlobals "_law_is_name" = some (some (.ref f37))) (l37 : K.lookup f37 = some ⟨oc37, od37, .func (PySem.W.fnOf "_law_is_name" "_law_is_name" (defArgs s_w_is_name) (defBody s_w_is_name) (defScope s_w_is_name) .none kV37 dc37 pm37 an37 cd37 ct37), sl37⟩) (c37 : PySem.W.codeIn K cd37 "_law_is_name" = true) (k37 : PySem.W.keepIn K (.ref f37) = true)
    (a38 : PySem.W.nsIn K mainGlobals "_law_read" = some (some (.ref f38))) (l38 : K.lookup f38 = some ⟨oc38, od38, .func (PySem.W.fnOf "_law_read" "_law_read" (defArgs s_read) (defBody s_read) (defScope s_read) .none kV38 dc38 pm38 an38 cd38 ct38), sl38⟩) (c38 : PySem.W.codeIn K cd38 "_law_read" = true) (k38 : PySem.W.keepIn K (.ref f38) = true)
    (a39 : PySem.W.nsIn K mainGlobals "_law_told" = some (some (.ref f39))) (l39 : K.lookup f39 = some ⟨oc39, od39, .func (PySem.W.fnOf "_law_told" "_law_told" (defArgs s_told) (defBody s_told) (defScope s_told) .none kV39 dc39 pm39 an39 cd39 ct39), sl39⟩) (c39 : PySem.W.codeIn K cd39 "_law_told" = true) (k39 : PySem.W.keepIn K (.ref f39) = true)
    (a40 : PySem.W.nsIn K mainGlobals "law" = some (some (.ref f40))) (l40 : K.lookup f40 = some ⟨oc40, od40, .func (PySem.W.fnOf "law" "law" (defArgs s_law) (defBody s_law) (defScope s_law) .none kV40 dc40 pm40 an40 cd40 ct40), sl40⟩) (c40 : PySem.W.codeIn K cd40 "law" = true) (k40 : PySem.W.keepIn K (.ref f40) = true)
    {aCFlowError : Addr} (xFlowError : PySem.W.nsIn K mainGlobals "FlowError" = some (some (.ref aCFlowError))) (yFlowError : Xv.cfB K aCFlowError = true)
    (yBadStore : Xv.ecB K aCBadStore aCFlowError ["part"] = true)
    (yInvalidText : Xv.ecB K aCInvalidText aCFlowError ["line"] = true)
    (nd : [aCBadStore, aCInvalidText, aCFlowError].Nodup)
    (z_all : PySem.W.nsIn K mainGlobals "all" = some none)
    (z_bool : PySem.W.nsIn K mainGlobals "bool" = some none)
    (z_dict : PySem.W.nsIn K mainGlobals "dict" = some none)
    (z_enumerate : PySem.W.nsIn K mainGlobals "enumerate" = some none)
    (z_int : PySem.W.nsIn K mainGlobals "int" = some none)
    (z_isinstance : PySem.W.nsIn K mainGlobals "isinstance" = some none)
    (z_len : PySem.W.nsIn K mainGlobals "len" = some none)
    (z_list : PySem.W.nsIn K mainGlobals "list" = some none)
    (z_range : PySem.W.nsIn K mainGlobals "range" = some none)
    (z_repr : PySem.W.nsIn K mainGlobals "repr" = some none)
    (z_sorted : PySem.W.nsIn K mainGlobals "sorted" = some none)
    (z_str : PySem.W.nsIn K mainGlobals "str" = some none)
    (z_tuple : PySem.W.nsIn K mainGlobals "tuple" = some none)
    (z_zip : PySem.W.nsIn K mainGlobals "zip" = some none)
    {tLETTERS : Tok} (gLETTERS : PySem.W.nsIn K mainGlobals "LETTERS" = some (some (.str "abcdefghijklmnopqrstuvwxyz" tLETTERS)))
    {tDIGITS : Tok} (gDIGITS : PySem.W.nsIn K mainGlobals "DIGITS" = some (some (.str "0123456789" tDIGITS)))
    {tLONGEST_NAME : Tok} (gLONGEST_NAME : PySem.W.nsIn K mainGlobals "LONGEST_NAME" = some (some (.int 8 tLONGEST_NAME)))
    {tMOST_STATES : Tok} (gMOST_STATES : PySem.W.nsIn K mainGlobals "MOST_STATES" = some (some (.int 3 tMOST_STATES)))
    {tPAIR : Tok} (gPAIR : PySem.W.nsIn K mainGlobals "PAIR" = some (some (.int 2 tPAIR)))
    {tNOTHING : Tok} (gNOTHING : PySem.W.nsIn K mainGlobals "NOTHING" = some (some (.str "-" tNOTHING)))
    {dfl : Addr} (ndf : PySem.W.nsIn K dfD "resting" = some (some (.ref dfl)))
    {oDf : Option Addr} {nDf : Nat} {sDf : Array (Option Value)} (edf : K.lookup dfl = some ⟨.type "tuple", oDf, .seq #[] nDf, sDf⟩)
    (insS : Xo.insB K aCStore = true)
    : ∃ fd : FuncData, (∀ (s : Shared) (v : Value), BindsTo s fd ⟨[v], []⟩ [("script", v)]) ∧ ∀ base : Heap, K.In base → base.Ns mainGlobals mg → FnG l.prog w K mg base 20 fa fd ["script"] (sp_law K) := by
  have e := hfa.symm.trans (PySem.W.mg_of X G a40)
  cases e
  have F0 := fun_mk (st := s_BadStore_init) l0 c0 k0
  have b0 := F0.binds (ps := P_BadStore_init) fun _ _ _ _ _ _ us hl => match us, hl with | [_, _], _ => rfl
  have F1 := fun_mk (st := s_InvalidText_init) l1 c1 k1
  have b1 := F1.binds (ps := P_InvalidText_init) fun _ _ _ _ _ _ us hl => match us, hl with | [_, _], _ => rfl
  have F2 := fun_mk (st := s_is_integer) l2 c2 k2
  have b2 := F2.binds (ps := P_is_integer) fun _ _ _ _ _ _ us hl => match us, hl with | [_], _ => rfl
  have F3 := fun_mk (st := s_is_name) l3 c3 k3
  have b3 := F3.binds (ps := P_is_name) fun _ _ _ _ _ _ us hl => match us, hl with | [_], _ => rfl
  have F4 := fun_mk (st := s_are_ascending) l4 c4 k4
  have b4 := F4.binds (ps := P_are_ascending) fun _ _ _ _ _ _ us hl => match us, hl with | [_], _ => rfl
  have F5 := fun_mk (st := s_is_state) l5 c5 k5
  have b5 := F5.binds (ps := P_is_state) fun _ _ _ _ _ _ us hl => match us, hl with | [_, _], _ => rfl
  have F6 := fun_mk (st := s_are_states) l6 c6 k6
  have b6 := F6.binds (ps := P_are_states) fun _ _ _ _ _ _ us hl => match us, hl with | [_, _], _ => rfl
  have F7 := fun_mk (st := s_is_size) l7 c7 k7
  have b7 := F7.binds (ps := P_is_size) fun _ _ _ _ _ _ us hl => match us, hl with | [_], _ => rfl
  have F8 := fun_mk (st := s_is_action) l8 c8 k8
  have b8 := F8.binds (ps := P_is_action) fun _ _ _ _ _ _ us hl => match us, hl with | [_, _], _ => rfl
  have F9 := fun_mk (st := s_check_store) l9 c9 k9
  have b9 := F9.binds (ps := P_check_store) fun _ _ _ _ _ _ us hl => match us, hl with | [_, _, _], _ => rfl
  have F10 := fun_mk (st := s_ways_from) l10 c10 k10
  have b10 := F10.binds (ps := P_ways_from) fun _ _ _ _ _ _ us hl => match us, hl with | [_, _], _ => rfl
  have F11 := fun_mk (st := s_shown_states) l11 c11 k11
  have b11 := F11.binds (ps := P_shown_states) fun _ _ _ _ _ _ us hl => match us, hl with | [_], _ => rfl
  have F12 := fun_mk (st := s_integer_in) l12 c12 k12
  have b12 := F12.binds (ps := P_integer_in) fun _ _ _ _ _ _ us hl => match us, hl with | [_], _ => rfl
  have F13 := fun_mk (st := s_states_in) l13 c13 k13
  have b13 := F13.binds (ps := P_states_in) fun _ _ _ _ _ _ us hl => match us, hl with | [_], _ => rfl
  have F14 := fun_mk (st := s_moves_in) l14 c14 k14
  have b14 := F14.binds (ps := P_moves_in) fun _ _ _ _ _ _ us hl => match us, hl with | [_], _ => rfl
  have F15 := fun_mk (st := s_size_in) l15 c15 k15
  have b15 := F15.binds (ps := P_size_in) fun _ _ _ _ _ _ us hl => match us, hl with | [_], _ => rfl
  have F16 := fun_mk (st := s_resting_in) l16 c16 k16
  have b16 := F16.binds (ps := P_resting_in) fun _ _ _ _ _ _ us hl => match us, hl with | [_, _], _ => rfl
  have F17 := fun_mk (st := s_action_in) l17 c17 k17
  have b17 := F17.binds (ps := P_action_in) fun _ _ _ _ _ _ us hl => match us, hl with | [_, _], _ => rfl
  have F18 := fun_mk (st := s_actions_in) l18 c18 k18
  have b18 := F18.binds (ps := P_actions_in) fun _ _ _ _ _ _ us hl => match us, hl with | [_, _, _], _ => rfl
  have F19 := fun_mk (st := s_store_of_lines) l19 c19 k19
  have b19 := F19.binds (ps := P_store_of_lines) fun _ _ _ _ _ _ us hl => match us, hl with | [_], _ => rfl
  have F20 := fun_mk (st := s_Store_init) l20 c20 k20
  have F21 := fun_mk (st := s_Store_of) l21 c21 k21
  have b21 := F21.binds (ps := P_Store_of) fun _ _ _ _ _ _ us hl => match us, hl with | [_, _, _, _], _ => rfl
  have F22 := fun_mk (st := s_Store_read) l22 c22 k22
  have b22 := F22.binds (ps := P_Store_read) fun _ _ _ _ _ _ us hl => match us, hl with | [_, _], _ => rfl
  have F23 := fun_mk (st := s_Store_text) l23 c23 k23
  have b23 := F23.binds (ps := P_Store_text) fun _ _ _ _ _ _ us hl => match us, hl with | [_], _ => rfl
  have F24 := fun_mk (st := s_Store_eq) l24 c24 k24
  have b24 := F24.binds (ps := P_Store_eq) fun _ _ _ _ _ _ us hl => match us, hl with | [_, _], _ => rfl
  have F25 := fun_mk (st := s_well) l25 c25 k25
  have b25 := F25.binds (ps := P_well) fun _ _ _ _ _ _ us hl => match us, hl with | [_], _ => rfl
  have F26 := fun_mk (st := s_drawn) l26 c26 k26
  have b26 := F26.binds (ps := P_drawn) fun _ _ _ _ _ _ us hl => match us, hl with | [_, _], _ => rfl
  have F27 := fun_mk (st := s_one_of) l27 c27 k27
  have b27 := F27.binds (ps := P_one_of) fun _ _ _ _ _ _ us hl => match us, hl with | [_, _], _ => rfl
  have F28 := fun_mk (st := s_name) l28 c28 k28
  have b28 := F28.binds (ps := P_name) fun _ _ _ _ _ _ us hl => match us, hl with | [_], _ => rfl
  have F29 := fun_mk (st := s_store) l29 c29 k29
  have b29 := F29.binds (ps := P_store) fun _ _ _ _ _ _ us hl => match us, hl with | [_], _ => rfl
  have F30 := fun_mk (st := s_lines) l30 c30 k30
  have b30 := F30.binds (ps := P_lines) fun _ _ _ _ _ _ us hl => match us, hl with | [_, _, _], _ => rfl
  have F31 := fun_mk (st := s_word) l31 c31 k31
  have b31 := F31.binds (ps := P_word) fun _ _ _ _ _ _ us hl => match us, hl with | [_], _ => rfl
  have F32 := fun_mk (st := s_line_bent) l32 c32 k32
  have b32 := F32.binds (ps := P_line_bent) fun _ _ _ _ _ _ us hl => match us, hl with | [_, _], _ => rfl
  have F33 := fun_mk (st := s_bent) l33 c33 k33
  have b33 := F33.binds (ps := P_bent) fun _ _ _ _ _ _ us hl => match us, hl with | [_, _], _ => rfl
  have F34 := fun_mk (st := s_number) l34 c34 k34
  have b34 := F34.binds (ps := P_number) fun _ _ _ _ _ _ us hl => match us, hl with | [_], _ => rfl
  have F35 := fun_mk (st := s_states) l35 c35 k35
  have b35 := F35.binds (ps := P_states) fun _ _ _ _ _ _ us hl => match us, hl with | [_, _], _ => rfl
  have F36 := fun_mk (st := s_moves) l36 c36 k36
  have b36 := F36.binds (ps := P_moves) fun _ _ _ _ _ _ us hl => match us, hl with | [_, _], _ => rfl
  have F37 := fun_mk (st := s_w_is_name) l37 c37 k37
  have b37 := F37.binds (ps := P_w_is_name) fun _ _ _ _ _ _ us hl => match us, hl with | [_], _ => rfl
  have F38 := fun_mk (st := s_read) l38 c38 k38
  have b38 := F38.binds (ps := P_read) fun _ _ _ _ _ _ us hl => match us, hl with | [_], _ => rfl
  have F39 := fun_mk (st := s_told) l39 c39 k39
  have b39 := F39.binds (ps := P_told) fun _ _ _ _ _ _ us hl => match us, hl with | [_], _ => rfl
  have F40 := fun_mk (st := s_law) l40 c40 k40
  have b40 := F40.binds (ps := P_law) fun _ _ _ _ _ _ us hl => match us, hl with | [_], _ => rfl
  exact ⟨_, fun s v => .of_eq rfl, fun base _ _ => ok_law { a_BadStore_init := f0, d_BadStore_init := _, F_BadStore_init := F0, b_BadStore_init := b0, C_BadStore := aCBadStore, g_BadStore := PySem.W.mg_of X G a0, iC_BadStore := i0, tI_BadStore := t0, a_InvalidText_init := f1, d_InvalidText_init := _, F_InvalidText_init := F1, b_InvalidText_init := b1, C_InvalidText := aCInvalidText, g_InvalidText := PySem.W.mg_of X G a1, iC_InvalidText := i1, tI_InvalidText := t1, a_is_integer := f2, d_is_integer := _, F_is_integer := F2, g_is_integer := PySem.W.mg_of X G a2, b_is_integer := b2, a_is_name := f3, d_is_name := _, F_is_name := F3, g_is_name := PySem.W.mg_of X G a3, b_is_name := b3, a_are_ascending := f4, d_are_ascending := _, F_are_ascending := F4, g_are_ascending := PySem.W.mg_of X G a4, b_are_ascending := b4, a_is_state := f5, d_is_state := _, F_is_state := F5, g_is_state := PySem.W.mg_of X G a5, b_is_state := b5, a_are_states := f6, d_are_states := _, F_are_states := F6, g_are_states := PySem.W.mg_of X G a6, b_are_states := b6, a_is_size := f7, d_is_size := _, F_is_size := F7, g_is_size := PySem.W.mg_of X G a7, b_is_size := b7, a_is_action := f8, d_is_action := _, F_is_action := F8, g_is_action := PySem.W.mg_of X G a8, b_is_action := b8, a_check_store := f9, d_check_store := _, F_check_store := F9, g_check_store := PySem.W.mg_of X G a9, b_check_store := b9, a_ways_from := f10, d_ways_from := _, F_ways_from := F10, g_ways_from := PySem.W.mg_of X G a10, b_ways_from := b10, a_shown_states := f11, d_shown_states := _, F_shown_states := F11, g_shown_states := PySem.W.mg_of X G a11, b_shown_states := b11, a_integer_in := f12, d_integer_in := _, F_integer_in := F12, g_integer_in := PySem.W.mg_of X G a12, b_integer_in := b12, a_states_in := f13, d_states_in := _, F_states_in := F13, g_states_in := PySem.W.mg_of X G a13, b_states_in := b13, a_moves_in := f14, d_moves_in := _, F_moves_in := F14, g_moves_in := PySem.W.mg_of X G a14, b_moves_in := b14, a_size_in := f15, d_size_in := _, F_size_in := F15, g_size_in := PySem.W.mg_of X G a15, b_size_in := b15, a_resting_in := f16, d_resting_in := _, F_resting_in := F16, g_resting_in := PySem.W.mg_of X G a16, b_resting_in := b16, a_action_in := f17, d_action_in := _, F_action_in := F17, g_action_in := PySem.W.mg_of X G a17, b_action_in := b17, a_actions_in := f18, d_actions_in := _, F_actions_in := F18, g_actions_in := PySem.W.mg_of X G a18, b_actions_in := b18, a_store_of_lines := f19, d_store_of_lines := _, F_store_of_lines := F19, g_store_of_lines := PySem.W.mg_of X G a19, b_store_of_lines := b19, C_Store := aCStore, g_Store := PySem.W.mg_of X G xStore, cl_Store := ⟨yStore0, yStore1, yStore2, yStore3⟩, no_Store_size := vStoresize, no_Store_actions := vStoreactions, no_Store_resting := vStoreresting, no_Store_moves_by_name := vStoremoves_by_name, no_Store_ways_by_state := vStoreways_by_state, rd_Store := ⟨rStore0, rStore1⟩, a_Store_init := f20, d_Store_init := _, F_Store_init := F20, mk_Store := ⟨yStore4, a20, i20, yStore5⟩, a_Store_of := f21, d_Store_of := _, F_Store_of := F21, b_Store_of := b21, p_Store_of := p21, me_Store_of := ⟨a21, ⟨_, u21⟩, i21⟩, a_Store_read := f22, d_Store_read := _, F_Store_read := F22, b_Store_read := b22, p_Store_read := p22, me_Store_read := ⟨a22, ⟨_, u22⟩, i22⟩, a_Store_text := f23, d_Store_text := _, F_Store_text := F23, b_Store_text := b23, p_Store_text := p23, me_Store_text := ⟨a23, i23, t23, _, u23⟩, a_Store_eq := f24, d_Store_eq := _, F_Store_eq := F24, b_Store_eq := b24, eq_Store := a24, eqf_Store := i24, a_well := f25, d_well := _, F_well := F25, g_well := PySem.W.mg_of X G a25, b_well := b25, a_drawn := f26, d_drawn := _, F_drawn := F26, g_drawn := PySem.W.mg_of X G a26, b_drawn := b26, a_one_of := f27, d_one_of := _, F_one_of := F27, g_one_of := PySem.W.mg_of X G a27, b_one_of := b27, a_name := f28, d_name := _, F_name := F28, g_name := PySem.W.mg_of X G a28, b_name := b28, a_store := f29, d_store := _, F_store := F29, g_store := PySem.W.mg_of X G a29, b_store := b29, a_lines := f30, d_lines := _, F_lines := F30, g_lines := PySem.W.mg_of X G a30, b_lines := b30, a_word := f31, d_word := _, F_word := F31, g_word := PySem.W.mg_of X G a31, b_word := b31, a_line_bent := f32, d_line_bent := _, F_line_bent := F32, g_line_bent := PySem.W.mg_of X G a32, b_line_bent := b32, a_bent := f33, d_bent := _, F_bent := F33, g_bent := PySem.W.mg_of X G a33, b_bent := b33, a_number := f34, d_number := _, F_number := F34, g_number := PySem.W.mg_of X G a34, b_number := b34, a_states := f35, d_states := _, F_states := F35, g_states := PySem.W.mg_of X G a35, b_states := b35, a_moves := f36, d_moves := _, F_moves := F36, g_moves := PySem.W.mg_of X G a36, b_moves := b36, a_w_is_name := f37, d_w_is_name := _, F_w_is_name := F37, g_w_is_name := PySem.W.mg_of X G a37, b_w_is_name := b37, a_read := f38, d_read := _, F_read := F38, g_read := PySem.W.mg_of X G a38, b_read := b38, a_told := f39, d_told := _, F_told := F39, g_told := PySem.W.mg_of X G a39, b_told := b39, a_law := fa, d_law := _, F_law := F40, g_law := PySem.W.mg_of X G a40, b_law := b40, C_FlowError := aCFlowError, g_FlowError := PySem.W.mg_of X G xFlowError, cf_FlowError := yFlowError, nd := nd, E_BadStore := Xv.ec_of yBadStore, E_InvalidText := Xv.ec_of yInvalidText, n_all := PySem.W.mg_none_of X G z_all, n_bool := PySem.W.mg_none_of X G z_bool, n_dict := PySem.W.mg_none_of X G z_dict, n_enumerate := PySem.W.mg_none_of X G z_enumerate, n_int := PySem.W.mg_none_of X G z_int, n_isinstance := PySem.W.mg_none_of X G z_isinstance, n_len := PySem.W.mg_none_of X G z_len, n_list := PySem.W.mg_none_of X G z_list, n_range := PySem.W.mg_none_of X G z_range, n_repr := PySem.W.mg_none_of X G z_repr, n_sorted := PySem.W.mg_none_of X G z_sorted, n_str := PySem.W.mg_none_of X G z_str, n_tuple := PySem.W.mg_none_of X G z_tuple, n_zip := PySem.W.mg_none_of X G z_zip, m_LETTERS := ⟨_, PySem.W.mg_of X G gLETTERS, ⟨_, rfl⟩⟩, m_DIGITS := ⟨_, PySem.W.mg_of X G gDIGITS, ⟨_, rfl⟩⟩, m_LONGEST_NAME := ⟨_, PySem.W.mg_of X G gLONGEST_NAME, ⟨_, rfl⟩⟩, m_MOST_STATES := ⟨_, PySem.W.mg_of X G gMOST_STATES, ⟨_, rfl⟩⟩, m_PAIR := ⟨_, PySem.W.mg_of X G gPAIR, ⟨_, rfl⟩⟩, m_NOTHING := ⟨_, PySem.W.mg_of X G gNOTHING, ⟨_, rfl⟩⟩, dfl := dfl, dfD := dfD, k_dfl := rfl, n_dfl := ndf, e_dfl := ⟨_, _, edf, rfl, rfl⟩, ins_Store := insS }⟩
end K04
open PySem PySem.W PyProof.Rows
set_option maxHeartbeats 0 in
theorem PySem.Challenge.cw_plugcaller_k04_texts_of_stores_holds : PySem.Challenge.rw_plugcaller_k04_texts_of_stores.Holds := by
  w_on; o_law; k_head; (case hw => w_witness2)
  k_fill
  refine Zg.walkG (l := PySem.Challenge.rw_plugcaller_k04_texts_of_stores) (n := 63) (k := 20) (x := "script") (sp := K04.sp_law) rfl (by decide) rfl ⟨rfl, by decide, by decide⟩ (fun w h Y => PySem.W.kIn_of Y) ?F (fun K H a ns hl _ hS => ⟨a, ns, rfl, hS, hl, fun _ => rfl⟩)
  case F =>
    intro w mg fa h KX G hmg
    refine' K04.all_mk KX G hmg ?a0 ?i0 ?t0 ?l0 ?c0 ?k0 ?a1 ?i1 ?t1 ?l1 ?c1 ?k1 ?a2 ?l2 ?c2 ?k2 ?a3 ?l3 ?c3 ?k3 ?a4 ?l4 ?c4 ?k4 ?a5 ?l5 ?c5 ?k5 ?a6 ?l6 ?c6 ?k6 ?a7 ?l7 ?c7 ?k7 ?a8 ?l8 ?c8 ?k8 ?a9 ?l9 ?c9 ?k9 ?a10 ?l10 ?c10 ?k10 ?a11 ?l11 ?c11 ?k11 ?a12 ?l12 ?c12 ?k12 ?a13 ?l13 ?c13 ?k13 ?a14 ?l14 ?c14 ?k14 ?a15 ?l15 ?c15 ?k15 ?a16 ?l16 ?c16 ?k16 ?a17 ?l17 ?c17 ?k17 ?a18 ?l18 ?c18 ?k18 ?a19 ?l19 ?c19 ?k19 ?xStore ?yStore0 ?yStore1 ?yStore2 ?yStore3 ?yStore4 ?yStore5 ?vStoresize ?vStoreactions ?vStoreresting ?vStoremoves_by_name ?vStoreways_by_state ?rStore0 ?rStore1 ?a20 ?i20 ?l20 ?c20 ?k20 ?a21 ?u21 ?i21 ?l21 ?c21 ?k21 ?a22 ?u22 ?i22 ?l22 ?c22 ?k22 ?a23 ?i23 ?t23 ?u23 ?l23 ?c23 ?k23 ?a24 ?i24 ?l24 ?c24 ?k24 ?a25 ?l25 ?c25 ?k25 ?a26 ?l26 ?c26 ?k26 ?a27 ?l27 ?c27 ?k27 ?a28 ?l28 ?c28 ?k28 ?a29 ?l29 ?c29 ?k29 ?a30 ?l30 ?c30 ?k30 ?a31 ?l31 ?c31 ?k31 ?a32 ?l32 ?c32 ?k32 ?a33 ?l33 ?c33 ?k33 ?a34 ?l34 ?c34 ?k34 ?a35 ?l35 ?c35 ?k35 ?a36 ?l36 ?c36 ?k36 ?a37 ?l37 ?c37 ?k37 ?a38 ?l38 ?c38 ?k38 ?a39 ?l39 ?c39 ?k39 ?a40 ?l40 ?c40 ?k40 ?xFlowError ?yFlowError ?yBadStore ?yInvalidText ?nd ?z_all ?z_bool ?z_dict ?z_enumerate ?z_int ?z_isinstance ?z_len ?z_list ?z_range ?z_repr ?z_sorted ?z_str ?z_tuple ?z_zip ?gLETTERS ?gDIGITS ?gLONGEST_NAME ?gMOST_STATES ?gPAIR ?gNOTHING ?ndf ?edf ?insS
    (case a0 => k_is)
    (case i0 => k_is)
    (case t0 => k_is)
    (case l0 => k_is)
    (case c0 => k_is)
    (case k0 => k_is)
    (case a1 => k_is)
    (case i1 => k_is)
    (case t1 => k_is)
    (case l1 => k_is)
    (case c1 => k_is)
    (case k1 => k_is)
    (case a2 => k_is)
    (case l2 => k_is)
    (case c2 => k_is)
    (case k2 => k_is)
    (case a3 => k_is)
    (case l3 => k_is)
    (case c3 => k_is)
    (case k3 => k_is)
    (case a4 => k_is)
    (case l4 => k_is)
    (case c4 => k_is)
    (case k4 => k_is)
    (case a5 => k_is)
    (case l5 => k_is)
    (case c5 => k_is)
    (case k5 => k_is)
    (case a6 => k_is)
    (case l6 => k_is)
    (case c6 => k_is)
    (case k6 => k_is)
    (case a7 => k_is)
    (case l7 => k_is)
    (case c7 => k_is)
    (case k7 => k_is)
    (case a8 => k_is)
    (case l8 => k_is)
    (case c8 => k_is)
    (case k8 => k_is)
    (case a9 => k_is)
    (case l9 => k_is)
    (case c9 => k_is)
    (case k9 => k_is)
    (case a10 => k_is)
    (case l10 => k_is)
    (case c10 => k_is)
    (case k10 => k_is)
    (case a11 => k_is)
    (case l11 => k_is)
    (case c11 => k_is)
    (case k11 => k_is)
    (case a12 => k_is)
    (case l12 => k_is)
    (case c12 => k_is)
    (case k12 => k_is)
    (case a13 => k_is)
    (case l13 => k_is)
    (case c13 => k_is)
    (case k13 => k_is)
    (case a14 => k_is)
    (case l14 => k_is)
    (case c14 => k_is)
    (case k14 => k_is)
    (case a15 => k_is)
    (case l15 => k_is)
    (case c15 => k_is)
    (case k15 => k_is)
    (case a16 => k_is)
    (case l16 => k_is)
    (case c16 => k_is)
    (case k16 => k_is)
    (case a17 => k_is)
    (case l17 => k_is)
    (case c17 => k_is)
    (case k17 => k_is)
    (case a18 => k_is)
    (case l18 => k_is)
    (case c18 => k_is)
    (case k18 => k_is)
    (case a19 => k_is)
    (case l19 => k_is)
    (case c19 => k_is)
    (case k19 => k_is)
    (case xStore => k_is)
    (case yStore0 => k_is)
    (case yStore1 => k_is)
    (case yStore2 => k_is)
    (case yStore3 => k_is)
    (case yStore4 => k_is)
    (case yStore5 => k_is)
    (case vStoresize => k_is)
    (case vStoreactions => k_is)
    (case vStoreresting => k_is)
    (case vStoremoves_by_name => k_is)
    (case vStoreways_by_state => k_is)
    (case rStore0 => k_is)
    (case rStore1 => k_is)
    (case a20 => k_is)
    (case i20 => k_is)
    (case l20 => k_is)
    (case c20 => k_is)
    (case k20 => k_is)
    (case a21 => k_is)
    (case u21 => k_is)
    (case i21 => k_is)
    (case l21 => k_is)
    (case c21 => k_is)
    (case k21 => k_is)
    (case a22 => k_is)
    (case u22 => k_is)
    (case i22 => k_is)
    (case l22 => k_is)
    (case c22 => k_is)
    (case k22 => k_is)
    (case a23 => k_is)
    (case i23 => k_is)
    (case t23 => k_is)
    (case u23 => k_is)
    (case l23 => k_is)
    (case c23 => k_is)
    (case k23 => k_is)
    (case a24 => k_is)
    (case i24 => k_is)
    (case l24 => k_is)
    (case c24 => k_is)
    (case k24 => k_is)
    (case a25 => k_is)
    (case l25 => k_is)
    (case c25 => k_is)
    (case k25 => k_is)
    (case a26 => k_is)
    (case l26 => k_is)
    (case c26 => k_is)
    (case k26 => k_is)
    (case a27 => k_is)
    (case l27 => k_is)
    (case c27 => k_is)
    (case k27 => k_is)
    (case a28 => k_is)
    (case l28 => k_is)
    (case c28 => k_is)
    (case k28 => k_is)
    (case a29 => k_is)
    (case l29 => k_is)
    (case c29 => k_is)
    (case k29 => k_is)
    (case a30 => k_is)
    (case l30 => k_is)
    (case c30 => k_is)
    (case k30 => k_is)
    (case a31 => k_is)
    (case l31 => k_is)
    (case c31 => k_is)
    (case k31 => k_is)
    (case a32 => k_is)
    (case l32 => k_is)
    (case c32 => k_is)
    (case k32 => k_is)
    (case a33 => k_is)
    (case l33 => k_is)
    (case c33 => k_is)
    (case k33 => k_is)
    (case a34 => k_is)
    (case l34 => k_is)
    (case c34 => k_is)
    (case k34 => k_is)
    (case a35 => k_is)
    (case l35 => k_is)
    (case c35 => k_is)
    (case k35 => k_is)
    (case a36 => k_is)
    (case l36 => k_is)
    (case c36 => k_is)
    (case k36 => k_is)
    (case a37 => k_is)
    (case l37 => k_is)
    (case c37 => k_is)
    (case k37 => k_is)
    (case a38 => k_is)
    (case l38 => k_is)
    (case c38 => k_is)
    (case k38 => k_is)
    (case a39 => k_is)
    (case l39 => k_is)
    (case c39 => k_is)
    (case k39 => k_is)
    (case a40 => k_is)
    (case l40 => k_is)
    (case c40 => k_is)
    (case k40 => k_is)
    (case xFlowError => k_is)
    (case z_all => k_is)
    (case z_bool => k_is)
    (case z_dict => k_is)
    (case z_enumerate => k_is)
    (case z_int => k_is)
    (case z_isinstance => k_is)
    (case z_len => k_is)
    (case z_list => k_is)
    (case z_range => k_is)
    (case z_repr => k_is)
    (case z_sorted => k_is)
    (case z_str => k_is)
    (case z_tuple => k_is)
    (case z_zip => k_is)
    (case gLETTERS => k_is)
    (case gDIGITS => k_is)
    (case gLONGEST_NAME => k_is)
    (case gMOST_STATES => k_is)
    (case gPAIR => k_is)
    (case gNOTHING => k_is)
    (case ndf => k_is)
    (case edf => k_is)
    (case yFlowError => kernel_rfl)
    (case yBadStore => kernel_rfl)
    (case yInvalidText => kernel_rfl)
    (case nd => decide)
    (case insS => kernel_rfl)
