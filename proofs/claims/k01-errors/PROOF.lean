import PyProof.Rows.All
import Wide.All
import OpenK.AllK
import Wide.FinOn
import HandS.ForMost
import PyProof.ReprRoads
import HandS.TupMul
import HandS.TupAny
import PyProof.ReprBulk
import PyProof.FitsInt
import HandS.IsInst
import PyProof.EqAt
import PyProof.NeKinds
import HandS.Exc
import HandS.ExcInit
import HandS.ExcIs
import HandS.ExcField
import HandS.ExcValue
import HandS.HotCalls
import HandS.MakeKw
import KE.KExcIs
import HandS.Words
import HandS.WordsExc
import HandS.ExcCtx
import HandS.TryMany
import PySem.Challenge.RW_plugcaller_k01_errors
import HandS.Style
import HandS.Flow
import HandS.More
import HandS.Strs
import HandS.Star
import HandS.Zip
import HandS.Codes
import HandS.Text
import HandS.NoneIn
import HandS.SortInts
import HandS.Conv
import HandS.Dict
set_option Elab.async false
set_option linter.all false
set_option maxRecDepth 100000
set_option maxHeartbeats 4000000
/-! Zg: promises of defs that are called where no repr is under way (guards known to be none), and the end of a law over such a promise. -/
namespace Zg
open PySem PySem.Spec PyProof.Rows L2
/-- no repr is under way -/
abbrev Gd (A : Around) : Prop := A.guards = some []
/-- a def's promise, asked only where no repr is under way -/
structure FnG (P : Program) (w : World) (K : PySem.W.Frag) (mg : Str → Option Value) (base : Heap) (k : Nat) (f : Addr) (fd : FuncData) (ps : List Str) (sp : Sp) : Prop where
  len : ∀ vs H Q E, sp vs H Q E → vs.length = ps.length
  run : ∀ (A : Around) (outer : List Env) (s : Shared) (H : Hp) (args : Args) (us : List Value) (vs : List V) (Q : VK), Gd A → Room k A →
    Env0 P w K mg base A outer s H → BindsTo s fd args (ps.zip us) → Vals vs us → sp vs H Q E0 →
    codeAny (model P w) A (.call (.ref f) args) (CR CX0 outer P w H s Q E0) s
theorem FnG.of {P : Program} {w : World} {K : PySem.W.Frag} {mg : Str → Option Value} {base : Heap} {k : Nat} {f : Addr} {fd : FuncData} {ps : List Str} {sp : Sp}
    (F : FnOk P w K mg base CX0 k f fd ps sp) : FnG P w K mg base k f fd ps sp :=
  ⟨F.len, fun A outer s H args us vs Q _ hr e0 hb hv hs => F.run A outer s H args us vs Q E0 hr e0 hb hv hs⟩
section
variable {P : Program} {w : World} {K : PySem.W.Frag} {mg : Str → Option Value} {base : Heap}
theorem okG {x qual : Str} {st : Stmt} {f : Addr} {fd : FuncData} {N ps : List Str} {k : Nat} {sp : Sp} (F : Fun K x qual st f fd) (S : FnScope N ps (defScope st))
    (len : ∀ vs H Q E, sp vs H Q E → vs.length = ps.length)
    (hbody : ∀ (cdv : Value) (A : Around) (outer : List Env) (s : Shared) (H : Hp) (vs : List V) (Q : VK), Gd (A.deeper (envOfC qual (defScope st) s.heap.objs.size f cdv)) →
      Room k (A.deeper (envOfC qual (defScope st) s.heap.objs.size f cdv)) → sp vs H Q E0 →
      ∃ t, PSs (cxOf CX0 P w K mg base N qual (defScope st) f cdv A outer s H E0).nox (defBody st) t ∧ t { nx := fun _ H' => Q .non H', rt := Q } (start N vs) H) :
    FnG P w K mg base (k + 1) f fd ps sp := by
  obtain ⟨oc, od, kV, doc, pm, an, cdv, ct, osl, rfl, lk, hcd⟩ := F.ex
  refine ⟨len, fun A outer s H args us vs Q hgd hr e0 hb r hsp => ?_⟩
  have hl := len _ _ _ _ hsp
  have kept : ∀ b o, base.get? b = some o → s.heap.get? b = some o := fun b o e => (e0.bs b o e).1
  have known : ∀ y ∈ ps.zip us, (defScope st).names.lookup y.1 = some .local ∨
      ((defScope st).names.lookup y.1 = some .cell ∧ ((cellsFrom (s.heap.objs.size + 1) (defScope st).names []).lookup y.1).isSome = true) := fun ⟨n, v⟩ hy =>
    (S.par n (List.of_mem_zip hy).1).elim .inl fun q => .inr ⟨q, PySem.W.cellsFrom_some _ _ _ (.inl q)⟩
  refine codeAny_call_function hr.depth (e0.mod.kin.keeps kept _ _ lk) rfl S.co S.gen rfl (PySem.W.codeRec_of (e0.mod.kin.keeps kept) hcd) (hb _ _ _ _ ?_)
  refine wpAny_newFunctionEnv_cells S.kind known fun env he s1 x => ?_
  subst he
  refine ⟨(e0.mod.nolimit.keeps kept).keeps x.toInCall.keep, codeAny_func ?_⟩
  obtain ⟨t, ht, hq⟩ := hbody cdv A outer s H vs Q hgd (hr.deeper _) hsp
  refine wpAny_mono (ht.nox.run [] s1 (start N vs) H _ (inv_start S hr.hd e0 hl r x) hq) (fun fl s' hs => ?_) fun e s' hs => hs
  cases fl with
  | ret u =>
    obtain ⟨v, σ', H', J, rv, q⟩ := hs
    exact ⟨v, H', J.os, J.bare, J.base, J.hok, rv, q⟩
  | next =>
    obtain ⟨σ', H', J, q⟩ := hs
    exact ⟨V.non, H', J.os, J.bare, J.base, J.hok, rfl, q⟩
  | brk => exact hs.elim fun _ z => z.elim fun _ z => z.2.elim
  | cont => exact hs.elim fun _ z => z.elim fun _ z => z.2.elim
end
section
variable {X : Cx} {k : Nat} {f : Addr} {fd : FuncData} {ps ks : List Str} {sp : Sp} {dvs : List V} {ds : List Value} {x : Str} {p pos : Pos} {e : Expr} {es : List Expr} {kws : List Keyword} {t tk : TA}
/-- f(e, ..), f's promise asked where no repr is under way -/
theorem pe_callG (F : FnG X.prog X.w X.K X.mg X.base k f fd ps sp) (hgd : Gd X.A) (hr : Room k X.A) (hg : Gl X x) (hm : X.mg x = some (.ref f)) (hk : PySem.W.keepIn X.K (.ref f) = true) (hb : Binds X.K fd ps ds) (hd : Vals dvs ds)
    (ha : PA X (e :: es) t) (hdb : (x == ("__debug__" : Str)) = false := by decide) (he : starEach (e :: es) X.env = (false, eval e X.env) :: starEach es X.env := by rfl) (hpl : (backTo pos (starEach es X.env)).any (·.1) = false := by rfl) :
    PE X (.Call (.Name x p) (e :: es) [] pos) (tCall sp dvs E0 t) := by
  refine ⟨fun pins s σ H Q I h => wpAny_Call_Name_kw (ld_glob I hg hm ?_ hdb)⟩
  refine PySem.W.callWith_K (h₀ := X.base) I.ok.mod.kin hk (thn (ha.run pos pins s σ H _ I h) fun us s1 ⟨vs, H1, I1, r, q⟩ => ⟨I1.kIn, ?_⟩) he hpl
  have r2 : Vals (vs ++ dvs) (us ++ ds) := r.append hd
  have hl : (us ++ ds).length = ps.length := by rw [← r2.length]; exact F.len _ _ _ _ q
  refine wpAny_call (codeAny_mono (F.run X.A X.stack s1 H1 ⟨us, []⟩ (us ++ ds) (vs ++ dvs) Q hgd hr I1.env0 (hb s1 us I1.kIn hl) r2 q) fun r s' hq => ?_)
  cases r with
  | error e => exact hq.elim
  | ok fl =>
    cases fl with
    | ret u => exact I1.after hq
    | next => exact hq.elim
    | brk => exact hq.elim
    | cont => exact hq.elim
end
/-- how a call by keywords alone binds: g puts the keywords' values (names ks) in the parameters' order -/
structure KB0 (K : PySem.W.Frag) (fd : FuncData) (ps ks : List Str) (g : List Value → List Value) (gV : List V → List V) : Prop where
  to : ∀ (s : Shared) (ws : List Value), ws.length = ks.length → BindsTo s fd ⟨[], ks.zip ws⟩ (ps.zip (g ws))
  rel : ∀ {zs : List V} {ws : List Value}, Vals zs ws → Vals (gV zs) (g ws)
section
variable {X : Cx} {CX : CXT} {k : Nat} {f : Addr} {fd : FuncData} {ps ks : List Str} {sp : Sp} {E : XK} {x : Str} {p pos : Pos} {kws : List Keyword} {tk : TA} {g : List Value → List Value} {gV : List V → List V}
/-- f(k = v, ..): keywords alone -/
def tCallK0 (m : Nat) (sp : Sp) (gV : List V → List V) (E : XK) (tk : TA) : TE := fun σ H Q => tk σ H fun zs H2 => zs.length = m ∧ sp (gV zs) H2 Q E
theorem pe_callK0 (F : FnOk X.prog X.w X.K X.mg X.base CX k f fd ps sp) (hr : Room k X.A) (hg : Gl X x) (hm : X.mg x = some (.ref f)) (hk : PySem.W.keepIn X.K (.ref f) = true) (hb : KB0 X.K fd ps ks g gV) (hx : Passes CX X E)
    (hkw : PK X kws tk) (hall : (backToKw pos (keywordEach kws X.env)).all (·.1.isSome) = true := by rfl) (hks : (backToKw pos (keywordEach kws X.env)).filterMap (·.1) = ks := by rfl)
    (hdb : (x == ("__debug__" : Str)) = false := by decide) (hpl : ((backTo pos (starEach [] X.env)).any (·.1) || (backToKw pos (keywordEach kws X.env)).any (·.1.isNone)) = false := by rfl) :
    PE X (.Call (.Name x p) [] kws pos) (tCallK0 ks.length sp gV E tk) := by
  refine ⟨fun pins s σ H Q I h => wpAny_Call_Name_kw (ld_glob I hg hm ?_ hdb)⟩
  refine PySem.W.callWith_KW0 (h₀ := X.base) I.ok.mod.kin hk hall ?_ hpl
  refine thn (hkw.run pos pins s σ H _ I h) fun ws s2 ⟨zs, H2, I2, rz, l2, q2⟩ => ⟨I2.kIn, ?_⟩
  rw [hks, List.append_nil]
  have hw : ws.length = ks.length := by rw [← rz.length]; exact l2
  refine wpAny_call (codeAny_mono (F.run X.A X.stack s2 H2 ⟨[], ks.zip ws⟩ (g ws) (gV zs) Q E hr I2.env0 (hb.to s2 ws hw) (hb.rel rz) q2) fun r s' hq => ?_)
  cases r with
  | error e => exact hx pins σ H2 s2 e s' I2 hq
  | ok fl =>
    cases fl with
    | ret u => exact I2.after hq
    | next => exact hq.elim
    | brk => exact hq.elim
    | cont => exact hq.elim
end
/-- .. of a def of the text -/
theorem kb0 {K : PySem.W.Frag} {x qual : Str} {st : Stmt} {f : Addr} {fd : FuncData} {ps ks : List Str} {g : List Value → List Value} {gV : List V → List V} (F : Fun K x qual st f fd)
    (h : ∀ (kV doc pm : Value) (an : Option Addr) (cdv ct : Value) (ws : List Value), ws.length = ks.length → bindArgs (PySem.W.fnOf x qual (defArgs st) (defBody st) (defScope st) .none kV doc pm an cdv ct) ⟨[], ks.zip ws⟩ = pure (ps.zip (g ws)))
    (r : ∀ {zs : List V} {ws : List Value}, Vals zs ws → Vals (gV zs) (g ws)) : KB0 K fd ps ks g gV := by
  obtain ⟨oc, od, kV, doc, pm, an, cdv, ct, osl, rfl, lk, hcd⟩ := F.ex
  exact ⟨fun s ws hl => .of_eq (h kV doc pm an cdv ct ws hl), r⟩
/-! ### the end of a law over such a promise -/
section
variable {P : Program} {w : World} {K : PySem.W.Frag} {mg mb : Str → Option Value} {k : Nat} {fa a : Addr} {fd : FuncData} {x : Str} {sp : Sp} {s₁ : Shared} {vs : List Value} {ns : List Int}
/-- the call of the law, from an abstract heap that tracks the script at most -/
theorem enterG {H : Hp} (KX : K.In s₁.heap) (hns : s₁.heap.Ns mainGlobals mg) (hb : s₁.heap.Ns builtinsNs mb) (hbb : ∀ x : Str, x ≠ "__name__" → mb x = bootBuiltins x) (hlim : s₁.heap.NoLimit) (hg : s₁.gens = #[])
    (hscript : ∃ o : Obj, s₁.heap.get? a = some o ∧ ∀ es ep, o.data ≠ .dict es ep) (hr : Room k callerA)
    (F : ∀ base : Heap, K.In base → base.Ns mainGlobals mg → FnG P w K mg base k fa fd [x] sp) (hbind : ∀ (s : Shared) (u : Value), BindsTo s fd ⟨[u], []⟩ [(x, u)])
    (hsp : sp [.ref a] H (fun v _ => v = .bl true) E0) (hO : Only H) (hok : HOk P w H s₁.heap) (hA : ∀ b, H b ≠ none → b = a) (hK : H a ≠ none → K.lookup a = none) :
    codeAny (model P w) callerA (.call (.ref fa) ⟨[.ref a], []⟩) (fun r s' => r = .ok (.ret (.bool true)) ∧ OldK s₁.heap s'.heap ∧ s'.os = s₁.os ∧ AllBare s'.gens) s₁ := by
  obtain ⟨os, hs1, hs2⟩ := hscript
  have apart : ∀ b : Addr, H b ≠ none → (∀ o es ep, s₁.heap.get? b = some o → o.data = .dict es ep → False) := fun b hb o es ep e d => by
    rw [hA b hb, hs1] at e
    cases e
    exact hs2 es ep d
  have nsK : ∀ {b : Addr} {m : Str → Option Value}, s₁.heap.Ns b m → (hidT s₁.heap H).Ns b m := fun {b m} ⟨o, es, ep, e, d, r⟩ => by
    refine ⟨o, es, ep, hidT_get e ?_, d, r⟩
    cases q : H b with
    | none => rfl
    | some u => exact (apart b (by rw [q]; exact fun z => nomatch z) o es ep e d).elim
  have hKb : K.In (hidT s₁.heap H) := fun b o e => hidT_get (KX b o e) (by
    cases q : H b with
    | none => rfl
    | some u =>
      have e' : b = a := hA b (by rw [q]; exact fun z => nomatch z)
      rw [e'] at e q
      rw [hK (by rw [q]; exact fun z => nomatch z)] at e
      cases e)
  have hM : Mod K mg (hidT s₁.heap H) := ⟨hKb, nsK hns, ⟨mb, nsK hb, hbb⟩, let ⟨mc, h1, h2⟩ := hlim; ⟨mc, nsK h1, h2⟩⟩
  have e0 : Env0 P w K mg (hidT s₁.heap H) callerA [] s₁ H :=
    ⟨rfl, hM, fun b o e => of_hidT e, Nat.le_of_eq (hidT_size _ _), trivial, fun b hb => absurd hb List.not_mem_nil, hok, .of_eq hg⟩
  refine codeAny_mono ((F _ hKb (nsK hns)).run callerA [] s₁ H ⟨[.ref a], []⟩ [.ref a] [.ref a] _ rfl hr e0 (hbind s₁ (.ref a)) (.cons rfl .nil) hsp) fun r s' h => ?_
  cases r with
  | error e => exact h.elim
  | ok fl =>
    cases fl with
    | next => exact h.elim
    | brk => exact h.elim
    | cont => exact h.elim
    | ret u =>
      obtain ⟨v, H', os', bare, un, hok', r', q⟩ := h
      obtain rfl : v = .bl true := q
      obtain rfl : u = Value.bool true := r'
      refine ⟨rfl, OldK.of_keep fun b o e => ?_, os', bare⟩
      cases q : H b with
      | none => exact un.keep b o e q List.not_mem_nil List.not_mem_nil
      | some u =>
        rcases hO b with z | ⟨ob, xs, z⟩
        · rw [q] at z
          cases z
        · obtain ⟨e1, _⟩ := hok b _ z
          obtain ⟨e2, _⟩ := hok' b _ (un.frzs b ob _ z)
          rw [e] at e1
          cases e1
          exact e2
theorem callG (KX : K.In s₁.heap) (hns : s₁.heap.Ns mainGlobals mg) (hb : s₁.heap.Ns builtinsNs mb) (hbb : ∀ x : Str, x ≠ "__name__" → mb x = bootBuiltins x) (hlim : s₁.heap.NoLimit) (hg : s₁.gens = #[])
    (ha : s₁.heap.get? a = some { cls := .type "list", data := .seq vs.toArray }) (hi : IntsAre vs ns) (hl : ns.length ≤ sizeLine) (hr : Room k callerA)
    (F : ∀ base : Heap, K.In base → base.Ns mainGlobals mg → FnG P w K mg base k fa fd [x] sp) (hbind : ∀ (s : Shared) (u : Value), BindsTo s fd ⟨[u], []⟩ [(x, u)])
    (hsp : ∀ H : Hp, Only H → SqL K H a (ns.map V.int) → sp [.ref a] H (fun v _ => v = .bl true) E0) :
    codeAny (model P w) callerA (.call (.ref fa) ⟨[.ref a], []⟩) (fun r s' => r = .ok (.ret (.bool true)) ∧ OldK s₁.heap s'.heap ∧ s'.os = s₁.os ∧ AllBare s'.gens) s₁ := by
  have rv := vals_ints hi
  have hsc : ∃ o : Obj, s₁.heap.get? a = some o ∧ ∀ es ep, o.data ≠ .dict es ep := ⟨_, ha, fun _ _ z => nomatch z⟩
  cases hk : K.lookup a with
  | some o =>
    have e := KX a o hk
    rw [ha] at e
    cases e
    refine enterG (H := fun _ => none) KX hns hb hbb hlim hg hsc hr F hbind (hsp _ (fun _ => .inl rfl) (.inr ⟨_, vs.toArray, _, hk, rfl, rfl, rfl, by rw [List.size_toArray, hi.length]; exact hl, by simpa using rv⟩))
      (fun _ => .inl rfl) (fun b u z => nomatch (show (none : Option HO) = some u from z)) (fun b z => absurd rfl z) fun z => absurd rfl z
  | none =>
    have one : ∀ {b : Addr} {u : HO}, (if b = a then some (HO.frz { cls := .type "list", data := .seq vs.toArray } (.lst (ns.map V.int))) else none) = some u → b = a := fun {b u} z => by
      by_cases q : b = a
      · exact q
      · rw [if_neg q] at z
        cases z
    have hO : Only (fun b => if b = a then some (HO.frz { cls := .type "list", data := .seq vs.toArray } (.lst (ns.map V.int))) else none) := fun b => by
      by_cases q : b = a
      · exact .inr ⟨_, _, if_pos q⟩
      · exact .inl (if_neg q)
    refine enterG KX hns hb hbb hlim hg hsc hr F hbind (hsp _ hO (.inl (.inr ⟨_, if_pos rfl⟩))) hO (fun b u z => ?_) (fun b z => ?_) fun _ => hk
    · have q := one z
      subst q
      have z' := (if_pos rfl).symm.trans z
      cases z'
      exact ⟨ha, by rw [List.length_map]; exact hl, vs, _, rv, ha⟩
    · cases q : (if b = a then some (HO.frz { cls := .type "list", data := .seq vs.toArray } (.lst (ns.map V.int))) else none) with
      | none => exact absurd q z
      | some u => exact one q
end
/-- the goal that the head leaves, from the law's promise -/
theorem walkG {l : PySem.W.OpenLaw} {n k : Nat} {q : Program} {loose : List Str} {XP : (Str → Option Value) → Heap → Prop} {YP : World → Heap → Prop} {d : DefRec} {K : Params → PySem.W.Frag} {sp : PySem.W.Frag → Sp} {x : Str}
    (hn : l.most = some n) (hn2 : n ≤ sizeLine) (hdf : d.params.defaults = []) (hr : Room k callerA) (hY : ∀ (w : World) (h : Heap), YP w h → (K w.params).In h)
    (F : ∀ (w : World) (mg : Str → Option Value) (fa : Addr) (h : Heap), (K w.params).In h → h.Ns mainGlobals mg → mg d.name = some (.ref fa) →
      ∃ fd : FuncData, (∀ (s : Shared) (u : Value), BindsTo s fd ⟨[u], []⟩ [(x, u)]) ∧
        ∀ base : Heap, (K w.params).In base → base.Ns mainGlobals mg → FnG l.prog w (K w.params) mg base k fa fd [x] (sp (K w.params)))
    (hsp : ∀ (K : PySem.W.Frag) (H : Hp) (a : Addr) (ns : List Int), ns.length ≤ n → Only H → SqL K H a (ns.map V.int) → sp K [.ref a] H (fun v _ => v = .bl true) E0) :
    PySem.W.WalkO q loose XP YP l.row.toRowW d [] (fun f vs => PySem.call f vs) := by
  refine Att.attach_call hn hdf fun w s₀ s₁ mg mb fa o pm cd doc a vs ns G Y ho hd hcd hmg hobj hints hlen hg => ?_
  have KX := hY w _ Y
  obtain ⟨fd, hb, hF⟩ := F w mg fa _ KX G.T.g hmg
  exact callG KX G.T.g G.T.b G.T.builtins G.T.nolimit hg hobj hints (Nat.le_trans hlen hn2) hr hF hb fun H hO hS => hsp _ H a ns hlen hO hS
/-! ### repr of data -/
section
variable {X : Cx}
/-- repr(x), x an object that holds data -/
def rRepr (K : PySem.W.Frag) : List V → Hp → VK → Prop := fun xs H Q => ∃ (a : Addr) (d : PyData), xs = [.ref a] ∧ Dp K H (.ref a) d ∧ d.showable = true ∧ d.hasDict = false ∧ d.depth ≤ 60 ∧ d.shown.length ≤ sizeLine ∧ Q (.str d.shown) H
theorem cr_repr {k : Nat} (hgd : Gd X.A) (hr : Room k X.A) : CallR X (.builtin "repr") (rRepr X.K) := by
  intro pins s σ H xs us Q I r h
  obtain ⟨a, d, rfl, hd, hs, hn, hdp, hz, q⟩ := h
  obtain ⟨u, rfl, ru⟩ := Vals.one r
  cases ru
  obtain ⟨as, rd⟩ := Dp.reads I d _ _ hd rfl
  have hu := hr.un
  refine repr_of_reads' rd hs (fun z => by rw [hn] at z; cases z) hgd (by omega) (fun _ _ e => e) (fun h' u tk hk => ?_) hz
  exact ⟨.str d.shown, H, I.kept hk, ⟨u, rfl⟩, q⟩
end
end Zg
set_option Elab.async false
set_option linter.all false
set_option maxRecDepth 100000
set_option maxHeartbeats 4000000
/-! Zr: some rules of values: xs.extend(a tuple), t * 1. -/
namespace Zr
open PySem PySem.Spec PyProof.Rows L2
theorem extend_tup (l : Addr) (items : Array Value) (n : Nat) (b : Addr) (items2 : Array Value) (n2 : Nat) (dd : Option Addr) (sl : Array (Option Value)) (hs0 : ¬(!items.isEmpty && Builtin.List.listTooLong (items.size + items2.size)) = true) (hs1 : items.size ≤ sizeLine) (hs2 : items.size + items2.size ≤ sizeLine + 1) :
    Meets (Builtin.«list.extend» ⟨[.ref l, .ref b], []⟩) (fun _ R s => s.heap.get? l = some { cls := .type "list", dict := none, data := .seq items n, slots := #[] } ∧ s.heap.get? b = some { cls := .type "tuple", dict := dd, data := .seq items2 n2, slots := sl } ∧
      R (.ok (.ret Value.none)) { s with heap := s.heap.update l (Obj.mapSeq fun x => x ++ items2), toks := s.toks }) :=
  .of_wp fun prog w A R s h => by
    obtain ⟨hp, g, d, tk, os⟩ := s
    obtain ⟨hl, hb, h⟩ := h
    have f1 := AutoSeq1.idx_int
    have f2 := AutoSeq1.sub_tuple_tuple
    have f3 := AutoSeq1.sub_list_list
    have f4 := AutoSeq1.sub_tuple_list
    have f5 := AutoSeq1.sub_list_tuple
    have hz' : (items ++ items2).size ≤ sizeLine + 1 := by rw [Array.size_append]; exact hs2
    wp_walk using (wpAny_updateSeq hl rfl (hz := hs1) (_hz' := hz')), wpAny_loadPart' hl, wpAny_loadPart' hb
    exact ⟨_, rfl, h⟩
theorem tuple_mul1 (l : Addr) (items : Array Value) (n : Nat) (dd : Option Addr) (sl : Array (Option Value)) (u : Tok) :
    Meets (Builtin.«tuple.__mul__» ⟨[.ref l, .int 1 u], []⟩) (fun _ R s => s.heap.get? l = some { cls := .type "tuple", dict := dd, data := .seq items n, slots := sl } ∧ R (.ok (.ret (Value.ref l))) s) :=
  .of_wp fun prog w A R s h => by
    obtain ⟨hp, g, d, tk, os⟩ := s
    obtain ⟨hl, h⟩ := h
    have f1 := AutoSeq1.idx_int
    have c0 : (decide ((1 : Int) < -(2 ^ 63)) || decide ((1 : Int) ≥ 2 ^ 63)) = false := by decide
    have c1 : (items.isEmpty || (1 : Int) == 1) = true := by simp
    wp_walk using wpAny_loadPart' hl
    repeat (first
      | (refine wpAny_ite_false (decide_eq_false (by rw [c0]; exact Bool.false_ne_true)) ?_; wp_walk using wpAny_loadPart' hl)
      | (refine wpAny_ite_true (decide_eq_true c1) ?_; wp_walk using wpAny_loadPart' hl))
    exact ⟨_, rfl, h⟩
section
variable {X : Cx}
def rExtT (K : PySem.W.Frag) : V → List V → Hp → VK → Prop := fun x vs H Q => ∃ l b xs zs, x = .ref l ∧ vs = [.ref b] ∧ H l = some (.lst xs) ∧ SqT K H b zs ∧ xs.length + zs.length ≤ sizeLine ∧ Q .non (upd H l (.lst (xs ++ zs)))
theorem mt_extT : MtM X "list.extend" (rExtT X.K) := by
  intro pins s σ H x vs v us Q I rx rv h
  obtain ⟨l, b, xs, zs, rfl, rfl, hH, hB, hz, q⟩ := h
  cases rx
  obtain ⟨u, rfl, ru⟩ := rv.one
  cases ru
  obtain ⟨z, its, n, r, hl, e⟩ := I.lstM hH
  obtain ⟨its2, r2, ⟨⟨cls, dd, data, sl⟩, ho, hc, n2, hd⟩, _⟩ := I.tuple hB
  simp only at hc hd
  subst hc hd
  have hl2 := r2.length
  have hsz : its.toArray.size + its2.toArray.size ≤ sizeLine := by rw [List.size_toArray, List.size_toArray]; omega
  have hlong : ¬ (!its.toArray.isEmpty && Builtin.List.listTooLong (its.toArray.size + its2.toArray.size)) = true := by
    rw [notLongL hsz, Bool.and_false]
    exact Bool.false_ne_true
  refine call_meets F.slot_list_extend ⟨_, e, rfl⟩ F.entry_list_extend (F.args_list_extend_2 _ _)
    (extend_tup l its.toArray n b its2.toArray n2 dd sl hlong (by rw [List.size_toArray]; omega) (by omega)) ⟨e, ho, ?_⟩
  refine ⟨.non, _, I.lset (its' := its ++ its2) hH e (by simp) (r.append r2) ?_, rfl, q⟩
  rw [List.length_append]
  omega
/-- t * k, k from 1 on -/
def rRep1 (K : PySem.W.Frag) : R2 := fun x y H Q => ∃ l k xs, x = .ref l ∧ y = .int k ∧ SqT K H l xs ∧ xs ≠ [] ∧ 1 ≤ k ∧ k ≤ 1000 ∧ xs.length ≤ 1000 ∧ (k = 1 → Q (.ref l) H) ∧ (k ≠ 1 → ∀ p, H p = none → Q (.ref p) (upd H p (.tup (List.replicate k.toNat xs).flatten)))
theorem op_rep1 : OpR X (binaryOp .Mult) (rRep1 X.K) := by
  intro pins s σ H x y v u Q I rx ry h
  obtain ⟨l, k, xs, rfl, rfl, hT, hne, h1, h2, hz, q1, q2⟩ := h
  by_cases hk : k = 1
  · subst hk
    cases rx
    obtain ⟨t, rfl⟩ := ry
    obtain ⟨its, r, ⟨⟨cls, dd, data, sl⟩, ho, hc, n, hd⟩, hs⟩ := I.tuple hT
    simp only at hc hd
    subst hc hd
    refine wpAny_binaryOp_repeat_ref (T := "tuple") (U := "int") (by decide) ⟨_, ho, rfl⟩ (fun s' => typeIs_int s' 1 t) noFill_tuple_mul F.fills_int_mul F.slot_int_rmul repeat_tuple F.slot_int_index.lookup
      (call_meets F.slot_int_rmul (typeIs_int s 1 t) F.entry_int_rmul (F.args_int_rmul_2 _ _) (int_rmul_tuple 1 t l its.toArray n dd sl)
        ⟨ho, rfl, ⟨_, ho, rfl⟩, call_meets F.slot_tuple_mul ⟨_, ho, rfl⟩ F.entry_tuple_mul (F.args_tuple_mul_2 _ _) (tuple_mul1 l its.toArray n dd sl t) ⟨ho, ?_⟩⟩)
    exact ⟨.ref l, H, I, rfl, q1 rfl⟩
  · exact op_repT pins s σ H _ _ v u Q I rx ry ⟨l, k, xs, rfl, rfl, hT, hne, by omega, h2, hz, q2 hk⟩
end
end Zr
set_option Elab.async false
set_option linter.all false
set_option maxRecDepth 100000
set_option maxHeartbeats 4000000
/-! Zd: data whose leaves are small: they can be shown, compared. -/
namespace Zd
open PySem PySem.Spec PyProof.Rows L2
mutual
def okd : PyData → Bool
  | .none | .bool _ => true
  | .int i => decide (i.natAbs < 10 ^ 40)
  | .str x => PyData.strOk x
  | .list xs | .tuple xs => okAll xs
  | .dict _ => false
def okAll : List PyData → Bool
  | [] => true
  | x :: xs => okd x && okAll xs
end
theorem okAll_iff : ∀ {l : List PyData}, okAll l = true ↔ ∀ d ∈ l, okd d = true
  | [] => by simp [okAll]
  | x :: l => by
    rw [okAll, Bool.and_eq_true, okAll_iff (l := l)]
    simp
theorem int_log {i : Int} (h : i.natAbs < 10 ^ 40) : i.natAbs.log2 < 1920 :=
  Nat.lt_of_lt_of_le (PySem.Flt.log2_lt_of (n := i.natAbs) (k := 133) (by decide) (Nat.lt_trans h (by decide))) (by decide)
mutual
theorem okd_short : ∀ d : PyData, okd d = true → d.leavesShort 44 = true
  | .none, _ => rfl
  | .bool _, _ => rfl
  | .int i, h => by
    have h' : i.natAbs < 10 ^ 40 := of_decide_eq_true h
    have q := int_text_length_le10 (k := 40) (by decide) h'
    show decide ((PyData.shown (.int i)).length ≤ 44) = true
    refine decide_eq_true ?_
    show (PySem.Str.ofString (toString i)).length ≤ 44
    rw [PySem.ofString_length]
    omega
  | .str x, h => by
    have h' : x.cps.all (· < 0x110000) = true := h
    show x.cps.toList.all (fun c => decide (c < 16 ^ 8)) = true
    rw [List.all_eq_true]
    intro c hc
    rw [Array.all_eq_true'] at h'
    have q := h' c (by simpa using hc)
    have q' : c < 0x110000 := by simpa using q
    exact decide_eq_true (Nat.lt_trans q' (by decide))
  | .list xs, h => okAll_short xs h
  | .tuple xs, h => okAll_short xs h
  | .dict _, h => by cases h
theorem okAll_short : ∀ l : List PyData, okAll l = true → PyData.leavesShortAll 44 l = true
  | [], _ => rfl
  | x :: l, h => by
    rw [okAll, Bool.and_eq_true] at h
    show (PyData.leavesShort 44 x && PyData.leavesShortAll 44 l) = true
    rw [okd_short x h.1, okAll_short l h.2]
    rfl
end
mutual
theorem okd_show : ∀ d : PyData, okd d = true → d.showable = true ∧ d.canLay0 = true ∧ d.hasDict = false
  | .none, _ => ⟨rfl, rfl, rfl⟩
  | .bool _, _ => ⟨rfl, rfl, rfl⟩
  | .int i, h => ⟨decide_eq_true (int_log (of_decide_eq_true h)), rfl, rfl⟩
  | .str x, h => ⟨rfl, h, rfl⟩
  | .list xs, h => okAll_show xs h
  | .tuple xs, h => okAll_show xs h
  | .dict _, h => by cases h
theorem okAll_show : ∀ l : List PyData, okAll l = true → PyData.showableAll l = true ∧ PyData.canLayAll0 l = true ∧ PyData.hasDictAll l = false
  | [], _ => ⟨rfl, rfl, rfl⟩
  | x :: l, h => by
    rw [okAll, Bool.and_eq_true] at h
    obtain ⟨a1, a2, a3⟩ := okd_show x h.1
    obtain ⟨b1, b2, b3⟩ := okAll_show l h.2
    refine ⟨?_, ?_, ?_⟩
    · show (PyData.showable x && PyData.showableAll l) = true
      rw [a1, b1]; rfl
    · show (PyData.canLay0 x && PyData.canLayAll0 l) = true
      rw [a2, b2]; rfl
    · show (PyData.hasDict x || PyData.hasDictAll l) = false
      rw [a3, b3]; rfl
end
theorem okd_fits {d : PyData} (h : okd d = true) (hb : d.bulk ≤ 300000) : d.shown.length ≤ sizeLine := by
  have q := PyData.shown_le_bulk 44 (by decide) d (okd_short d h)
  rw [sizeLine_eq]
  omega
theorem shaped_of {d : PyData} (h : okd d = true) (hd : d.depth ≤ 60) : SeqAt.shaped d = true := by
  show (d.canLay0 && decide (d.depth ≤ 64)) = true
  rw [(okd_show d h).2.1, decide_eq_true (by omega)]
  rfl
/-- repr(x), x an object that holds small data -/
theorem repr_of {K : PySem.W.Frag} {a : Addr} {d : PyData} {H : Hp} {Q : VK} (hd : Dp K H (.ref a) d) (h : okd d = true) (hp : d.depth ≤ 60) (hb : d.bulk ≤ 300000) (q : Q (.str d.shown) H) : Zg.rRepr K [.ref a] H Q :=
  ⟨a, d, rfl, hd, (okd_show d h).1, (okd_show d h).2.2, hp, okd_fits h hb, q⟩
theorem dpAll_of {K : PySem.W.Frag} {H : Hp} {α : Type} (f : α → V) (g : α → PyData) : ∀ {l : List α}, (∀ x ∈ l, Dp K H (f x) (g x)) → DpAll K H (l.map f) (l.map g)
  | [], _ => .nil
  | x :: l, h => .cons (h x List.mem_cons_self) (dpAll_of f g fun y hy => h y (List.mem_cons_of_mem _ hy))
theorem dp_ints {K : PySem.W.Frag} {H : Hp} (ns : List Int) : DpAll K H (ns.map V.int) (ns.map PyData.int) := dpAll_of V.int PyData.int fun x _ => .int x
mutual
theorem dp_mono {K : PySem.W.Frag} {H H' : Hp} (k : ∀ a o, H a = some o → H' a = some o) : ∀ (d : PyData) (v : V), Dp K H v d → Dp K H' v d
  | _, _, .non => .non
  | _, _, .bl b => .bl b
  | _, _, .int i => .int i
  | _, _, .str x => .str x
  | _, _, .lst (xs := xs) (ds := ds) hs ha => .lst (by
      rcases hs with (h | ⟨o, h⟩) | h
      · exact .inl (.inl (k _ _ h))
      · exact .inl (.inr ⟨o, k _ _ h⟩)
      · exact .inr h) (dpAll_mono k ds xs ha)
  | _, _, .tup (xs := xs) (ds := ds) hs ha => .tup (by
      rcases hs with (h | ⟨o, h⟩) | h
      · exact .inl (.inl (k _ _ h))
      · exact .inl (.inr ⟨o, k _ _ h⟩)
      · exact .inr h) (dpAll_mono k ds xs ha)
theorem dpAll_mono {K : PySem.W.Frag} {H H' : Hp} (k : ∀ a o, H a = some o → H' a = some o) : ∀ (ds : List PyData) (vs : List V), DpAll K H vs ds → DpAll K H' vs ds
  | _, _, .nil => .nil
  | _, _, .cons h t => .cons (dp_mono k _ _ h) (dpAll_mono k _ _ t)
end
theorem depth_ints : ∀ ns : List Int, PyData.depthAll (ns.map PyData.int) = 0
  | [] => rfl
  | n :: r => by
    show max 0 (PyData.depthAll (r.map PyData.int)) = 0
    rw [depth_ints r]
    rfl
theorem lay_ints : ∀ ns : List Int, PyData.canLayAll0 (ns.map PyData.int) = true
  | [] => rfl
  | n :: r => lay_ints r
theorem shaped_ints (ns : List Int) : SeqAt.shaped (.list (ns.map PyData.int)) = true := by
  show (PyData.canLayAll0 (ns.map PyData.int) && decide (PyData.depthAll (ns.map PyData.int) + 1 ≤ 64)) = true
  rw [lay_ints, depth_ints]
  rfl
theorem eqv_empty (ns : List Int) : PyData.eqv (.list (ns.map PyData.int)) (.list []) = ns.isEmpty := by
  cases ns <;> rfl
end Zd
set_option Elab.async false
set_option linter.all false
set_option maxRecDepth 100000
set_option maxHeartbeats 4000000
/-! Zv: values of any kind: none, bools, ints, texts, lists, tuples, empty dicts, none of whose objects is one of S. -/
namespace Zv
open PySem PySem.Spec PyProof.Rows L2 Zg Zd
/-! ### the heap but for some -/
/-- all that was tracked but at the addresses of S is as it was -/
def Kp (S : List Addr) (H H' : Hp) : Prop := ∀ a o, a ∉ S → H a = some o → H' a = some o
theorem Kp.refl (S : List Addr) (H : Hp) : Kp S H H := fun _ _ _ e => e
theorem Kp.trans {S : List Addr} {H H1 H2 : Hp} (a : Kp S H H1) (b : Kp S H1 H2) : Kp S H H2 := fun x o n e => b x o n (a x o n e)
theorem Kp.new {S : List Addr} {H : Hp} {p : Addr} {o : HO} (h : H p = none) : Kp S H (upd H p o) := fun a u _ e => by
  rw [upd_ne (ne_of_none e h)]
  exact e
theorem Kp.wr {S : List Addr} {H H' : Hp} {p : Addr} {o : HO} (k : Kp S H H') (h : p ∈ S ∨ H p = none) : Kp S H (upd H' p o) := fun a u n e => by
  have q : a ≠ p := fun z => by
    subst z
    rcases h with h | h
    · exact n h
    · rw [h] at e
      cases e
  rw [upd_ne q]
  exact k a u n e
theorem Kp.of {S : List Addr} {H H' : Hp} (k : Same H H') : Kp S H H' := fun a o _ e => k a o e
theorem Kp.sub {S S' : List Addr} {H H' : Hp} (h : Kp S H H') (e : ∀ a ∈ S, a ∈ S') : Kp S' H H' := fun a o n => h a o fun m => n (e a m)
theorem Kp.free {S : List Addr} {H H' : Hp} (k : Kp S H H') {p : Addr} (n : p ∉ S) (h : H' p = none) : H p = none := by
  cases q : H p with
  | none => rfl
  | some o =>
    rw [k p o n q] at h
    cases h
theorem Kp.seq {K : PySem.W.Frag} {S : List Addr} {H H' : Hp} {a : Addr} {xs : List V} (k : Kp S H H') (n : a ∉ S) (h : SqL K H a xs) : SqL K H' a xs := by
  rcases h with (h | ⟨o, h⟩) | h
  · exact .inl (.inl (k _ _ n h))
  · exact .inl (.inr ⟨o, k _ _ n h⟩)
  · exact .inr h
theorem same_new {H : Hp} {p : Addr} {o : HO} (hp : H p = none) : Same H (upd H p o) := fun b u e => by rw [upd_ne (ne_of_none e hp)]; exact e
/-! ### the values -/
mutual
inductive Dv (S : List Addr) (H : Hp) : V → PyData → Prop
  | non : Dv S H .non .none
  | bl (b : Bool) : Dv S H (.bl b) (.bool b)
  | int (i : Int) : Dv S H (.int i) (.int i)
  | str (x : Str) : Dv S H (.str x) (.str x)
  | lst {a : Addr} {xs : List V} {ds : List PyData} : H a = some (.lst xs) → a ∉ S → DvAll S H xs ds → Dv S H (.ref a) (.list ds)
  | tup {a : Addr} {xs : List V} {ds : List PyData} : H a = some (.tup xs) → a ∉ S → DvAll S H xs ds → Dv S H (.ref a) (.tuple ds)
  | dic {a : Addr} : H a = some (.dK []) → a ∉ S → Dv S H (.ref a) (.dict [])
inductive DvAll (S : List Addr) (H : Hp) : List V → List PyData → Prop
  | nil : DvAll S H [] []
  | cons {v : V} {vs : List V} {d : PyData} {ds : List PyData} : Dv S H v d → DvAll S H vs ds → DvAll S H (v :: vs) (d :: ds)
end
mutual
theorem Dv.kp {S : List Addr} {H H' : Hp} (k : Kp S H H') : ∀ {v : V} {d : PyData}, Dv S H v d → Dv S H' v d
  | _, _, .non => .non
  | _, _, .bl b => .bl b
  | _, _, .int i => .int i
  | _, _, .str x => .str x
  | _, _, .lst h n t => .lst (k _ _ n h) n (DvAll.kp k t)
  | _, _, .tup h n t => .tup (k _ _ n h) n (DvAll.kp k t)
  | _, _, .dic h n => .dic (k _ _ n h) n
theorem DvAll.kp {S : List Addr} {H H' : Hp} (k : Kp S H H') : ∀ {vs : List V} {ds : List PyData}, DvAll S H vs ds → DvAll S H' vs ds
  | _, _, .nil => .nil
  | _, _, .cons h t => .cons (Dv.kp k h) (DvAll.kp k t)
end
mutual
theorem Dv.sub {S S' : List Addr} {H : Hp} (e : ∀ a ∈ S', a ∈ S) : ∀ {v : V} {d : PyData}, Dv S H v d → Dv S' H v d
  | _, _, .non => .non
  | _, _, .bl b => .bl b
  | _, _, .int i => .int i
  | _, _, .str x => .str x
  | _, _, .lst h n t => .lst h (fun m => n (e _ m)) (DvAll.sub e t)
  | _, _, .tup h n t => .tup h (fun m => n (e _ m)) (DvAll.sub e t)
  | _, _, .dic h n => .dic h (fun m => n (e _ m))
theorem DvAll.sub {S S' : List Addr} {H : Hp} (e : ∀ a ∈ S', a ∈ S) : ∀ {vs : List V} {ds : List PyData}, DvAll S H vs ds → DvAll S' H vs ds
  | _, _, .nil => .nil
  | _, _, .cons h t => .cons (Dv.sub e h) (DvAll.sub e t)
end
theorem DvAll.append {S : List Addr} {H : Hp} : ∀ {vs ws : List V} {ds es : List PyData}, DvAll S H vs ds → DvAll S H ws es → DvAll S H (vs ++ ws) (ds ++ es)
  | _, _, _, _, .nil, h => h
  | _, _, _, _, .cons a t, h => .cons a (DvAll.append t h)
theorem DvAll.length {S : List Addr} {H : Hp} : ∀ {vs : List V} {ds : List PyData}, DvAll S H vs ds → vs.length = ds.length
  | _, _, .nil => rfl
  | _, _, .cons _ t => by rw [List.length_cons, List.length_cons, DvAll.length t]
theorem DvAll.drop {S : List Addr} {H : Hp} : ∀ (n : Nat) {vs : List V} {ds : List PyData}, DvAll S H vs ds → DvAll S H (vs.drop n) (ds.drop n)
  | 0, _, _, h => h
  | n + 1, _, _, .nil => .nil
  | n + 1, _, _, .cons _ t => DvAll.drop n t
theorem DvAll.take {S : List Addr} {H : Hp} : ∀ (n : Nat) {vs : List V} {ds : List PyData}, DvAll S H vs ds → DvAll S H (vs.take n) (ds.take n)
  | 0, _, _, _ => .nil
  | n + 1, _, _, .nil => .nil
  | n + 1, _, _, .cons h t => .cons h (DvAll.take n t)
theorem DvAll.get {S : List Addr} {H : Hp} : ∀ {vs : List V} {ds : List PyData}, DvAll S H vs ds → ∀ {i : Nat} {v : V}, vs[i]? = some v → ∃ d, ds[i]? = some d ∧ Dv S H v d
  | _, _, .nil, i, v, e => by cases e
  | _, _, .cons (d := d) h t, 0, v, e => ⟨d, rfl, by cases e; exact h⟩
  | _, _, .cons h t, i + 1, v, e => DvAll.get t (i := i) e
section
variable {X : Cx} {pins : List (Addr × Obj)} {σ : L2.St} {H : Hp} {s : Shared} {S : List Addr}
/-- the object of an empty dict -/
theorem dic_at (I : Inv X pins σ H s) {a : Addr} (h : H a = some (.dK [])) : (a == sysModules) = false ∧ ∃ o n, s.heap.get? a = some o ∧ o.cls = .type "dict" ∧ o.data = .dict #[] n := by
  obtain ⟨_, hd, vs, kv, o, es, ep, h1, h2, h3, h4, h5, h6⟩ := dk_rd I.hok (.inl h)
  refine ⟨hd, o, ep, h1, h2.1, ?_⟩
  cases kv
  have e : es.toList = [] := by
    cases h5' : es.toList with
    | nil => rfl
    | cons x l => rw [h5'] at h5; cases h5
  have e2 : es = #[] := by
    obtain ⟨l⟩ := es
    simp only at e
    rw [e]
  rw [h3, e2]
mutual
theorem Dv.reads (I : Inv X pins σ H s) : ∀ {v : V} {d : PyData} (u : Value), Dv S H v d → RelV v u → ∃ as, Reads s.heap u d as
  | _, _, _, .non, r => by cases r; exact ⟨_, Reads.none⟩
  | _, _, _, .bl b, r => by cases r; exact ⟨_, Reads.bool b⟩
  | _, _, _, .int i, r => by obtain ⟨t, rfl⟩ := r; exact ⟨_, Reads.int i t⟩
  | _, _, _, .str x, r => by obtain ⟨t, rfl⟩ := r; exact ⟨_, Reads.str x t⟩
  | _, _, _, .lst h n t, r => by
    cases r
    obtain ⟨z, its, m, rv, _, e⟩ := I.lstM h
    obtain ⟨as, q⟩ := DvAll.reads I its t rv
    exact ⟨_, Reads.list e rfl rfl q⟩
  | _, _, _, .tup h n t, r => by
    cases r
    obtain ⟨its, rv, ⟨o, ho, hc, m, hd⟩, _⟩ := I.tuple (X := X) (SqT.of h)
    obtain ⟨as, q⟩ := DvAll.reads I its t rv
    exact ⟨_, Reads.tuple ho hc hd q⟩
  | _, _, _, .dic h n, r => by
    cases r
    obtain ⟨_, o, m, h1, h2, h3⟩ := dic_at I h
    exact ⟨_, Reads.dict h1 h2 h3 .nil .nil⟩
theorem DvAll.reads (I : Inv X pins σ H s) : ∀ {vs : List V} {ds : List PyData} (us : List Value), DvAll S H vs ds → Vals vs us → ∃ as, ReadsAll s.heap us ds as
  | _, _, _, .nil, r => by cases r; exact ⟨_, ReadsAll.nil⟩
  | _, _, _, .cons h t, r => by
    cases r with
    | cons r1 r2 =>
      obtain ⟨as, q1⟩ := Dv.reads I _ h r1
      obtain ⟨bs, q2⟩ := DvAll.reads I _ t r2
      exact ⟨_, ReadsAll.cons q1 q2⟩
end
end
/-! ### repr -/
section
variable {X : Cx} {pins : List (Addr × Obj)} {σ : L2.St} {H : Hp} {s : Shared} {S : List Addr}
mutual
/-- how such a value shows within another -/
theorem Dv.under (I : Inv X pins σ H s) : ∀ {v : V} {d : PyData} (u : Value), Dv S H v d → RelV v u → d.showable = true → d.shown.length ≤ sizeLine → ∃ bs, ReadAtMost s.heap d.depth bs ∧ ReprK X.prog X.w bs s.heap d.depth u d.shown
  | _, _, _, .non, r, _, _ => by
    cases r
    exact ⟨[], fun _ h => (nomatch h), ReprK.of_is ReprIs.none _ _ _⟩
  | _, _, _, .bl b, r, _, _ => by
    cases r
    exact ⟨[], fun _ h => (nomatch h), ReprK.of_is (ReprIs.bool b) _ _ _⟩
  | _, _, _, .int i, r, hs, _ => by
    obtain ⟨t, rfl⟩ := r
    exact ⟨[], fun _ h => (nomatch h), ReprK.of_is (ReprIs.int t (of_decide_eq_true hs)) _ _ _⟩
  | _, _, _, .str x, r, _, hz => by
    obtain ⟨t, rfl⟩ := r
    exact ⟨[], fun _ h => (nomatch h), ReprK.of_is (ReprIs.str x t hz) _ _ _⟩
  | _, _, _, .lst (a := a) (xs := xs) (ds := ds) h n t, r, hs, hz => by
    obtain ⟨as, hr⟩ := Dv.reads I _ (Dv.lst h n t) r
    cases r
    obtain ⟨_, its, m, rv, _, e⟩ := I.lstM h
    have hz' : (listText (PyData.shownAll ds)).length ≤ sizeLine := hz
    obtain ⟨bs, hb, hk⟩ := DvAll.under I its t rv hs fun x hx => Nat.le_trans (listText_mem_le hx) hz'
    have na : a ∉ bs := not_mem_of_deeper hr (Nat.lt_succ_self _) hb
    refine ⟨a :: bs, ReadAtMost.cons hr (Nat.le_succ _) hb, ?_⟩
    cases its with
    | nil =>
      cases rv
      cases t
      show ReprK X.prog X.w _ s.heap 1 (.ref a) (listText [])
      rw [listText_nil]
      exact ReprK.listEmpty e rfl rfl
    | cons y l => exact ReprK.list e rfl rfl na (by simpa using hk.length_eq) fun i z q => hk.item i z (by simpa using q)
  | _, _, _, .tup (a := a) (xs := xs) (ds := ds) h n t, r, hs, hz => by
    obtain ⟨as, hr⟩ := Dv.reads I _ (Dv.tup h n t) r
    cases r
    obtain ⟨its, rv, ⟨o, ho, hc, m, hd⟩, _⟩ := I.tuple (X := X) (SqT.of h)
    have hz' : (tupleText (PyData.shownAll ds)).length ≤ sizeLine := hz
    obtain ⟨bs, hb, hk⟩ := DvAll.under I its t rv hs fun x hx => Nat.le_trans (tupleText_mem_le hx) hz'
    have na : a ∉ bs := not_mem_of_deeper hr (Nat.lt_succ_self _) hb
    exact ⟨a :: bs, ReadAtMost.cons hr (Nat.le_succ _) hb, ReprK.tuple ho hc hd na (by simpa using hk)⟩
  | _, _, _, .dic (a := a) h n, r, hs, hz => by
    obtain ⟨as, hr⟩ := Dv.reads I _ (Dv.dic (S := S) h n) r
    cases r
    obtain ⟨lo, o, m, h1, h2, h3⟩ := dic_at I h
    refine ⟨[a], fun b hb => ?_, ReprK.dict (ps := []) h1 h2 h3 lo (fun z => nomatch z) .nil⟩
    rw [List.mem_singleton] at hb
    subst hb
    exact ⟨_, _, hr, Nat.le_refl _⟩
theorem DvAll.under (I : Inv X pins σ H s) : ∀ {vs : List V} {ds : List PyData} (us : List Value), DvAll S H vs ds → Vals vs us → PyData.showableAll ds = true → (∀ t ∈ PyData.shownAll ds, t.length ≤ sizeLine) →
    ∃ bs, ReadAtMost s.heap (PyData.depthAll ds) bs ∧ ReprAllK X.prog X.w bs s.heap (PyData.depthAll ds) us (PyData.shownAll ds)
  | _, _, _, .nil, r, _, _ => by
    cases r
    exact ⟨[], fun _ h => (nomatch h), .nil⟩
  | _, _, _, .cons (d := d) (ds := ds) h t, r, hs, hz => by
    cases r with
    | cons r1 r2 =>
      have hs' : (d.showable && PyData.showableAll ds) = true := hs
      rw [Bool.and_eq_true] at hs'
      obtain ⟨b1, q1, k1⟩ := Dv.under I _ h r1 hs'.1 (hz _ List.mem_cons_self)
      obtain ⟨b2, q2, k2⟩ := DvAll.under I _ t r2 hs'.2 fun x hx => hz x (List.mem_cons_of_mem _ hx)
      exact ⟨b1 ++ b2, (q1.mono (Nat.le_max_left _ _)).append (q2.mono (Nat.le_max_right _ _)),
        .cons ((k1.more fun b hb => List.mem_append_left _ hb).level_le (Nat.le_max_left _ _)) (k2.more_le (fun b hb => List.mem_append_right _ hb) (Nat.le_max_right _ _))⟩
end
end
section
variable {X : Cx}
/-- repr(x), x any such value -/
def rReprV (S : List Addr) : List V → Hp → VK → Prop := fun xs H Q => ∃ (v : V) (d : PyData), xs = [v] ∧ Dv S H v d ∧ d.showable = true ∧ d.depth ≤ 60 ∧ d.shown.length ≤ sizeLine ∧ Q (.str d.shown) H
theorem cr_reprV {S : List Addr} {k : Nat} (hgd : Gd X.A) (hr : Room k X.A) : CallR X (.builtin "repr") (rReprV S) := by
  intro pins s σ H xs us Q I r h
  obtain ⟨v, d, rfl, hd, hs, hdp, hz, q⟩ := h
  obtain ⟨u, rfl, ru⟩ := Vals.one r
  have hu := hr.un
  have hg1 : X.A.in1.guards = some [] := hgd
  have fin : ∀ (h' : Heap) (u : Tok) (tk : Nat), (∀ b o, s.heap.get? b = some o → h'.get? b = some o) → EP X pins σ Q (.str d.shown u) { s with heap := h', toks := tk } := fun h' u tk hk => ⟨.str d.shown, H, I.kept hk, ⟨u, rfl⟩, q⟩
  cases hd with
  | non => cases ru; exact PySem.P.repr_of_none ⟨.str _, H, I.tok _, ⟨_, rfl⟩, q⟩
  | bl b => cases ru; exact PySem.P.repr_of_bool ⟨.str _, H, I.tok _, ⟨_, rfl⟩, q⟩
  | int i => obtain ⟨t, rfl⟩ := ru; exact PySem.P.repr_of_int (of_decide_eq_true hs) ⟨.str _, H, I.tok _, ⟨_, rfl⟩, q⟩
  | str x => obtain ⟨t, rfl⟩ := ru; exact PySem.P.repr_of_str ⟨.str _, H, I.tok _, ⟨_, rfl⟩, q⟩ hz
  | @lst a xs ds h n t =>
    obtain ⟨as, hr⟩ := Dv.reads I _ (Dv.lst h n t) ru
    cases ru
    obtain ⟨_, its, m, rv, _, e⟩ := I.lstM h
    have hz' : (listText (PyData.shownAll ds)).length ≤ sizeLine := hz
    obtain ⟨bs, hb, hk⟩ := DvAll.under I its t rv hs fun x hx => Nat.le_trans (listText_mem_le hx) hz'
    have na : a ∉ bs := not_mem_of_deeper hr (Nat.lt_succ_self _) hb
    have hdp' : PyData.depthAll ds + 1 ≤ 60 := hdp
    refine call_repr_slot (by omega) (T := "list") ⟨_, e, rfl⟩ F.slot_list_repr.toG ?_
    cases its with
    | nil =>
      cases rv
      cases t
      refine call_list_repr_empty ⟨_, e, rfl⟩ e rfl ?_
      have q2 := fin s.heap s.toks (s.toks + 1) fun _ _ e => e
      have e2 : PyData.shown (.list []) = "[]" := listText_nil
      rw [e2] at q2
      exact ⟨_, _, rfl, q2⟩
    | cons y l =>
      exact call_list_reprK (h₀ := s.heap) e rfl rfl na (by simpa using hk.length_eq) (fun i z q => hk.item i z (by simpa using q)) hg1 (fun b _ => Clear.nil b) (by show X.A.units + 1 + (PyData.depthAll ds + 1) < cLine; omega) (fun _ _ e => e) (fun h' u tk hk' => ⟨_, _, rfl, fin h' u tk hk'⟩) hz'
  | @tup a xs ds h n t =>
    obtain ⟨as, hr⟩ := Dv.reads I _ (Dv.tup h n t) ru
    cases ru
    obtain ⟨its, rv, ⟨o, ho, hc, m, hdt⟩, _⟩ := I.tuple (X := X) (SqT.of h)
    have hz' : (tupleText (PyData.shownAll ds)).length ≤ sizeLine := hz
    obtain ⟨bs, hb, hk⟩ := DvAll.under I its t rv hs fun x hx => Nat.le_trans (tupleText_mem_le hx) hz'
    have na : a ∉ bs := not_mem_of_deeper hr (Nat.lt_succ_self _) hb
    have hdp' : PyData.depthAll ds + 1 ≤ 60 := hdp
    refine call_repr_slot (by omega) (T := "tuple") ⟨_, ho, hc⟩ F.slot_tuple_repr ?_
    exact call_tuple_reprK (h₀ := s.heap) ho hc hdt na (by simpa using hk) hg1 (fun b _ => Clear.nil b) (by show X.A.units + 1 + (PyData.depthAll ds + 1) < cLine; omega) (fun _ _ e => e) (fun h' u tk hk' => ⟨_, _, rfl, fin h' u tk hk'⟩) hz'
  | @dic a h n =>
    cases ru
    obtain ⟨lo, o, m, h1, h2, h3⟩ := dic_at I h
    refine call_repr_slot (by omega) (T := "dict") ⟨_, h1, h2⟩ F.slot_dict_repr ?_
    exact call_dict_reprK (as := []) (h₀ := s.heap) (d := 0) (ps := []) h1 h2 h3 lo (fun z => nomatch z) .nil hg1 (fun b _ => Clear.nil b) (by show X.A.units + 1 + (0 + 1) < cLine; omega) (fun _ _ e => e) (fun h' u tk hk' => ⟨_, _, rfl, fin h' u tk hk'⟩) hz
end
/-! ### isinstance -/
def tyD : PyData → String
  | .none => "NoneType"
  | .bool _ => "bool"
  | .int _ => "int"
  | .str _ => "str"
  | .list _ => "list"
  | .tuple _ => "tuple"
  | .dict _ => "dict"
def CLS : List String := ["tuple", "list", "str", "int", "bool", "dict"]
def TYS : List String := ["NoneType", "bool", "int", "str", "list", "tuple", "dict"]
def isB (T t : String) : Bool := t == T || (T == "int" && t == "bool")
theorem kit_all (K : PySem.W.Frag) : ∀ T ∈ CLS, ∀ t ∈ TYS, PySem.W.kitOne K (.type t) (.type T) = some (isB T t) := by
  intro T hT t ht
  simp only [CLS, TYS, List.mem_cons, List.not_mem_nil, or_false] at hT ht
  rcases hT with rfl | rfl | rfl | rfl | rfl | rfl <;> rcases ht with rfl | rfl | rfl | rfl | rfl | rfl | rfl <;> rfl
/-- of which built-in class -/
def isA (T : String) (d : PyData) : Bool := isB T (tyD d)
theorem tyD_mem (d : PyData) : tyD d ∈ TYS := by
  cases d <;> simp [tyD, TYS]
section
variable {K : PySem.W.Frag} {S : List Addr} {H : Hp}
theorem Dv.ty {v : V} {d : PyData} (h : Dv S H v d) : TyX K H v (.type (tyD d)) := by
  cases h with
  | non => exact .base .non
  | bl b => exact .base (.bl b)
  | int i => exact .base (.int i)
  | str x => exact .base (.str x)
  | lst h _ _ => exact .base (.lst h)
  | tup h _ _ => exact .base (.tup h)
  | dic h _ => exact .base (.dK h)
/-- isinstance(x, T) -/
theorem Dv.isi {v : V} {d : PyData} {T : String} {Q : VK} (h : Dv S H v d) (hT : T ∈ CLS) (q : Q (.bl (isA T d)) H) : rIsi K [v, .ty T] H Q :=
  ⟨v, .ty T, .type (tyD d), .type T, isA T d, rfl, .ty T, h.ty, kit_all K T hT _ (tyD_mem d), q⟩
theorem Dv.tuple {v : V} {d : PyData} (h : Dv S H v d) (hi : isA "tuple" d = true) : ∃ a xs ds, v = .ref a ∧ d = .tuple ds ∧ H a = some (.tup xs) ∧ a ∉ S ∧ DvAll S H xs ds := by
  cases h with
  | tup h n t => exact ⟨_, _, _, rfl, rfl, h, n, t⟩
  | non => cases hi
  | bl b => cases hi
  | int i => cases hi
  | str x => cases hi
  | lst h n t => cases hi
  | dic h n => cases hi
theorem Dv.text {v : V} {d : PyData} (h : Dv S H v d) (hi : isA "str" d = true) : ∃ x, v = .str x ∧ d = .str x := by
  cases h with
  | str x => exact ⟨x, rfl, rfl⟩
  | non => cases hi
  | bl b => cases hi
  | int i => cases hi
  | lst h n t => cases hi
  | tup h n t => cases hi
  | dic h n => cases hi
theorem Dv.number {v : V} {d : PyData} (h : Dv S H v d) (hi : isA "int" d = true) (hb : isA "bool" d = false) : ∃ x, v = .int x ∧ d = .int x := by
  cases h with
  | int x => exact ⟨x, rfl, rfl⟩
  | bl b => cases hb
  | non => cases hi
  | str x => cases hi
  | lst h n t => cases hi
  | tup h n t => cases hi
  | dic h n => cases hi
end
/-! ### == of a list or a tuple and an empty one -/
section
variable {X : Cx}
def rEqE (K : PySem.W.Frag) (neg : Bool) : R2 := fun x y H Q => ∃ a b xs, x = .ref a ∧ y = .ref b ∧ ((SqL K H a xs ∧ SqL K H b []) ∨ (SqT K H a xs ∧ SqT K H b [])) ∧ Q (.bl (if neg then !xs.isEmpty else xs.isEmpty)) H
theorem op_eqE (hu : X.A.units < cLine) : OpR X (compareOp .Eq) (rEqE X.K false) := by
  intro pins s σ H x y v u Q I rx ry h
  obtain ⟨a, b, xs, rfl, rfl, hab, q⟩ := h
  cases rx
  cases ry
  have q' : Q (.bl xs.isEmpty) H := q
  rcases hab with ⟨ha, hb⟩ | ⟨ha, hb⟩
  · obtain ⟨its, r1, p1, _⟩ := I.list ha
    obtain ⟨its2, r2, p2, _⟩ := I.list hb
    cases r2
    cases r1 with
    | nil => exact SeqAt.eq_listAt (e := fun _ => true) p1.isList p2.isList rfl hu (fun j h1 => absurd h1 (Nat.not_lt_zero _)) ⟨.bl true, H, I, rfl, q'⟩
    | cons a1 a2 => exact SeqAt.eq_list_lengthsAt p1.isList p2.isList rfl hu ⟨.bl false, H, I, rfl, q'⟩
  · obtain ⟨its, r1, p1, _⟩ := I.tuple ha
    obtain ⟨its2, r2, p2, _⟩ := I.tuple hb
    cases r2
    cases r1 with
    | nil => exact SeqAt.eq_tupleAt (e := fun _ => true) p1 p2 hu (fun j h1 => absurd h1 (Nat.not_lt_zero _)) ⟨.bl true, H, I, rfl, q'⟩
    | cons a1 a2 =>
      refine SeqAt.eq_tupleAt (e := fun _ => true) p1 p2 hu (fun j _ h2 => absurd h2 (Nat.not_lt_zero _)) ?_
      exact ⟨.bl false, H, I, by simp [L2.RelV], q'⟩
theorem op_neE (hu : X.A.units < cLine) : OpR X (compareOp .NotEq) (rEqE X.K true) := by
  intro pins s σ H x y v u Q I rx ry h
  obtain ⟨a, b, xs, rfl, rfl, hab, q⟩ := h
  cases rx
  cases ry
  have q' : Q (.bl (!xs.isEmpty)) H := q
  rcases hab with ⟨ha, hb⟩ | ⟨ha, hb⟩
  · obtain ⟨its, r1, p1, _⟩ := I.list ha
    obtain ⟨its2, r2, p2, _⟩ := I.list hb
    cases r2
    cases r1 with
    | nil => exact SeqAt.RcNeAt.lists (e := fun _ => true) p1.isList p2.isList rfl hu (fun j h1 => absurd h1 (Nat.not_lt_zero _)) _ _ _ _ ⟨.bl false, H, I, rfl, q'⟩
    | cons a1 a2 => exact SeqAt.RcNeAt.lists_lengths p1.isList p2.isList rfl hu _ _ _ _ ⟨.bl true, H, I, rfl, q'⟩
  · obtain ⟨its, r1, p1, _⟩ := I.tuple ha
    obtain ⟨its2, r2, p2, _⟩ := I.tuple hb
    cases r2
    cases r1 with
    | nil => exact SeqAt.RcNeAt.tuples (e := fun _ => true) p1 p2 hu (fun j h1 => absurd h1 (Nat.not_lt_zero _)) _ _ _ _ ⟨.bl false, H, I, rfl, q'⟩
    | cons a1 a2 =>
      refine SeqAt.RcNeAt.tuples (e := fun _ => true) p1 p2 hu (fun j _ h2 => absurd h2 (Nat.not_lt_zero _)) _ _ _ _ ?_
      exact ⟨.bl true, H, I, by simp [L2.RelV], q'⟩
end
/-! ### small values -/
mutual
/-- short texts, small numbers, no dict but empty ones -/
def okv : PyData → Bool
  | .none | .bool _ => true
  | .int i => decide (i.natAbs < 10 ^ 40)
  | .str x => PyData.strOk x && decide (x.length ≤ 1000)
  | .list xs | .tuple xs => decide (xs.length ≤ 1000) && okvAll xs
  | .dict kvs => kvs.isEmpty
def okvAll : List PyData → Bool
  | [] => true
  | x :: xs => okv x && okvAll xs
end
theorem okvAll_iff : ∀ {l : List PyData}, okvAll l = true ↔ ∀ d ∈ l, okv d = true
  | [] => by simp [okvAll]
  | x :: l => by
    rw [okvAll, Bool.and_eq_true, okvAll_iff (l := l)]
    simp
mutual
theorem okv_short : ∀ d : PyData, okv d = true → d.leavesShort 44 = true ∧ d.showable = true
  | .none, _ => ⟨rfl, rfl⟩
  | .bool _, _ => ⟨rfl, rfl⟩
  | .int i, h => by
    have h' : i.natAbs < 10 ^ 40 := of_decide_eq_true h
    have q := int_text_length_le10 (k := 40) (by decide) h'
    refine ⟨?_, decide_eq_true (int_log h')⟩
    show decide ((PyData.shown (.int i)).length ≤ 44) = true
    refine decide_eq_true ?_
    show (PySem.Str.ofString (toString i)).length ≤ 44
    rw [PySem.ofString_length]
    omega
  | .str x, h => by
    have h' : (PyData.strOk x && decide (x.length ≤ 1000)) = true := h
    rw [Bool.and_eq_true] at h'
    have h2 : x.cps.all (· < 0x110000) = true := h'.1
    refine ⟨?_, rfl⟩
    show x.cps.toList.all (fun c => decide (c < 16 ^ 8)) = true
    rw [List.all_eq_true]
    intro c hc
    rw [Array.all_eq_true'] at h2
    have q := h2 c (by simpa using hc)
    have q' : c < 0x110000 := by simpa using q
    exact decide_eq_true (Nat.lt_trans q' (by decide))
  | .list xs, h => okvAll_short xs (Bool.and_eq_true_iff.mp h).2
  | .tuple xs, h => okvAll_short xs (Bool.and_eq_true_iff.mp h).2
  | .dict kvs, h => by
    cases kvs with
    | nil => exact ⟨rfl, rfl⟩
    | cons a l => cases h
theorem okvAll_short : ∀ l : List PyData, okvAll l = true → PyData.leavesShortAll 44 l = true ∧ PyData.showableAll l = true
  | [], _ => ⟨rfl, rfl⟩
  | x :: l, h => by
    rw [okvAll, Bool.and_eq_true] at h
    obtain ⟨a1, a2⟩ := okv_short x h.1
    obtain ⟨b1, b2⟩ := okvAll_short l h.2
    refine ⟨?_, ?_⟩
    · show (PyData.leavesShort 44 x && PyData.leavesShortAll 44 l) = true
      rw [a1, b1]; rfl
    · show (PyData.showable x && PyData.showableAll l) = true
      rw [a2, b2]; rfl
end
theorem okv_fits {d : PyData} (h : okv d = true) (hb : d.bulk ≤ 300000) : d.shown.length ≤ sizeLine := by
  have q := PyData.shown_le_bulk 44 (by decide) d (okv_short d h).1
  rw [sizeLine_eq]
  omega
/-! ### t[k:] -/
theorem cut_from (xs : List V) (k : Nat) (h : k ≤ xs.length) : cutV xs (some (k : Int)) none = xs.drop k := by
  unfold cutV
  rw [HT.sIx_none, HT.sIx_nat, Nat.min_eq_left h]
  exact List.take_of_length_le (by rw [List.length_drop]; omega)
theorem cut_to (xs : List V) (k : Nat) (h : k ≤ xs.length) : cutV xs none (some (k : Int)) = xs.take k := by
  unfold cutV
  rw [HT.sIx_none, HT.sIx_nat, Nat.min_eq_left h, Nat.sub_zero, List.drop_zero]
theorem slA_from {K : PySem.W.Frag} {H : Hp} {Q : VK} {a : Addr} {xs : List V} {n : Int} {k : Nat} (hn : n = (k : Int)) (ha : H a = some (.tup xs)) (q : ∀ H' p, Same H H' → H' p = some (.tup (xs.drop k)) → (p = a ∨ H p = none) → Q (.ref p) H') : rSlA K (.ref a) (some n) none H Q := by
  subst hn
  refine ⟨a, xs, rfl, SqT.of ha, fun hw => ?_, fun hw p hp => ?_⟩
  · have h1 := hw.1
    rw [HT.sIx_nat] at h1
    refine q H a (Same.refl H) ?_ (.inl rfl)
    by_cases hk : k = 0
    · subst hk
      exact ha
    · have h0 : xs = [] := List.length_eq_zero_iff.mp (by omega)
      rw [h0] at ha ⊢
      rw [List.drop_nil]
      exact ha
  · refine q _ p (same_new hp) ?_ (.inr hp)
    rw [upd_same]
    by_cases hk : k ≤ xs.length
    · rw [cut_from xs k hk]
    · unfold cutV
      rw [HT.sIx_none, HT.sIx_nat, Nat.min_eq_right (by omega), List.drop_length, List.drop_eq_nil_of_le (by omega), List.take_nil]
/-- all of S are tracked -/
def Trk (S : List Addr) (H : Hp) : Prop := ∀ a ∈ S, H a ≠ none
theorem Trk.same {S : List Addr} {H H' : Hp} (h : Trk S H) (k : Same H H') : Trk S H' := fun a m e => by
  cases q : H a with
  | none => exact h a m q
  | some o =>
    rw [k a o q] at e
    cases e
theorem Trk.out {S : List Addr} {H : Hp} {p : Addr} (h : Trk S H) (n : H p = none) : p ∉ S := fun m => h p m n
mutual
theorem Dv.fresh {S : List Addr} {H : Hp} {p : Addr} (n : H p = none) : ∀ {v : V} {d : PyData}, Dv S H v d → Dv (p :: S) H v d
  | _, _, .non => .non
  | _, _, .bl b => .bl b
  | _, _, .int i => .int i
  | _, _, .str x => .str x
  | _, _, .lst h m t => .lst h (fun q => by
      rcases List.mem_cons.mp q with rfl | q
      · rw [n] at h; cases h
      · exact m q) (DvAll.fresh n t)
  | _, _, .tup h m t => .tup h (fun q => by
      rcases List.mem_cons.mp q with rfl | q
      · rw [n] at h; cases h
      · exact m q) (DvAll.fresh n t)
  | _, _, .dic h m => .dic h (fun q => by
      rcases List.mem_cons.mp q with rfl | q
      · rw [n] at h; cases h
      · exact m q)
theorem DvAll.fresh {S : List Addr} {H : Hp} {p : Addr} (n : H p = none) : ∀ {vs : List V} {ds : List PyData}, DvAll S H vs ds → DvAll (p :: S) H vs ds
  | _, _, .nil => .nil
  | _, _, .cons h t => .cons (Dv.fresh n h) (DvAll.fresh n t)
end
theorem okv_tup {ds : List PyData} (h : okv (.tuple ds) = true) : ds.length ≤ 1000 ∧ ∀ d ∈ ds, okv d = true := by
  obtain ⟨h1, h2⟩ := Bool.and_eq_true_iff.mp h
  exact ⟨of_decide_eq_true h1, okvAll_iff.mp h2⟩
end Zv
set_option Elab.async false
set_option linter.all false
set_option maxRecDepth 100000
set_option maxHeartbeats 4000000
/-! Zu: values of any kind, dicts with one text key among them; repr. -/
namespace Zu
open PySem PySem.Spec PyProof.Rows L2 Zg Zd Zv
/-! ### the values -/
mutual
inductive Dz (S : List Addr) (H : Hp) : V → PyData → Prop
  | non : Dz S H .non .none
  | bl (b : Bool) : Dz S H (.bl b) (.bool b)
  | int (i : Int) : Dz S H (.int i) (.int i)
  | str (x : Str) : Dz S H (.str x) (.str x)
  | lst {a : Addr} {xs : List V} {ds : List PyData} : H a = some (.lst xs) → a ∉ S → DzAll S H xs ds → Dz S H (.ref a) (.list ds)
  | tup {a : Addr} {xs : List V} {ds : List PyData} : H a = some (.tup xs) → a ∉ S → DzAll S H xs ds → Dz S H (.ref a) (.tuple ds)
  | dic {a : Addr} : H a = some (.dK []) → a ∉ S → Dz S H (.ref a) (.dict [])
  | dc {a : Addr} {x : Str} {v : V} {d : PyData} : H a = some (.dK [(.inr x, v)]) → a ∉ S → Dz S H v d → Dz S H (.ref a) (.dict [(.str x, d)])
inductive DzAll (S : List Addr) (H : Hp) : List V → List PyData → Prop
  | nil : DzAll S H [] []
  | cons {v : V} {vs : List V} {d : PyData} {ds : List PyData} : Dz S H v d → DzAll S H vs ds → DzAll S H (v :: vs) (d :: ds)
end
mutual
theorem Dz.kp {S : List Addr} {H H' : Hp} (k : Kp S H H') : ∀ {v : V} {d : PyData}, Dz S H v d → Dz S H' v d
  | _, _, .non => .non
  | _, _, .bl b => .bl b
  | _, _, .int i => .int i
  | _, _, .str x => .str x
  | _, _, .lst h n t => .lst (k _ _ n h) n (DzAll.kp k t)
  | _, _, .tup h n t => .tup (k _ _ n h) n (DzAll.kp k t)
  | _, _, .dic h n => .dic (k _ _ n h) n
  | _, _, .dc h n t => .dc (k _ _ n h) n (Dz.kp k t)
theorem DzAll.kp {S : List Addr} {H H' : Hp} (k : Kp S H H') : ∀ {vs : List V} {ds : List PyData}, DzAll S H vs ds → DzAll S H' vs ds
  | _, _, .nil => .nil
  | _, _, .cons h t => .cons (Dz.kp k h) (DzAll.kp k t)
end
mutual
theorem Dz.sub {S S' : List Addr} {H : Hp} (e : ∀ a ∈ S', a ∈ S) : ∀ {v : V} {d : PyData}, Dz S H v d → Dz S' H v d
  | _, _, .non => .non
  | _, _, .bl b => .bl b
  | _, _, .int i => .int i
  | _, _, .str x => .str x
  | _, _, .lst h n t => .lst h (fun m => n (e _ m)) (DzAll.sub e t)
  | _, _, .tup h n t => .tup h (fun m => n (e _ m)) (DzAll.sub e t)
  | _, _, .dic h n => .dic h (fun m => n (e _ m))
  | _, _, .dc h n t => .dc h (fun m => n (e _ m)) (Dz.sub e t)
theorem DzAll.sub {S S' : List Addr} {H : Hp} (e : ∀ a ∈ S', a ∈ S) : ∀ {vs : List V} {ds : List PyData}, DzAll S H vs ds → DzAll S' H vs ds
  | _, _, .nil => .nil
  | _, _, .cons h t => .cons (Dz.sub e h) (DzAll.sub e t)
end
theorem DzAll.append {S : List Addr} {H : Hp} : ∀ {vs ws : List V} {ds es : List PyData}, DzAll S H vs ds → DzAll S H ws es → DzAll S H (vs ++ ws) (ds ++ es)
  | _, _, _, _, .nil, h => h
  | _, _, _, _, .cons a t, h => .cons a (DzAll.append t h)
theorem DzAll.length {S : List Addr} {H : Hp} : ∀ {vs : List V} {ds : List PyData}, DzAll S H vs ds → vs.length = ds.length
  | _, _, .nil => rfl
  | _, _, .cons _ t => by rw [List.length_cons, List.length_cons, DzAll.length t]
theorem DzAll.drop {S : List Addr} {H : Hp} : ∀ (n : Nat) {vs : List V} {ds : List PyData}, DzAll S H vs ds → DzAll S H (vs.drop n) (ds.drop n)
  | 0, _, _, h => h
  | n + 1, _, _, .nil => .nil
  | n + 1, _, _, .cons _ t => DzAll.drop n t
theorem DzAll.take {S : List Addr} {H : Hp} : ∀ (n : Nat) {vs : List V} {ds : List PyData}, DzAll S H vs ds → DzAll S H (vs.take n) (ds.take n)
  | 0, _, _, _ => .nil
  | n + 1, _, _, .nil => .nil
  | n + 1, _, _, .cons h t => .cons h (DzAll.take n t)
theorem DzAll.get {S : List Addr} {H : Hp} : ∀ {vs : List V} {ds : List PyData}, DzAll S H vs ds → ∀ {i : Nat} {v : V}, vs[i]? = some v → ∃ d, ds[i]? = some d ∧ Dz S H v d
  | _, _, .nil, i, v, e => by cases e
  | _, _, .cons (d := d) h t, 0, v, e => ⟨d, rfl, by cases e; exact h⟩
  | _, _, .cons h t, i + 1, v, e => DzAll.get t (i := i) e
section
variable {X : Cx} {pins : List (Addr × Obj)} {σ : L2.St} {H : Hp} {s : Shared} {S : List Addr}
/-- the object of a dict with one text key -/
theorem dc_at (I : Inv X pins σ H s) {a : Addr} {x : Str} {v : V} (h : H a = some (.dK [(.inr x, v)])) : (a == sysModules) = false ∧ ∃ o es n t en, s.heap.get? a = some o ∧ o.cls = .type "dict" ∧ o.data = .dict es n ∧ es.toList = [en] ∧ en.key = .str x t ∧ RelV v en.val := by
  obtain ⟨_, hd, vs, kv, o, es, ep, h1, h2, h3, h4, h5, h6⟩ := dk_rd I.hok (.inl h)
  cases kv with
  | cons r1 r2 =>
    cases r2
    cases h7 : es.toList with
    | nil => rw [h7] at h5; cases h5
    | cons en l =>
      rw [h7] at h5
      cases h5 with
      | cons k1 k2 k3 =>
        cases k3
        rw [← r1.1, mixKind_is] at k1
        rcases keyIs_shape k1 with ⟨i, t, e, _⟩ | ⟨y, t, e, e2⟩
        · cases e
        · cases e
          exact ⟨hd, o, es, ep, t, en, h1, h2.1, h3, h7, e2, by rw [k2]; exact r1.2⟩
mutual
theorem Dz.reads (I : Inv X pins σ H s) : ∀ {v : V} {d : PyData} (u : Value), Dz S H v d → RelV v u → ∃ as, Reads s.heap u d as
  | _, _, _, .non, r => by cases r; exact ⟨_, Reads.none⟩
  | _, _, _, .bl b, r => by cases r; exact ⟨_, Reads.bool b⟩
  | _, _, _, .int i, r => by obtain ⟨t, rfl⟩ := r; exact ⟨_, Reads.int i t⟩
  | _, _, _, .str x, r => by obtain ⟨t, rfl⟩ := r; exact ⟨_, Reads.str x t⟩
  | _, _, _, .lst h n t, r => by
    cases r
    obtain ⟨z, its, m, rv, _, e⟩ := I.lstM h
    obtain ⟨as, q⟩ := DzAll.reads I its t rv
    exact ⟨_, Reads.list e rfl rfl q⟩
  | _, _, _, .tup h n t, r => by
    cases r
    obtain ⟨its, rv, ⟨o, ho, hc, m, hd⟩, _⟩ := I.tuple (X := X) (SqT.of h)
    obtain ⟨as, q⟩ := DzAll.reads I its t rv
    exact ⟨_, Reads.tuple ho hc hd q⟩
  | _, _, _, .dic h n, r => by
    cases r
    obtain ⟨_, o, m, h1, h2, h3⟩ := Zv.dic_at I h
    exact ⟨_, Reads.dict h1 h2 h3 .nil .nil⟩
  | _, _, _, .dc h n t, r => by
    cases r
    obtain ⟨_, o, es, m, tk, en, h1, h2, h3, h4, h5, h6⟩ := dc_at I h
    obtain ⟨as, q⟩ := Dz.reads I _ t h6
    refine ⟨_, Reads.dict h1 h2 h3 (as := [] ++ []) ?_ (bs := as ++ []) ?_⟩
    · rw [h4]
      show ReadsAll s.heap [en.key] _ _
      rw [h5]
      exact .cons (Reads.str _ tk) .nil
    · rw [h4]
      exact .cons q .nil
theorem DzAll.reads (I : Inv X pins σ H s) : ∀ {vs : List V} {ds : List PyData} (us : List Value), DzAll S H vs ds → Vals vs us → ∃ as, ReadsAll s.heap us ds as
  | _, _, _, .nil, r => by cases r; exact ⟨_, ReadsAll.nil⟩
  | _, _, _, .cons h t, r => by
    cases r with
    | cons r1 r2 =>
      obtain ⟨as, q1⟩ := Dz.reads I _ h r1
      obtain ⟨bs, q2⟩ := DzAll.reads I _ t r2
      exact ⟨_, ReadsAll.cons q1 q2⟩
end
end
/-! ### repr -/
theorem one_depth {x : Str} {d : PyData} : d.depth ≤ PyData.depthKv [(PyData.str x, d)] := by
  have := PyData.depthAll_vals_le [(PyData.str x, d)]
  refine Nat.le_trans ?_ this
  exact Nat.le_max_left _ _
theorem one_show {x : Str} {d : PyData} (h : (PyData.dict [(PyData.str x, d)]).showable = true) : d.showable = true := by
  have := (PyData.showableKv_split [(PyData.str x, d)] h).2
  have h2 : (d.showable && PyData.showableAll []) = true := this
  exact (Bool.and_eq_true _ _ ▸ h2).1
theorem one_le {x : Str} {d : PyData} (h : (PyData.dict [(PyData.str x, d)]).shown.length ≤ sizeLine) : (PyData.str x).shown.length ≤ sizeLine ∧ d.shown.length ≤ sizeLine := by
  have hz : (dictText (PyData.shownKv [(PyData.str x, d)])).length ≤ sizeLine := h
  have k1 := PyData.shownKv_key_le [(PyData.str x, d)] (PyData.str x).shown (by show _ ∈ [(PyData.str x).shown]; exact List.mem_singleton.mpr rfl)
  have k2 := PyData.shownKv_val_le [(PyData.str x, d)] d.shown (by show _ ∈ [d.shown]; exact List.mem_singleton.mpr rfl)
  obtain ⟨p, hp, hl⟩ := k1
  obtain ⟨p2, hp2, hl2⟩ := k2
  exact ⟨Nat.le_trans hl (Nat.le_trans (dictText_mem_le hp) hz), Nat.le_trans hl2 (Nat.le_trans (dictText_mem_le hp2) hz)⟩
section
variable {X : Cx} {pins : List (Addr × Obj)} {σ : L2.St} {H : Hp} {s : Shared} {S : List Addr}
mutual
/-- how such a value shows within another -/
theorem Dz.under (I : Inv X pins σ H s) : ∀ {v : V} {d : PyData} (u : Value), Dz S H v d → RelV v u → d.showable = true → d.shown.length ≤ sizeLine → ∃ bs, ReadAtMost s.heap d.depth bs ∧ ReprK X.prog X.w bs s.heap d.depth u d.shown
  | _, _, _, .non, r, _, _ => by
    cases r
    exact ⟨[], fun _ h => (nomatch h), ReprK.of_is ReprIs.none _ _ _⟩
  | _, _, _, .bl b, r, _, _ => by
    cases r
    exact ⟨[], fun _ h => (nomatch h), ReprK.of_is (ReprIs.bool b) _ _ _⟩
  | _, _, _, .int i, r, hs, _ => by
    obtain ⟨t, rfl⟩ := r
    exact ⟨[], fun _ h => (nomatch h), ReprK.of_is (ReprIs.int t (of_decide_eq_true hs)) _ _ _⟩
  | _, _, _, .str x, r, _, hz => by
    obtain ⟨t, rfl⟩ := r
    exact ⟨[], fun _ h => (nomatch h), ReprK.of_is (ReprIs.str x t hz) _ _ _⟩
  | _, _, _, .lst (a := a) (xs := xs) (ds := ds) h n t, r, hs, hz => by
    obtain ⟨as, hr⟩ := Dz.reads I _ (Dz.lst h n t) r
    cases r
    obtain ⟨_, its, m, rv, _, e⟩ := I.lstM h
    have hz' : (listText (PyData.shownAll ds)).length ≤ sizeLine := hz
    obtain ⟨bs, hb, hk⟩ := DzAll.under I its t rv hs fun x hx => Nat.le_trans (listText_mem_le hx) hz'
    have na : a ∉ bs := not_mem_of_deeper hr (Nat.lt_succ_self _) hb
    refine ⟨a :: bs, ReadAtMost.cons hr (Nat.le_succ _) hb, ?_⟩
    cases its with
    | nil =>
      cases rv
      cases t
      show ReprK X.prog X.w _ s.heap 1 (.ref a) (listText [])
      rw [listText_nil]
      exact ReprK.listEmpty e rfl rfl
    | cons y l => exact ReprK.list e rfl rfl na (by simpa using hk.length_eq) fun i z q => hk.item i z (by simpa using q)
  | _, _, _, .tup (a := a) (xs := xs) (ds := ds) h n t, r, hs, hz => by
    obtain ⟨as, hr⟩ := Dz.reads I _ (Dz.tup h n t) r
    cases r
    obtain ⟨its, rv, ⟨o, ho, hc, m, hd⟩, _⟩ := I.tuple (X := X) (SqT.of h)
    have hz' : (tupleText (PyData.shownAll ds)).length ≤ sizeLine := hz
    obtain ⟨bs, hb, hk⟩ := DzAll.under I its t rv hs fun x hx => Nat.le_trans (tupleText_mem_le hx) hz'
    have na : a ∉ bs := not_mem_of_deeper hr (Nat.lt_succ_self _) hb
    exact ⟨a :: bs, ReadAtMost.cons hr (Nat.le_succ _) hb, ReprK.tuple ho hc hd na (by simpa using hk)⟩
  | _, _, _, .dic (a := a) h n, r, hs, hz => by
    obtain ⟨as, hr⟩ := Dz.reads I _ (Dz.dic (S := S) h n) r
    cases r
    obtain ⟨lo, o, m, h1, h2, h3⟩ := Zv.dic_at I h
    refine ⟨[a], fun b hb => ?_, ReprK.dict (ps := []) h1 h2 h3 lo (fun z => nomatch z) .nil⟩
    rw [List.mem_singleton] at hb
    subst hb
    exact ⟨_, _, hr, Nat.le_refl _⟩
  | _, _, _, .dc (a := a) (x := x) (d := d) h n t, r, hs, hz => by
    obtain ⟨as, hr⟩ := Dz.reads I _ (Dz.dc (S := S) h n t) r
    cases r
    obtain ⟨lo, o, es, m, tk, en, h1, h2, h3, h4, h5, h6⟩ := dc_at I h
    obtain ⟨z1, z2⟩ := one_le hz
    obtain ⟨bs, hb, hk⟩ := Dz.under I _ t h6 (one_show hs) z2
    have hb' : ReadAtMost s.heap (PyData.depthKv [(PyData.str x, d)]) bs := hb.mono one_depth
    have na : a ∉ bs := not_mem_of_deeper hr (Nat.lt_succ_self _) hb'
    refine ⟨a :: bs, ReadAtMost.cons hr (Nat.le_refl _) (hb'.mono (Nat.le_succ _)), ReprK.dict (d := PyData.depthKv [(PyData.str x, d)]) h1 h2 h3 lo na ?_⟩
    rw [h4]
    refine .cons ?_ (hk.level_le one_depth) .nil
    rw [h5]
    exact ReprK.of_is (ReprIs.str x tk z1) _ _ _
theorem DzAll.under (I : Inv X pins σ H s) : ∀ {vs : List V} {ds : List PyData} (us : List Value), DzAll S H vs ds → Vals vs us → PyData.showableAll ds = true → (∀ t ∈ PyData.shownAll ds, t.length ≤ sizeLine) →
    ∃ bs, ReadAtMost s.heap (PyData.depthAll ds) bs ∧ ReprAllK X.prog X.w bs s.heap (PyData.depthAll ds) us (PyData.shownAll ds)
  | _, _, _, .nil, r, _, _ => by
    cases r
    exact ⟨[], fun _ h => (nomatch h), .nil⟩
  | _, _, _, .cons (d := d) (ds := ds) h t, r, hs, hz => by
    cases r with
    | cons r1 r2 =>
      have hs' : (d.showable && PyData.showableAll ds) = true := hs
      rw [Bool.and_eq_true] at hs'
      obtain ⟨b1, q1, k1⟩ := Dz.under I _ h r1 hs'.1 (hz _ List.mem_cons_self)
      obtain ⟨b2, q2, k2⟩ := DzAll.under I _ t r2 hs'.2 fun x hx => hz x (List.mem_cons_of_mem _ hx)
      exact ⟨b1 ++ b2, (q1.mono (Nat.le_max_left _ _)).append (q2.mono (Nat.le_max_right _ _)),
        .cons ((k1.more fun b hb => List.mem_append_left _ hb).level_le (Nat.le_max_left _ _)) (k2.more_le (fun b hb => List.mem_append_right _ hb) (Nat.le_max_right _ _))⟩
end
end
section
variable {X : Cx}
/-- repr(x), x any such value -/
def rReprZ (S : List Addr) : List V → Hp → VK → Prop := fun xs H Q => ∃ (v : V) (d : PyData), xs = [v] ∧ Dz S H v d ∧ d.showable = true ∧ d.depth ≤ 60 ∧ d.shown.length ≤ sizeLine ∧ Q (.str d.shown) H
theorem cr_reprZ {S : List Addr} {k : Nat} (hgd : Gd X.A) (hr : Room k X.A) : CallR X (.builtin "repr") (rReprZ S) := by
  intro pins s σ H xs us Q I r h
  obtain ⟨v, d, rfl, hd, hs, hdp, hz, q⟩ := h
  obtain ⟨u, rfl, ru⟩ := Vals.one r
  have hu := hr.un
  have hg1 : X.A.in1.guards = some [] := hgd
  have fin : ∀ (h' : Heap) (u : Tok) (tk : Nat), (∀ b o, s.heap.get? b = some o → h'.get? b = some o) → EP X pins σ Q (.str d.shown u) { s with heap := h', toks := tk } := fun h' u tk hk => ⟨.str d.shown, H, I.kept hk, ⟨u, rfl⟩, q⟩
  cases hd with
  | non => cases ru; exact PySem.P.repr_of_none ⟨.str _, H, I.tok _, ⟨_, rfl⟩, q⟩
  | bl b => cases ru; exact PySem.P.repr_of_bool ⟨.str _, H, I.tok _, ⟨_, rfl⟩, q⟩
  | int i => obtain ⟨t, rfl⟩ := ru; exact PySem.P.repr_of_int (of_decide_eq_true hs) ⟨.str _, H, I.tok _, ⟨_, rfl⟩, q⟩
  | str x => obtain ⟨t, rfl⟩ := ru; exact PySem.P.repr_of_str ⟨.str _, H, I.tok _, ⟨_, rfl⟩, q⟩ hz
  | @lst a xs ds h n t =>
    obtain ⟨as, hr⟩ := Dz.reads I _ (Dz.lst h n t) ru
    cases ru
    obtain ⟨_, its, m, rv, _, e⟩ := I.lstM h
    have hz' : (listText (PyData.shownAll ds)).length ≤ sizeLine := hz
    obtain ⟨bs, hb, hk⟩ := DzAll.under I its t rv hs fun x hx => Nat.le_trans (listText_mem_le hx) hz'
    have na : a ∉ bs := not_mem_of_deeper hr (Nat.lt_succ_self _) hb
    have hdp' : PyData.depthAll ds + 1 ≤ 60 := hdp
    refine call_repr_slot (by omega) (T := "list") ⟨_, e, rfl⟩ F.slot_list_repr.toG ?_
    cases its with
    | nil =>
      cases rv
      cases t
      refine call_list_repr_empty ⟨_, e, rfl⟩ e rfl ?_
      have q2 := fin s.heap s.toks (s.toks + 1) fun _ _ e => e
      have e2 : PyData.shown (.list []) = "[]" := listText_nil
      rw [e2] at q2
      exact ⟨_, _, rfl, q2⟩
    | cons y l =>
      exact call_list_reprK (h₀ := s.heap) e rfl rfl na (by simpa using hk.length_eq) (fun i z q => hk.item i z (by simpa using q)) hg1 (fun b _ => Clear.nil b) (by show X.A.units + 1 + (PyData.depthAll ds + 1) < cLine; omega) (fun _ _ e => e) (fun h' u tk hk' => ⟨_, _, rfl, fin h' u tk hk'⟩) hz'
  | @tup a xs ds h n t =>
    obtain ⟨as, hr⟩ := Dz.reads I _ (Dz.tup h n t) ru
    cases ru
    obtain ⟨its, rv, ⟨o, ho, hc, m, hdt⟩, _⟩ := I.tuple (X := X) (SqT.of h)
    have hz' : (tupleText (PyData.shownAll ds)).length ≤ sizeLine := hz
    obtain ⟨bs, hb, hk⟩ := DzAll.under I its t rv hs fun x hx => Nat.le_trans (tupleText_mem_le hx) hz'
    have na : a ∉ bs := not_mem_of_deeper hr (Nat.lt_succ_self _) hb
    have hdp' : PyData.depthAll ds + 1 ≤ 60 := hdp
    refine call_repr_slot (by omega) (T := "tuple") ⟨_, ho, hc⟩ F.slot_tuple_repr ?_
    exact call_tuple_reprK (h₀ := s.heap) ho hc hdt na (by simpa using hk) hg1 (fun b _ => Clear.nil b) (by show X.A.units + 1 + (PyData.depthAll ds + 1) < cLine; omega) (fun _ _ e => e) (fun h' u tk hk' => ⟨_, _, rfl, fin h' u tk hk'⟩) hz'
  | @dic a h n =>
    cases ru
    obtain ⟨lo, o, m, h1, h2, h3⟩ := Zv.dic_at I h
    refine call_repr_slot (by omega) (T := "dict") ⟨_, h1, h2⟩ F.slot_dict_repr ?_
    exact call_dict_reprK (as := []) (h₀ := s.heap) (d := 0) (ps := []) h1 h2 h3 lo (fun z => nomatch z) .nil hg1 (fun b _ => Clear.nil b) (by show X.A.units + 1 + (0 + 1) < cLine; omega) (fun _ _ e => e) (fun h' u tk hk' => ⟨_, _, rfl, fin h' u tk hk'⟩) hz
  | @dc a x v d h n t =>
    obtain ⟨as, hr⟩ := Dz.reads I _ (Dz.dc (S := S) h n t) ru
    cases ru
    obtain ⟨lo, o, es, m, tk, en, h1, h2, h3, h4, h5, h6⟩ := dc_at I h
    obtain ⟨z1, z2⟩ := one_le hz
    obtain ⟨bs, hb, hk⟩ := Dz.under I _ t h6 (one_show hs) z2
    have hb' : ReadAtMost s.heap (PyData.depthKv [(PyData.str x, d)]) bs := hb.mono one_depth
    have na : a ∉ bs := not_mem_of_deeper hr (Nat.lt_succ_self _) hb'
    have hdp' : PyData.depthKv [(PyData.str x, d)] + 1 ≤ 60 := hdp
    have hE : ReprEntriesK X.prog X.w bs s.heap (PyData.depthKv [(PyData.str x, d)]) es.toList (PyData.shownKv [(PyData.str x, d)]) := by
      rw [h4]
      refine .cons ?_ (hk.level_le one_depth) .nil
      rw [h5]
      exact ReprK.of_is (ReprIs.str x tk z1) _ _ _
    refine call_repr_slot (by omega) (T := "dict") ⟨_, h1, h2⟩ F.slot_dict_repr ?_
    exact call_dict_reprK (h₀ := s.heap) h1 h2 h3 lo na hE hg1 (fun b _ => Clear.nil b) (by show X.A.units + 1 + (PyData.depthKv [(PyData.str x, d)] + 1) < cLine; omega) (fun _ _ e => e) (fun h' u tk hk' => ⟨_, _, rfl, fin h' u tk hk'⟩) hz
end
end Zu
set_option Elab.async false
set_option linter.all false
set_option maxRecDepth 100000
set_option maxHeartbeats 4000000
/-! Xe: own exception classes over Exception, with an own __init__ that stores fields. -/
namespace PySem
namespace XeP
open Builtin Builtin.ObjectAttr HandSPX
/-- what stands behind the own classes -/
abbrev tailE : List Value := [.type "Exception", .type "BaseException", .type "object"]
def refsE : List Value → Bool
  | .ref _ :: r => refsE r
  | l => l == tailE
theorem refsE_two : ∀ l : List Value, refsE l = true → l = tailE ∨ ∃ c r, l = .ref c :: r ∧ refsE r = true
  | .ref c :: r, e => .inr ⟨c, r, rfl, e⟩
  | [], e => .inl (beq_iff_eq.mp e)
  | .none :: _, e | .ellipsis :: _, e | .notImplemented :: _, e | .bool _ :: _, e | .int _ _ :: _, e | .float _ _ :: _, e | .str _ _ :: _, e | .bytes _ _ :: _, e | .type _ :: _, e | .builtin _ :: _, e => .inl (beq_iff_eq.mp e)
theorem refsE_go (self : Value) : ∀ l : List Value, refsE l = true → refuseLoop self "__setattr__" l = pure ()
  | l, e => by
    match l, refsE_two l e with
    | _, .inl rfl => exact F.store_Exception.passes self
    | _, .inr ⟨c, r, rfl, h⟩ =>
      rw [refuseLoop_ref]
      exact refsE_go self r h
theorem refsE_has (X : String) : ∀ l : List Value, refsE l = true → l.contains (.type X) = tailE.contains (.type X)
  | l, e => by
    match l, refsE_two l e with
    | _, .inl rfl => rfl
    | _, .inr ⟨c, r, rfl, h⟩ =>
      rw [List.contains_cons, refsE_has X r h]
      rfl
theorem refsE_some {l : List Value} (e : refsE l = true) : l.isEmpty = false := by
  match l, refsE_two l e with
  | _, .inl rfl => rfl
  | _, .inr ⟨c, r, rfl, h⟩ => rfl
section
variable {prog : Program} {w : World} {A : Around} {R : Result → Shared → Prop} {hp : Heap} {g : Array GenState} {d : Drawn} {t : Nat} {os : OsState}
/-- the first field that is stored on such an exception -/
theorem first_field {K : W.Frag} {name : Str} {tk : Tok} {v : Value} {x C : Addr} {fv : Array Value} {cd : ClassData}
    (X : K.In hp) (hx : hp.get? x = some { cls := .ref C, data := .fields fv }) (hcd : W.clsIn K C = some cd) (hm : refsE cd.mro = true) (hh : cd.hasDict = true) (ha : W.findIn K (.ref C) name = some none)
    (hq : ∀ h' tk' dx, (∀ b o, b ≠ x → hp.get? b = some o → h'.get? b = some o) → hp.objs.size ≤ dx → dx ≠ x → h'.get? x = some { cls := .ref C, dict := some dx, data := .fields fv } → h'.Ns1 dx (fun y => if y = name then some v else none) → R (.ok (.ret .none)) ⟨h', g, d, tk', os⟩) :
    codeAny (model prog w) A (.call (.builtin "object.__setattr__") ⟨[.ref x, .str name tk, v], []⟩) R ⟨hp, g, d, t, os⟩ := by
  have J : W.InstAt hp x { cls := .ref C, data := .fields fv } C none := ⟨hx, rfl, rfl, trivial⟩
  have S := F.store_object
  have o1 : cd.mro.contains (.type "object") = true := (refsE_has "object" _ hm).trans (by decide +kernel)
  have xs : x ≠ hp.objs.size := Nat.ne_of_lt (Heap.lt_size hx)
  have isO : W.Looks (model prog w) hp (isInstance (.ref x) (.type "object")) true := J.type.andThen (W.looks_mroIn X (by
    unfold W.mroIn
    rw [hcd, Option.bind_some, if_neg (by rw [refsE_some hm]; decide), o1]))
  refine codeAny_call_builtin S.slot.plain S.entry ?_
  refine @W.check_slot (model prog w) _ _ ⟨hp, g, d, t, os⟩ "object.__setattr__" "object" "__setattr__" (.ref x) [.str name tk, v] [] _ S.kind S.split isO (S.args (.ref x) (.str name tk) v) ?_
  have M1 : W.Looks (model prog w) hp (mroOf (.ref C)) cd.mro := (W.looks_clsIn X hcd).andThen .now
  have M2 : W.Looks (model prog w) hp (storeTaker? none) none := .now
  have M3 : W.Looks (model prog w) hp (classData C) cd := W.looks_clsIn X hcd
  rw [W.osa_eq, refuse_eq]
  refine wpAny_bind (wpAny_bind (J.type.at (wpAny_bind (M1.at ?_))))
  rw [refsE_go _ _ hm]
  refine wpAny_pure (wpAny_bind (J.type.at (wpAny_bind ((W.looks_findIn X ha).at (wpAny_bind (M2.at ?_))))))
  show wpAny _ _ (storeInOwnDict (.ref x) (.ref C) (.str name tk) name v false) _ _ _
  obtain ⟨c1, c2, mro, c3, c4, c5, c6, c7, c8, c9, c10⟩ := cd
  dsimp only at hh
  subst hh
  unfold storeInOwnDict ownDictForStores
  repeat (first | with_reducible refine store_in_new ?_ ?_ | with_reducible refine wpAny_loadPart_at hx ?_ | with_reducible refine M3.at ?_ | wp_step)
  · exact ⟨_, #[], _, (Heap.get?_update_ne _ _ _ _ xs.symm).trans (Heap.get?_push_at rfl rfl), rfl, fun e he => absurd he (by simp), fun _ => rfl⟩
  · intro h' tk' hn' hs
    have x1 : (hp.push { cls := .type "dict", data := .dict #[] }).get? x = some { cls := .ref C, data := .fields fv } := Heap.get?_push_of_some _ hx
    refine hq h' tk' hp.objs.size (fun b o hb ho => ?_) (Nat.le_refl _) xs.symm ((hs.2 x xs).trans (Heap.get?_update_self _ x1 rfl)) hn'
    exact (hs.2 b (Nat.ne_of_lt (Heap.lt_size ho))).trans ((Heap.get?_update_ne _ _ _ _ hb).trans (Heap.get?_push_of_some _ ho))
end
end XeP
end PySem
namespace Xe
open PySem PySem.Spec PyProof.Rows L2
/-- what the written part says of such a class -/
structure OxE (K : PySem.W.Frag) (C : Addr) : Prop where
  cls : ∃ nm q N bs bm sn sub ab col dd k0 k1 k2 k3 k5, K.lookup C = some (excClassObj nm q C N bs bm true sn sub ab col dd k0 k1 k2 k3 k5 "Exception.__new__") ∧ PySem.XeP.refsE bm = true
  sa : PySem.W.findIn K (.ref C) "__setattr__" = some (some (.builtin "object.__setattr__"))
  exC : PySem.W.subIn K (.ref C) (.type "BaseException") = some true
  tyC : PySem.W.typeIn K (.ref C) = some (.type "type")
  kC : PySem.W.keepIn K (.ref C) = true
section
variable {X : Cx} {pins : List (Addr × Obj)} {σ : L2.St} {H : Hp} {s : Shared} {a C : Addr} {f : PySem.Str} {y : V} {u : Value} {Q : Unit → Shared → Prop} {E : Value → Shared → Prop} {A : Around}
/-- self.f = y, the only field -/
theorem store_one (T : OxE X.K C) (I : Inv X pins σ H s) (e : H a = some (exo a C none)) (hno : PySem.W.findIn X.K (.ref C) f = some none) (ry : RelV y u)
    (h : ∀ dx s', H dx = none → dx ≠ a → Inv X pins σ (upd (upd H dx (exd dx [(f, y)])) a (exo a C (some dx))) s' → Q () s') : wpAny (model X.prog X.w) A (setAttr (.ref a) f u) Q E s := by
  obtain ⟨nm, q, N, bs, bm, sn, sub, ab, col, dd, k0, k1, k2, k3, k5, hC, hbm⟩ := T.cls
  have hcl : PySem.W.clsIn X.K C = some { name := nm, bases := bs, mro := .ref C :: bm, ns := N, qualname := q, hasDict := true, slotNames := sn, subclasses := sub, abstract := ab, collection := col, hasDel := false } := by
    unfold PySem.W.clsIn
    rw [hC] <;> rfl
  obtain ⟨t1, ho⟩ := exo_at I.hok e
  obtain ⟨hp, g, d, t, os⟩ := s
  refine PySem.W.set_plain I.kIn (ox := { cls := .ref C, dict := none, data := .fields #[.ref t1, .none, .none, .none, .bool false, .none] }) (od := none) ⟨ho, rfl, rfl, trivial⟩ T.sa ?_
  refine PySem.XeP.first_field I.kIn ho hcl (show PySem.XeP.refsE (.ref C :: bm) = true from hbm) rfl hno (fun h' tk' dx k dn dne hx hn => ?_)
  have hnd : H dx = none := I.hok.fresh dn
  have bd : ∀ {b : Addr} {o : Obj}, hp.get? b = some o → b ≠ dx := fun {b o} q => Nat.ne_of_lt (Nat.lt_of_lt_of_le (Heap.lt_size q) dn)
  have ba : ∀ {b : Addr}, H b = none → b ≠ a := fun {b} n z => by
    rw [z, e] at n
    cases n
  have U : Un X.fs [] H (upd (upd H dx (exd dx [(f, y)])) a (exo a C (some dx))) hp h' :=
    ⟨fun b o q n _ _ => k b o (ba n) q, fun b o q n _ _ => ⟨o.slots, k b o (ba n) q⟩, fun b o q n _ => by rw [upd_ne (ba n), upd_ne (bd q)]; exact n,
      fun b o q _ => by
        by_cases hb : b = a
        · exact ⟨_, by rw [hb]; exact hx⟩
        · exact ⟨o, k b o hb q⟩,
      fun b xs q => by rw [upd_ne (at_ne e q exo_tup), upd_ne (ne_of_none q hnd)]; exact q,
      fun b o v q => by rw [upd_ne (at_ne e q exo_frz), upd_ne (ne_of_none q hnd)]; exact q,
      fun b ps q => ⟨#[], by rw [upd_ne (at_ne e q exo_tbl), upd_ne (ne_of_none q hnd), q]; simp⟩⟩
  refine h dx _ hnd dne (I.un (t' := tk') U fun b o q => ?_)
  by_cases hb : b = a
  · subst hb
    rw [upd_same] at q
    cases q
    exact exo_ok hx
  · rw [upd_ne hb] at q
    by_cases hd : b = dx
    · subst hd
      rw [upd_same] at q
      cases q
      exact exd_ok hn (relO_put (fs := []) ry fun g => True.intro)
    · rw [upd_ne hd] at q
      refine (I.hok b o q).stay (fun c v hc z => k c v (fun ec => ?_) z) (fun c hc => by rw [upd_ne (at_ne e hc exo_own), upd_ne (ne_of_none hc hnd)]; exact hc) (fun c xs hc => by rw [upd_ne (at_ne e hc exo_tup), upd_ne (ne_of_none hc hnd)]; exact hc)
      rcases hc with hc | hc
      · exact hb (hc.symm.trans ec)
      · exact at_ne e hc exo_own ec
end
/-- self.f = e, the only field of an exception that is being made -/
def tOne (K : PySem.W.Frag) (f : PySem.Str) (to te : TE) : TS := fun D σ H => te σ H fun y H1 => to σ H1 fun x H2 => ∃ a C : Addr, x = .ref a ∧ OxE K C ∧ PySem.W.findIn K (.ref C) f = some none ∧ H2 a = some (exo a C none) ∧
  ∀ dx, H2 dx = none → dx ≠ a → D.nx σ (upd (upd H2 dx (exd dx [(f, y)])) a (exo a C (some dx)))
/-- C(e, ..), the values of the fields in fs -/
def tMkE (C : Addr) (sp : Sp) (ta : TA) : L2.St → Hp → XK → Prop := fun σ H Q => ta σ H fun vs H1 => vs.length ≤ 1000 ∧ ∀ a, H1 a = none → sp (.ref a :: vs) (upd H1 a (exo a C none))
  (fun v H2 => v = .non ∧ ∃ (d : Addr) (fs : List (PySem.Str × V)), H2 a = some (exo a C (some d)) ∧ H2 d = some (exd d fs) ∧ H1 d = none ∧ Q (.ref C) (some d) (upd (del H2 a) d (.xd fs))) (fun _ _ _ => False)
section
variable {X : Cx} {o e : Expr} {es : List Expr} {to te : TE} {ta : TA} {f : PySem.Str} {p p' pos : Pos}
theorem ps_one (ho : PE X o to) (he : PE X e te) (hs : swapsWith e (some (.Attribute o f p')) pos.line X.env = pure false := by rfl) : PS X (.Assign [.Attribute o f p'] e pos) (tOne X.K f to te) := by
  refine ⟨fun pins s σ H D I h => plainObj_wpAny_Assign_Attribute (thn (he.run pins s σ H _ I h) fun v s1 ⟨y, H1, I1, r1, q1⟩ => thn (ho.run pins s1 σ H1 _ I1 q1) fun u s2 ⟨x, H2, I2, r2, a, C, ex, T, hno, ea, q⟩ => ?_) hs⟩
  subst ex
  obtain rfl : u = Value.ref a := r2
  exact store_one T I2 ea hno r1 fun dx s' n ne J => ⟨σ, _, J, q dx n ne⟩
/-- C(e, ..) for a raise -/
theorem pmk_E {CX : CXT} {x : PySem.Str} {C fI : Addr} {k : Nat} {fd : FuncData} {ps : List PySem.Str} {sp : Sp} (T : OxE X.K C) (iC : PySem.W.findIn X.K (.ref C) "__init__" = some (some (.ref fI))) (tI : PySem.W.typeIn X.K (.ref fI) = some (.type "function"))
    (F1 : FnOk X.prog X.w X.K X.mg X.base CX k fI fd ps sp) (hr : Room (k + 1) X.A) (hb : Binds X.K fd ps []) (hx : Passes CX X (fun _ _ _ => False)) (hg : Gl X x) (hm : X.mg x = some (.ref C)) (ha : PA X (e :: es) ta)
    (hdb : (x == ("__debug__" : PySem.Str)) = false := by decide) (he : starEach (e :: es) X.env = (false, eval e X.env) :: starEach es X.env := by rfl) (hpl : (backTo pos (starEach es X.env)).any (·.1) = false := by rfl) :
    PMk X (.Call (.Name x p) (e :: es) [] pos) (tMkE C sp ta) := by
  intro pins s σ H Q I h
  obtain ⟨nm, q, N, bs, bm, sn, sub, ab, col, dd, k0, k1, k2, k3, k5, hC, hbm⟩ := T.cls
  refine wpAny_Call_Name_kw (ld_glob I hg hm (PySem.W.callWith_K (h₀ := X.base) I.ok.mod.kin T.kC (thn (ha.run pos pins s σ H _ I h) fun us s1 ⟨vs, H1, I1, r1, hz, q1⟩ => ⟨I1.kIn, ?_⟩) he hpl) hdb)
  show wpAny _ _ (call (.ref C) us) _ _ _
  obtain ⟨hp, g, dr, tk, os⟩ := s1
  have n1 : H1 (hp.objs.size + 1) = none := I1.hok.fresh (Nat.le_succ _)
  have hq := q1 (hp.objs.size + 1) n1
  have kk : ∀ b o, hp.get? b = some o → ((hp.push (PySem.W.kdv_tup us)).push (PySem.HandSPX.excO C hp.objs.size)).get? b = some o := fun b o e => Heap.get?_push_of_some _ (Heap.get?_push_of_some _ e)
  have at1 : ((hp.push (PySem.W.kdv_tup us)).push (PySem.HandSPX.excO C hp.objs.size)).get? (hp.objs.size + 1) = some (PySem.HandSPX.excO C hp.objs.size) := by heap_get
  have I2 : Inv X pins σ (upd H1 (hp.objs.size + 1) (exo (hp.objs.size + 1) C none)) ⟨(hp.push (PySem.W.kdv_tup us)).push (PySem.HandSPX.excO C hp.objs.size), g, dr, tk, os⟩ := I1.laid (t' := tk) kk (Nat.le_succ _) (exo_ok at1)
  have r2 : Vals (V.ref (hp.objs.size + 1) :: vs) (Value.ref (hp.objs.size + 1) :: us) := .cons rfl r1
  have l2 : (Value.ref (hp.objs.size + 1) :: us).length = ps.length := by
    rw [← F1.len _ _ _ _ hq]
    exact (Paired.length r2).symm
  have l3 : us.length ≤ sizeLine := by
    rw [← Paired.length r1, sizeLine_eq]
    omega
  have hbb := hb ⟨(hp.push (PySem.W.kdv_tup us)).push (PySem.HandSPX.excO C hp.objs.size), g, dr, tk, os⟩ (Value.ref (hp.objs.size + 1) :: us) I2.kIn (by rw [List.append_nil]; exact l2)
  rw [List.append_nil] at hbb
  refine wpAny_call (PySem.HandSPX.call_own F.excBase_Exception (fun Y => PySem.XeP.refsE_has Y bm hbm) (I1.kIn _ _ hC) (PySem.W.looks_findIn I1.kIn iC) (fun self => PySem.W.bind_fn I1.kIn self tI) l3
    (codeAny_mono (F1.run _ X.stack _ _ ⟨Value.ref (hp.objs.size + 1) :: us, []⟩ (Value.ref (hp.objs.size + 1) :: us) _ _ (fun _ _ _ => False) (hr.make C us []) (I2.env0.make C us []) hbb r2 hq) fun r s' hq' => ?_))
  cases r with
  | error er => exact hx pins σ _ _ er s' I2 hq'
  | ok fl =>
    cases fl with
    | ret u =>
      obtain ⟨v, H2, os2, bare2, un2, hok2, rv, ev, d, fs, ea, ed, hd1, q2⟩ := hq'
      subst ev
      obtain ⟨h2, g2, d2, t2, os'⟩ := s'
      exact ⟨rv, mk_end (raises_own T.exC T.tyC) I1 (Nat.le_succ _) kk un2 hok2 os2 bare2 ea ed hd1 q2⟩
    | next => exact False.elim hq'
    | brk => exact False.elim hq'
    | cont => exact False.elim hq'
end
/-- __init__(self, v): one field -/
def sp_one (C : Addr) (f : PySem.Str) : Sp := fun vs H Q _ => ∃ (a : Addr) (v : V), vs = [.ref a, v] ∧ H a = some (exo a C none) ∧ ∀ dx, H dx = none → dx ≠ a → Q .non (upd (upd H dx (exd dx [(f, v)])) a (exo a C (some dx)))
end Xe
set_option Elab.async false
set_option linter.all false
set_option maxRecDepth 100000
set_option maxHeartbeats 4000000
/-! Xu: own exceptions as values (made by position or by name, fields read, isinstance), raised, caught by several clauses. -/
namespace PySem
namespace XuP
open Builtin Builtin.ObjectAttr HandSPX XeP PyProof.Rows
section
variable {M : Model} {A : Around} {E : Value → Shared → Prop} {h : Heap} {g : Array GenState} {d : Drawn} {t : Nat} {os : OsState}
variable {nm q : Str} {C N : Addr} {bs bm bmB : List Value} {hdct : Bool} {sn : List Str} {sub : List Value} {ab : Bool} {col : Option Bool} {dd : Option Addr} {k0 k1 k2 k3 k5 : Option Value} {B newId initId : String}
/-- the look at the arguments of __new__, keywords among them -/
theorem look_new (F : ExcBaseFacts B newId initId bmB) (hT : ∀ X : String, bm.contains (.type X) = bmB.contains (.type X)) {rest : List Value} {kw : List (Str × Value)} {Q : Unit → Shared → Prop}
    (hC : h.get? C = some (excClassObj nm q C N bs bm hdct sn sub ab col dd k0 k1 k2 k3 k5 newId)) (hq : Q () ⟨h, g, d, t, os⟩) : wpAny M A (checkBuiltinCall newId ⟨.ref C :: rest, kw⟩) Q E ⟨h, g, d, t, os⟩ := by
  have hcont : (Value.ref C :: bm).contains (.type B) = true := by rw [List.contains_cons, hT, F.hasB, Bool.or_true]
  have hstar := F.noStar
  simp only [checkBuiltinCall, F.newKind, F.newSplit, F.newRow]
  repeat (first | refine wpAny_loadPart_at hC ?_ | (refine wpAny_isSubtype_exc hC ?_; rw [hcont]) | refine wpAny_staticBase_exc hC ?_ | refine wpAny_madeBy_exc hC ?_ | simp only [bne_self_eq_false, Bool.false_eq_true, if_false] | wp_step)
  exact hq
end
section
variable {prog : Program} {w : World} {A : Around} {E : Value → Shared → Prop} {R : Result → Shared → Prop} {h : Heap} {g : Array GenState} {d : Drawn} {t : Nat} {os : OsState}
variable {nm q : Str} {C N : Addr} {bs bm bmB : List Value} {hdct : Bool} {sn : List Str} {sub : List Value} {ab : Bool} {col : Option Bool} {dd : Option Addr} {k0 k1 k2 k3 k5 : Option Value} {B newId initId : String}
theorem made_new (F : ExcBaseFacts B newId initId bmB) (hT : ∀ X : String, bm.contains (.type X) = bmB.contains (.type X)) {rest : List Value} {kw : List (Str × Value)}
    (hC : h.get? C = some (excClassObj nm q C N bs bm hdct sn sub ab col dd k0 k1 k2 k3 k5 newId))
    (hq : R (.ok (.ret (.ref (h.objs.size + 1)))) ⟨(h.push { cls := .type "tuple", data := .seq rest.toArray }).push
      { cls := .ref C, data := .fields #[.ref h.objs.size, .none, .none, .none, .bool false, .none] }, g, d, t, os⟩) (hrest : rest.length ≤ sizeLine) :
    codeAny (model prog w) A (.builtin newId ⟨.ref C :: rest, kw⟩) R ⟨h, g, d, t, os⟩ := by
  have hends := F.ends
  have hcB : (Value.ref C :: bm).contains (.type B) = true := by rw [List.contains_cons, hT, F.hasB, Bool.or_true]
  have hcA : (Value.ref C :: bm).contains (.type "AttributeError") = false := by rw [List.contains_cons, hT, F.noAttr]; rfl
  have hcN : (Value.ref C :: bm).contains (.type "NameError") = false := by rw [List.contains_cons, hT, F.noName]; rfl
  refine codeAny_builtinAt F.entry ?_
  unfold Builtin.«BaseException.__new__»
  refine wpAt_bind ?_
  show wpAt _ _ _ (stack >>= _) _ _ _
  refine wpAt_bind (wpAt_stack fun p below => wpAt_of_wpAny ?_)
  wp_walk
  refine wpAt_of_wpAny ?_
  rw [F.owner]
  repeat (first | with_reducible refine wpAny_madeHere_exc F.canon hC ?_ | with_reducible refine wpAny_loadPart_at hC ?_ | (with_reducible refine wpAny_isSubtype_exc hC ?_; first | rw [hcB] | rw [hcA] | rw [hcN]) | wp_step)
  show R _ _
  rw [Heap.size_push]
  exact hq
theorem made_type (F : ExcBaseFacts B newId initId bmB) (hT : ∀ X : String, bm.contains (.type X) = bmB.contains (.type X)) {rest : List Value} {kw : List (Str × Value)} {fI : Addr} {Q : Fin → Shared → Prop}
    (hC : h.get? C = some (excClassObj nm q C N bs bm hdct sn sub ab col dd k0 k1 k2 k3 k5 newId))
    (hi : W.Looks (model prog w) h (typeLookup (.ref C) "__init__") (some (.ref fI))) (hb : ∀ self, W.Looks (model prog w) h (bindSpecial (.ref fI) self) (.ref fI, [self])) (hrest : rest.length ≤ sizeLine)
    (hq : codeAny (model prog w) A (.call (.ref fI) ⟨.ref (h.objs.size + 1) :: rest, kw⟩)
      (fun r s' => match r with | .ok (.ret v) => v = .none ∧ Q (.done (.ret (.ref (h.objs.size + 1)))) s' | .ok _ => False | .error e => E e s')
      ⟨(h.push (W.kdv_tup rest)).push (excO C h.objs.size), g, d, t, os⟩) :
    wpAny (model prog w) A (Builtin.«type.__call__» ⟨.ref C :: rest, kw⟩) Q E ⟨h, g, d, t, os⟩ := by
  repeat (first | with_reducible refine wpAny_loadPart_at hC ?_ | with_reducible refine wpAny_madeBy_exc hC ?_ | wp_step)
  refine codeAny_call_builtin_code (Code.quiet_builtin _ F.quiet) (look_new F hT hC ?_)
  refine made_new F hT hC ?_ hrest
  show wpAny _ _ _ _ _ _
  have k : ∀ b o, h.get? b = some o → ((h.push (W.kdv_tup rest)).push (excO C h.objs.size)).get? b = some o := fun b o e => Heap.get?_push_of_some _ (Heap.get?_push_of_some _ e)
  have hC₁ := k _ _ hC
  have hget : ((h.push (W.kdv_tup rest)).push (excO C h.objs.size)).get? (h.objs.size + 1) = some (excO C h.objs.size) := by heap_get
  have hcC : (Value.ref C :: bm).contains (.ref C) = true := by simp
  have i1 := hi.keeps k
  have b1 := (hb (.ref (h.objs.size + 1))).keeps k
  unfold isInstance
  repeat (first | with_reducible refine wpAny_loadPart_at hget ?_ | (with_reducible refine wpAny_isSubtype_exc hC₁ ?_; rw [hcC]) | wp_step)
  show wpAny _ _ (typeLookup (.ref C) _) _ _ _
  refine i1.at ?_
  refine wpAny_holding (wpAny_bind (b1.at ?_))
  refine wpAny_bind (wpAny_call (codeAny_mono hq fun r s' z => ?_))
  rcases r with e | (v | _ | _ | _) <;> first | exact z | exact z.elim | skip
  obtain ⟨rfl, z⟩ := z
  first
    | exact wpAny_pure (wpAny_pure z)
    | (wp_walk; exact z)
theorem made_call (F : ExcBaseFacts B newId initId bmB) (hT : ∀ X : String, bm.contains (.type X) = bmB.contains (.type X)) {rest : List Value} {kw : List (Str × Value)} {fI : Addr}
    (hC : h.get? C = some (excClassObj nm q C N bs bm hdct sn sub ab col dd k0 k1 k2 k3 k5 newId))
    (hi : W.Looks (model prog w) h (typeLookup (.ref C) "__init__") (some (.ref fI))) (hb : ∀ self, W.Looks (model prog w) h (bindSpecial (.ref fI) self) (.ref fI, [self])) (hrest : rest.length ≤ sizeLine)
    (hq : codeAny (model prog w) (A.under (.builtin "type.__call__" ⟨.ref C :: rest, kw⟩)) (.call (.ref fI) ⟨.ref (h.objs.size + 1) :: rest, kw⟩) (W.InitBack (h.objs.size + 1) R)
      ⟨(h.push (W.kdv_tup rest)).push (excO C h.objs.size), g, d, t, os⟩) :
    codeAny (model prog w) A (.call (.ref C) ⟨rest, kw⟩) R ⟨h, g, d, t, os⟩ := by
  have f1 := tc_lookup
  have f2 := tc_bind (.ref C)
  have hTy : (⟨h, g, d, t, os⟩ : Shared).TypeIs (.ref C) "type" := ⟨_, hC, rfl⟩
  refine codeAny_of_tree ?_
  show wpAny _ _ (callAny (.ref C) _) _ _ _
  repeat (any_goals (first | assumption | with_reducible refine wpAny_loadPart_at hC ?_ | wp_step))
  refine ⟨rfl, ?_⟩
  refine codeAny_call_builtin_at (Code.quiet_builtin _ (by decide +kernel)) entry_typeCall (wpAny_check_type_call_sub hC (made_type F hT hC hi hb hrest ?_))
  refine codeAny_mono hq fun r s' z => ?_
  rcases r with e | (v | _ | _ | _) <;> exact z
end
section
variable {prog : Program} {w : World} {A : Around} {R : Result → Shared → Prop} {hp : Heap} {g : Array GenState} {d : Drawn} {t : Nat} {os : OsState}
/-- a further field -/
theorem further_field {K : W.Frag} {name : Str} {tk : Tok} {v : Value} {x C dx : Addr} {fv : Array Value} {cd : ClassData} {m0 : Str → Option Value} {nl : List Str}
    (X : K.In hp) (hx : hp.get? x = some { cls := .ref C, dict := some dx, data := .fields fv }) (hns : hp.Ns1 dx m0) (hw : Within m0 nl) (hz : nl.length ≤ 1000) (hcd : W.clsIn K C = some cd) (hm : refsE cd.mro = true) (hh : cd.hasDict = true)
    (ha : W.findIn K (.ref C) name = some none)
    (hq : ∀ h' tk', (∀ b o, b ≠ dx → hp.get? b = some o → h'.get? b = some o) → h'.Ns1 dx (fun y => if y = name then some v else m0 y) → R (.ok (.ret .none)) ⟨h', g, d, tk', os⟩) :
    codeAny (model prog w) A (.call (.builtin "object.__setattr__") ⟨[.ref x, .str name tk, v], []⟩) R ⟨hp, g, d, t, os⟩ := by
  obtain ⟨oD, esD, epD, hoD, hdD, _⟩ := hns.count hw
  have I : W.InstAt hp x { cls := .ref C, dict := some dx, data := .fields fv } C (some oD) := ⟨hx, rfl, rfl, hoD⟩
  have SF := F.store_object
  have o1 : cd.mro.contains (.type "object") = true := (refsE_has "object" _ hm).trans (by decide +kernel)
  have isO : W.Looks (model prog w) hp (isInstance (.ref x) (.type "object")) true := I.type.andThen (W.looks_mroIn X (by
    unfold W.mroIn
    rw [hcd, Option.bind_some, if_neg (by rw [refsE_some hm]; decide), o1]))
  refine codeAny_call_builtin SF.slot.plain SF.entry ?_
  refine @W.check_slot (model prog w) _ _ ⟨hp, g, d, t, os⟩ "object.__setattr__" "object" "__setattr__" (.ref x) [.str name tk, v] [] _ SF.kind SF.split isO (SF.args (.ref x) (.str name tk) v) ?_
  have M1 : W.Looks (model prog w) hp (mroOf (.ref C)) cd.mro := (W.looks_clsIn X hcd).andThen .now
  have M2 : W.Looks (model prog w) hp (storeTaker? none) none := .now
  have M3 : W.Looks (model prog w) hp (classData C) cd := W.looks_clsIn X hcd
  rw [W.osa_eq, refuse_eq]
  refine wpAny_bind (wpAny_bind (I.type.at (wpAny_bind (M1.at ?_))))
  rw [refsE_go _ _ hm]
  refine wpAny_pure (wpAny_bind (I.type.at (wpAny_bind ((W.looks_findIn X ha).at (wpAny_bind (M2.at ?_))))))
  show wpAny _ _ (storeInOwnDict (.ref x) (.ref C) (.str name tk) name v false) _ _ _
  obtain ⟨c1, c2, mro, c3, c4, c5, c6, c7, c8, c9, c10⟩ := cd
  dsimp only at hh
  subst hh
  unfold storeInOwnDict ownDictForStores
  repeat (first | with_reducible refine OEX.store_in_old hns hw hz ?_ | with_reducible refine wpAny_loadPart_at hx ?_ | with_reducible refine M3.at ?_ | wp_step)
  intro h' tk' hn' hs
  exact hq h' tk' (fun b o hb ho => (hs.2 b hb).trans ho) hn'
end
end XuP
end PySem
namespace Xu
open PySem PySem.Spec PyProof.Rows L2 Xe
/-- a new exception of the class at C stands at a, its dict at dx; all else is as it was -/
structure Made (H H' : Hp) (a dx C : Addr) (fs : List (PySem.Str × V)) : Prop where
  na : H a = none
  nd : H dx = none
  ne : dx ≠ a
  at_ : H' a = some (exo a C (some dx))
  dict : H' dx = some (exd dx fs)
  rest : ∀ b, b ≠ a → b ≠ dx → H' b = H b
theorem Made.same {H H' : Hp} {a dx C : Addr} {fs : List (PySem.Str × V)} (m : Made H H' a dx C fs) : ∀ b o, H b = some o → H' b = some o := fun b o e => by
  rw [m.rest b (fun z => by rw [z, m.na] at e; cases e) (fun z => by rw [z, m.nd] at e; cases e)]
  exact e
theorem Made.first {H : Hp} {a dx C : Addr} {f : PySem.Str} {y : V} (na : H a = some (exo a C none)) (nd : H dx = none) (ne : dx ≠ a) {H0 : Hp} (h0 : H0 a = none) (hr : ∀ b, b ≠ a → H b = H0 b) :
    Made H0 (upd (upd H dx (exd dx [(f, y)])) a (exo a C (some dx))) a dx C [(f, y)] :=
  ⟨h0, by rw [← hr dx ne]; exact nd, ne, upd_same, by rw [upd_ne ne]; exact upd_same, fun b h1 h2 => by rw [upd_ne h1, upd_ne h2]; exact hr b h1⟩
theorem Made.more {H H' : Hp} {a dx C : Addr} {fs gs : List (PySem.Str × V)} (m : Made H H' a dx C fs) : Made H (upd H' dx (exd dx gs)) a dx C gs :=
  ⟨m.na, m.nd, m.ne, by rw [upd_ne (Ne.symm m.ne)]; exact m.at_, upd_same, fun b h1 h2 => by rw [upd_ne h2]; exact m.rest b h1 h2⟩
section
variable {X : Cx} {pins : List (Addr × Obj)} {σ : L2.St} {H : Hp} {s : Shared} {a C dx : Addr} {f : PySem.Str} {fs : List (PySem.Str × V)} {y : V} {u : Value} {Q : Unit → Shared → Prop} {E : Value → Shared → Prop} {A : Around}
/-- self.f = y, a further field -/
theorem store_more (T : OxE X.K C) (I : Inv X pins σ H s) (e : H a = some (exo a C (some dx))) (ed : H dx = some (exd dx fs)) (hl : fs.length ≤ 900) (hno : PySem.W.findIn X.K (.ref C) f = some none) (ry : RelV y u)
    (h : ∀ s', Inv X pins σ (upd H dx (exd dx ((f, y) :: fs))) s' → Q () s') : wpAny (model X.prog X.w) A (setAttr (.ref a) f u) Q E s := by
  obtain ⟨nm, q, N, bs, bm, sn, sub, ab, col, dd, k0, k1, k2, k3, k5, hC, hbm⟩ := T.cls
  have hcl : PySem.W.clsIn X.K C = some { name := nm, bases := bs, mro := .ref C :: bm, ns := N, qualname := q, hasDict := true, slotNames := sn, subclasses := sub, abstract := ab, collection := col, hasDel := false } := by
    unfold PySem.W.clsIn
    rw [hC] <;> rfl
  obtain ⟨t1, ho⟩ := exo_at I.hok e
  obtain ⟨mA, hns, rel⟩ := exd_at I.hok ed
  have hw := within_of rel
  obtain ⟨hp, g, d, t, os⟩ := s
  obtain ⟨oD, _, _, hoD, _, _⟩ := hns.count hw
  refine PySem.W.set_plain I.kIn (ox := { cls := .ref C, dict := some dx, data := .fields #[.ref t1, .none, .none, .none, .bool false, .none] }) (od := some oD) ⟨ho, rfl, rfl, hoD⟩ T.sa ?_
  refine PySem.XuP.further_field I.kIn ho hns hw (by rw [List.length_map]; omega) hcl (show PySem.XeP.refsE (.ref C :: bm) = true from hbm) rfl hno (fun h' tk' k hn => ?_)
  obtain ⟨od, hod⟩ : ∃ o, h'.get? dx = some o := let ⟨o, _, _, e', _⟩ := hn; ⟨o, e'⟩
  exact h _ (I.write (t' := tk') (x := dx) (e := dx) (o := exd dx ((f, y) :: fs)) (by rw [ed]; exact True.intro) (.inl rfl) k ⟨od, hod⟩ (exd_ok hn (relO_put ry rel)))
end
/-- self.f = e in an exception's __init__ -/
def tPut (K : PySem.W.Frag) (f : PySem.Str) (to te : TE) : TS := fun D σ H => te σ H fun y H1 => to σ H1 fun x H2 => ∃ a C : Addr, x = .ref a ∧ OxE K C ∧ PySem.W.findIn K (.ref C) f = some none ∧
  ((H2 a = some (exo a C none) ∧ ∀ dx, H2 dx = none → dx ≠ a → D.nx σ (upd (upd H2 dx (exd dx [(f, y)])) a (exo a C (some dx)))) ∨
    ∃ (dx : Addr) (fs : List (PySem.Str × V)), H2 a = some (exo a C (some dx)) ∧ H2 dx = some (exd dx fs) ∧ fs.length ≤ 900 ∧ D.nx σ (upd H2 dx (exd dx ((f, y) :: fs))))
/-- the promise of an __init__ that stores its parameters in the fields gs -/
def spIni (C : Addr) (gs : List PySem.Str) : Sp := fun vs H Q _ => ∃ (a : Addr) (ws : List V) (H0 : Hp), vs = .ref a :: ws ∧ ws.length = gs.length ∧ H a = some (exo a C none) ∧ H0 a = none ∧ (∀ b, b ≠ a → H b = H0 b) ∧
  ∀ dx H', Made H0 H' a dx C (gs.zip ws).reverse → Q .non H'
section
variable {X : Cx} {o e : Expr} {es : List Expr} {to te : TE} {ta : TA} {f : PySem.Str} {p p' pos : Pos}
theorem ps_put (ho : PE X o to) (he : PE X e te) (hs : swapsWith e (some (.Attribute o f p')) pos.line X.env = pure false := by rfl) : PS X (.Assign [.Attribute o f p'] e pos) (tPut X.K f to te) := by
  refine ⟨fun pins s σ H D I h => plainObj_wpAny_Assign_Attribute (thn (he.run pins s σ H _ I h) fun v s1 ⟨y, H1, I1, r1, q1⟩ => thn (ho.run pins s1 σ H1 _ I1 q1) fun u s2 ⟨x, H2, I2, r2, a, C, ex, T, hno, q⟩ => ?_) hs⟩
  subst ex
  obtain rfl : u = Value.ref a := r2
  rcases q with ⟨ea, q⟩ | ⟨dx, fs, ea, ed, hl, q⟩
  · exact store_one T I2 ea hno r1 fun dx s' n ne J => ⟨σ, _, J, q dx n ne⟩
  · exact store_more T I2 ea ed hl hno r1 fun s' J => ⟨σ, _, J, q⟩
end
/-- what the walk of a class asks of it -/
structure ExT (K : PySem.W.Frag) (C : Addr) : Prop where
  ox : OxE K C
  xf : XfC K C
  xc : ExcC K C
/-- C(..) as a value -/
def tMkV (C : Addr) (gs : List PySem.Str) (sel : List V → List V) (ta : TA) : TE := fun σ H Q => ta σ H fun vs H1 => vs.length = gs.length ∧ ∀ a dx H2, Made H1 H2 a dx C (gs.zip (sel vs)).reverse → Q (.ref a) H2
/-- C(..) for a raise -/
def tMkR (C : Addr) (gs : List PySem.Str) (ta : TA) : L2.St → Hp → XK → Prop := fun σ H Q => ta σ H fun vs H1 => vs.length = gs.length ∧ ∀ d, H1 d = none → Q (.ref C) (some d) (upd H1 d (.xd (gs.zip vs).reverse))
section
variable {X : Cx} {CX : CXT} {C fI : Addr} {k : Nat} {fd : FuncData} {ps gs ks : List PySem.Str}
/-- the call of the class's object, by position and keywords -/
theorem run_make {pins : List (Addr × Obj)} {σ : L2.St} {H1 : Hp} {s1 : Shared} {us zs : List Value} {vs : List V} {kw : List (PySem.Str × Value)} {R : Value → Shared → Prop} (T : OxE X.K C) (iC : PySem.W.findIn X.K (.ref C) "__init__" = some (some (.ref fI))) (tI : PySem.W.typeIn X.K (.ref fI) = some (.type "function"))
    (F1 : FnOk X.prog X.w X.K X.mg X.base CX k fI fd ps (spIni C gs)) (hr : Room (k + 1) X.A) (hx : Passes CX X (fun _ _ _ => False)) (I1 : Inv X pins σ H1 s1) (hl : us.length ≤ 1000)
    (hb : ∀ (s : Shared) (self : Value), X.K.In s.heap → BindsTo s fd ⟨self :: us, kw⟩ (ps.zip (self :: zs))) (r1 : Vals vs zs) (hz : vs.length = gs.length)
    (h : ∀ a d H2 h2 g2 d2 t2 os2, (∀ b o, s1.heap.get? b = some o → ((s1.heap.push (PySem.W.kdv_tup us)).push (PySem.HandSPX.excO C s1.heap.objs.size)).get? b = some o) → a = s1.heap.objs.size + 1 → s1.heap.objs.size ≤ a →
      Un (frs X.stack) [] (upd H1 a (exo a C none)) H2 ((s1.heap.push (PySem.W.kdv_tup us)).push (PySem.HandSPX.excO C s1.heap.objs.size)) h2 → HOk X.prog X.w H2 h2 → os2 = s1.os → AllBare g2 →
      Made H1 H2 a d C (gs.zip vs).reverse → (Inv X pins σ H2 ⟨h2, g2, d2, t2, os2⟩) → R (.ref a) ⟨h2, g2, d2, t2, os2⟩) :
    wpAny (model X.prog X.w) X.A (call (.ref C) us kw) R X.xe s1 := by
  obtain ⟨nm, q, N, bs, bm, sn, sub, ab, col, dd, k0, k1, k2, k3, k5, hC, hbm⟩ := T.cls
  obtain ⟨hp, g, dr, tk, os⟩ := s1
  have n1 : H1 (hp.objs.size + 1) = none := I1.hok.fresh (Nat.le_succ _)
  have kk : ∀ b o, hp.get? b = some o → ((hp.push (PySem.W.kdv_tup us)).push (PySem.HandSPX.excO C hp.objs.size)).get? b = some o := fun b o e => Heap.get?_push_of_some _ (Heap.get?_push_of_some _ e)
  have at1 : ((hp.push (PySem.W.kdv_tup us)).push (PySem.HandSPX.excO C hp.objs.size)).get? (hp.objs.size + 1) = some (PySem.HandSPX.excO C hp.objs.size) := by heap_get
  have I2 : Inv X pins σ (upd H1 (hp.objs.size + 1) (exo (hp.objs.size + 1) C none)) ⟨(hp.push (PySem.W.kdv_tup us)).push (PySem.HandSPX.excO C hp.objs.size), g, dr, tk, os⟩ := I1.laid (t' := tk) kk (Nat.le_succ _) (exo_ok at1)
  have r2 : Vals (V.ref (hp.objs.size + 1) :: vs) (Value.ref (hp.objs.size + 1) :: zs) := .cons rfl r1
  have l3 : us.length ≤ sizeLine := by
    rw [sizeLine_eq]
    omega
  have hsp : spIni C gs (V.ref (hp.objs.size + 1) :: vs) (upd H1 (hp.objs.size + 1) (exo (hp.objs.size + 1) C none)) (fun v H2 => v = .non ∧ ∃ d, Made H1 H2 (hp.objs.size + 1) d C (gs.zip vs).reverse) (fun _ _ _ => False) :=
    ⟨_, vs, H1, rfl, hz, upd_same, n1, fun b hb => upd_ne hb, fun dx H' m => ⟨rfl, dx, m⟩⟩
  refine wpAny_call (PySem.XuP.made_call F.excBase_Exception (fun Y => PySem.XeP.refsE_has Y bm hbm) (I1.kIn _ _ hC) (PySem.W.looks_findIn I1.kIn iC) (fun self => PySem.W.bind_fn I1.kIn self tI) l3
    (codeAny_mono (F1.run _ X.stack _ _ ⟨Value.ref (hp.objs.size + 1) :: us, kw⟩ (Value.ref (hp.objs.size + 1) :: zs) _ _ (fun _ _ _ => False) (hr.make C us kw) (I2.env0.make C us kw) (hb _ _ I2.kIn) r2 hsp) fun r s' hq' => ?_))
  cases r with
  | error er => exact hx pins σ _ _ er s' I2 hq'
  | ok fl =>
    cases fl with
    | ret u =>
      have hq2 := hq'
      obtain ⟨v, H2, os2, bare2, un2, hok2, rv, ev, d, m⟩ := hq'
      subst ev
      obtain ⟨v', H', J, rv', ev', _⟩ := I2.after (Q := fun v H3 => v = V.non ∧ H3 = H2) ⟨_, H2, os2, bare2, un2, hok2, rv, rfl, rfl⟩
      obtain ⟨_, rfl⟩ := (show v' = V.non ∧ H' = H2 from ⟨ev', by assumption⟩)
      obtain ⟨h2, g2, d2, t2, os'⟩ := s'
      exact ⟨rv, h _ d _ h2 g2 d2 t2 os' kk rfl (Nat.le_succ _) un2 hok2 os2 bare2 m J⟩
    | next => exact False.elim hq'
    | brk => exact False.elim hq'
    | cont => exact False.elim hq'
end
end Xu
set_option Elab.async false
set_option linter.all false
set_option maxRecDepth 100000
set_option maxHeartbeats 4000000
/-! Xw: the rules: C(..) as a value and for a raise, e.f, isinstance of an exception (held, or caught). -/
namespace Xw
open PySem PySem.Spec PyProof.Rows L2 Xe Xu
/-- how C(k = v, ..) binds -/
structure KBE (K : PySem.W.Frag) (fd : FuncData) (ps ks : List PySem.Str) (gW : List Value → List Value) (gV : List V → List V) : Prop where
  to : ∀ (s : Shared) (self : Value) (ws : List Value), ws.length = ks.length → BindsTo s fd ⟨[self], ks.zip ws⟩ (ps.zip (self :: gW ws))
  rel : ∀ {zs : List V} {ws : List Value}, Vals zs ws → Vals (gV zs) (gW ws)
  len : ∀ zs : List V, zs.length = ks.length → (gV zs).length = ks.length
theorem kbE {K : PySem.W.Frag} {x qual : PySem.Str} {st : Stmt} {f : Addr} {fd : FuncData} {ps ks : List PySem.Str} {gW : List Value → List Value} {gV : List V → List V} (F : Fun K x qual st f fd)
    (h : ∀ (kV doc pm : Value) (an : Option Addr) (cdv ct self : Value) (ws : List Value), ws.length = ks.length → bindArgs (PySem.W.fnOf x qual (defArgs st) (defBody st) (defScope st) .none kV doc pm an cdv ct) ⟨[self], ks.zip ws⟩ = pure (ps.zip (self :: gW ws)))
    (r : ∀ {zs : List V} {ws : List Value}, Vals zs ws → Vals (gV zs) (gW ws)) (l : ∀ zs : List V, zs.length = ks.length → (gV zs).length = ks.length) : KBE K fd ps ks gW gV := by
  obtain ⟨oc, od, kV, doc, pm, an, cdv, ct, osl, rfl, lk, hcd⟩ := F.ex
  exact ⟨fun s self ws hl => .of_eq (h kV doc pm an cdv ct self ws hl), r, l⟩
section
variable {X : Cx} {CX : CXT} {x : PySem.Str} {C fI : Addr} {k : Nat} {fd : FuncData} {ps gs ks : List PySem.Str} {e : Expr} {es : List Expr} {kws : List Keyword} {ta tk : TA} {p pos : Pos} {gW : List Value → List Value} {gV : List V → List V}
/-- C(e, ..), a value -/
theorem pe_mkE (T : OxE X.K C) (iC : PySem.W.findIn X.K (.ref C) "__init__" = some (some (.ref fI))) (tI : PySem.W.typeIn X.K (.ref fI) = some (.type "function"))
    (F1 : FnOk X.prog X.w X.K X.mg X.base CX k fI fd ps (spIni C gs)) (hr : Room (k + 1) X.A) (hb : Binds X.K fd ps []) (hps : ps.length = gs.length + 1) (hx : Passes CX X (fun _ _ _ => False)) (hg : Gl X x) (hm : X.mg x = some (.ref C)) (ha : PA X (e :: es) ta)
    (hs : gs.length ≤ 900 := by decide) (hdb : (x == ("__debug__" : PySem.Str)) = false := by decide) (he : starEach (e :: es) X.env = (false, eval e X.env) :: starEach es X.env := by rfl) (hpl : (backTo pos (starEach es X.env)).any (·.1) = false := by rfl) :
    PE X (.Call (.Name x p) (e :: es) [] pos) (tMkV C gs id ta) := by
  refine ⟨fun pins s σ H Q I h => ?_⟩
  refine wpAny_Call_Name_kw (ld_glob I hg hm (PySem.W.callWith_K (h₀ := X.base) I.ok.mod.kin T.kC (thn (ha.run pos pins s σ H _ I h) fun us s1 ⟨vs, H1, I1, r1, hz, q1⟩ => ⟨I1.kIn, ?_⟩) he hpl) hdb)
  have hl : us.length = gs.length := by rw [← Paired.length r1]; exact hz
  refine run_make T iC tI F1 hr hx I1 (by show us.length ≤ 1000; omega) (fun s self k => ?_) r1 hz (fun a d H2 h2 g2 d2 t2 os2 _ _ _ _ _ _ _ m J => ⟨.ref a, H2, J, rfl, q1 a d H2 m⟩)
  have b := hb s (self :: us) k (by rw [List.append_nil, List.length_cons, hl, hps])
  rw [List.append_nil] at b
  exact b
/-- C(k = v, ..), a value -/
theorem pe_mkEK (T : OxE X.K C) (iC : PySem.W.findIn X.K (.ref C) "__init__" = some (some (.ref fI))) (tI : PySem.W.typeIn X.K (.ref fI) = some (.type "function"))
    (F1 : FnOk X.prog X.w X.K X.mg X.base CX k fI fd ps (spIni C gs)) (hr : Room (k + 1) X.A) (hb : KBE X.K fd ps ks gW gV) (hps : ks.length = gs.length) (hx : Passes CX X (fun _ _ _ => False)) (hg : Gl X x) (hm : X.mg x = some (.ref C)) (hkw : PK X kws tk)
    (hall : (backToKw pos (keywordEach kws X.env)).all (·.1.isSome) = true := by rfl) (hks : (backToKw pos (keywordEach kws X.env)).filterMap (·.1) = ks := by rfl)
    (hdb : (x == ("__debug__" : PySem.Str)) = false := by decide) (hpl : ((backTo pos (starEach [] X.env)).any (·.1) || (backToKw pos (keywordEach kws X.env)).any (·.1.isNone)) = false := by rfl) :
    PE X (.Call (.Name x p) [] kws pos) (tMkV C gs gV tk) := by
  refine ⟨fun pins s σ H Q I h => wpAny_Call_Name_kw (ld_glob I hg hm ?_ hdb)⟩
  refine PySem.W.callWith_KW0 (h₀ := X.base) I.ok.mod.kin T.kC hall ?_ hpl
  refine thn (hkw.run pos pins s σ H _ I h) fun ws s2 ⟨zs, H2, I2, rz, l2, q2⟩ => ⟨I2.kIn, ?_⟩
  rw [hks, List.append_nil]
  have l3 : zs.length = ks.length := by rw [l2, hps]
  have hw : ws.length = ks.length := by rw [← Paired.length rz]; exact l3
  exact run_make (us := []) T iC tI F1 hr hx I2 (Nat.zero_le _) (fun s self k => hb.to s self ws hw) (hb.rel rz) (by rw [hb.len zs l3, hps]) (fun a d H3 h2 g2 d2 t2 os2 _ _ _ _ _ _ _ m J => ⟨.ref a, H3, J, rfl, q2 a d H3 m⟩)
/-- C(e, ..), for a raise -/
theorem pmk_E (T : OxE X.K C) (iC : PySem.W.findIn X.K (.ref C) "__init__" = some (some (.ref fI))) (tI : PySem.W.typeIn X.K (.ref fI) = some (.type "function"))
    (F1 : FnOk X.prog X.w X.K X.mg X.base CX k fI fd ps (spIni C gs)) (hr : Room (k + 1) X.A) (hb : Binds X.K fd ps []) (hps : ps.length = gs.length + 1) (hx : Passes CX X (fun _ _ _ => False)) (hg : Gl X x) (hm : X.mg x = some (.ref C)) (ha : PA X (e :: es) ta)
    (hs : gs.length ≤ 900 := by decide) (hdb : (x == ("__debug__" : PySem.Str)) = false := by decide) (he : starEach (e :: es) X.env = (false, eval e X.env) :: starEach es X.env := by rfl) (hpl : (backTo pos (starEach es X.env)).any (·.1) = false := by rfl) :
    L2N.PMk X (.Call (.Name x p) (e :: es) [] pos) (tMkR C gs ta) := by
  intro pins s σ H Q I h
  refine wpAny_Call_Name_kw (ld_glob I hg hm (PySem.W.callWith_K (h₀ := X.base) I.ok.mod.kin T.kC (thn (ha.run pos pins s σ H _ I h) fun us s1 ⟨vs, H1, I1, r1, hz, q1⟩ => ⟨I1.kIn, ?_⟩) he hpl) hdb)
  have hl : us.length = gs.length := by rw [← Paired.length r1]; exact hz
  refine run_make T iC tI F1 hr hx I1 (by show us.length ≤ 1000; omega) (fun s self k => ?_) r1 hz (fun a d H2 h2 g2 d2 t2 os2 kk ea hle un hok ho hbare m J => ?_)
  · have b := hb s (self :: us) k (by rw [List.append_nil, List.length_cons, hl, hps])
    rw [List.append_nil] at b
    exact b
  · obtain ⟨hp, g, dr, tk0, os⟩ := s1
    obtain ⟨t0, G, J2, kG, ge, hoe, na⟩ := mk_end0 (d2 := d2) (t2 := t2) I1 hle kk un hok ho hbare m.at_ m.dict m.nd
    have eH : upd (del H2 a) d (.xd (gs.zip vs).reverse) = upd H1 d (.xd (gs.zip vs).reverse) := by
      funext b
      by_cases h1 : b = d
      · rw [h1, upd_same, upd_same]
      · rw [upd_ne h1, upd_ne h1]
        by_cases h2 : b = a
        · rw [h2, del_same, m.na]
        · rw [del_ne h2]
          exact m.rest b h2 h1
    rw [eH] at J2 na
    exact ⟨a, _, _, ⟨G, g2, d2, t2, os2⟩, _, .ref C, some d, rfl, J2, kG, ge, hoe, ⟨rfl, rfl, fun vs hv => by cases hv; rfl⟩, rfl, rfl, na, rfl, hbare, raises_own T.exC T.tyC, q1 d m.nd⟩
end
section
variable {X : Cx} {x : PySem.Str} {C : Addr} {p pos : Pos}
/-- C(), no own __init__: a value -/
theorem pe_mk0 (q : PySem.W.excIn X.K C PySem.XeP.tailE "Exception.__new__" = true) (kC : PySem.W.keepIn X.K (.ref C) = true) (hg : Gl X x) (hm : X.mg x = some (.ref C)) (hdb : (x == ("__debug__" : PySem.Str)) = false := by decide) :
    PE X (.Call (.Name x p) [] [] pos) (fun _ H Q => ∀ a, H a = none → Q (.ref a) (upd H a (exo a C none))) := by
  refine ⟨fun pins s σ H Q I h => wpAny_Call_Name_kw (ld_glob I hg hm (PySem.W.callWith_K0 I.kIn kC ?_) hdb)⟩
  obtain ⟨bm, N, nm, qn, bs, hdct, sn, sub, ab, col, dd, k0, k1, k2, k3, k5, mN, hC, hN, hni, T⟩ := exc_obj I.kIn q
  obtain ⟨hp, g, d, t, os⟩ := s
  refine wpAny_call_exc_subT F.excBase_Exception T hC hN hni (fun h' a hm => ?_) (Nat.zero_le _)
  have hn : H a = none := I.hok.gone hm.new
  obtain ⟨t1, ht, _, _⟩ := hm.there
  exact ⟨.ref a, upd H a (exo a C none), I.laidN hm.keeps hm.new hn (exo_ok ht), rfl, h a hn⟩
/-- .. for a raise -/
theorem pmk_0 (q : PySem.W.excIn X.K C PySem.XeP.tailE "Exception.__new__" = true) (kC : PySem.W.keepIn X.K (.ref C) = true) (r : Raises X (.ref C)) (hg : Gl X x) (hm : X.mg x = some (.ref C)) (hdb : (x == ("__debug__" : PySem.Str)) = false := by decide) :
    L2N.PMk X (.Call (.Name x p) [] [] pos) (fun _ H Q => Q (.ref C) none H) := by
  intro pins s σ H Q I h
  refine wpAny_Call_Name_kw (ld_glob I hg hm (PySem.W.callWith_K0 I.kIn kC ?_) hdb)
  obtain ⟨bm, N, nm, qn, bs, hdct, sn, sub, ab, col, dd, k0, k1, k2, k3, k5, mN, hC, hN, hni, T⟩ := exc_obj I.kIn q
  obtain ⟨hp, g, d, t, os⟩ := s
  refine wpAny_call_exc_subT F.excBase_Exception T hC hN hni (fun h' e hm => ?_) (Nat.zero_le _)
  exact L2N.mk_of I hm r h (I.hok.gone hm.new)
end
/-- e.f, e an exception that is held -/
def tXo (K : PySem.W.Frag) (f : PySem.Str) (te : TE) : TE := fun σ H Q => te σ H fun x H1 => ∃ (a C dx : Addr) (fs : List (PySem.Str × V)) (v : V), x = .ref a ∧ XfC K C ∧ PySem.W.findIn K (.ref C) f = some none ∧ H1 a = some (exo a C (some dx)) ∧ H1 dx = some (exd dx fs) ∧ fs.lookup f = some v ∧ Q v H1
theorem pe_xo {X : Cx} {e : Expr} {te : TE} {pos : Pos} {f : PySem.Str} (he : PE X e te) (hb : attributeBase e f X.env (eval e X.env) = eval e X.env := by rfl) : PE X (.Attribute e f pos) (tXo X.K f te) := by
  refine ⟨fun pins s σ H Q I h => attr_of hb (thn (he.run pins s σ H _ I h) fun u s1 ⟨x, H1, I1, rx, a, C, dx, fs, v, ex, T, hno, ea, ed, l, q⟩ => ?_)⟩
  subst ex
  obtain rfl : u = Value.ref a := rx
  obtain ⟨t1, ho⟩ := exo_at I1.hok ea
  obtain ⟨mA, hns, rel⟩ := exd_at I1.hok ed
  obtain ⟨od, hd, hl⟩ := lookIn_ns hns
  obtain ⟨u, hu, ru⟩ := RelO.some_of (v := v) (o := mA f) (by rw [← l]; exact rel f)
  have J : PySem.W.InstAt s1.heap a { cls := .ref C, dict := some dx, data := .fields #[.ref t1, .none, .none, .none, .bool false, .none] } C (some od) := ⟨ho, rfl, rfl, hd⟩
  exact PySem.HandSPX.exc_get I1.kIn J T.ga T.gg T.exC (PySem.W.findObj_own T.hdC hno rfl (by rw [hl, hu])) (handed_of ru) ⟨v, H1, I1.tok _, ru, q⟩
/-- at a stands an exception of the class at D -/
def HasE (X : Cx) (H : Hp) (a D : Addr) : Prop := ∀ pins σ s, Inv X pins σ H s → ∃ oe od, PySem.W.InstAt s.heap a oe D od
theorem hasE_0 {X : Cx} {H : Hp} {a D : Addr} (e : H a = some (exo a D none)) : HasE X H a D := fun pins σ s I => by
  obtain ⟨t1, ho⟩ := exo_at I.hok e
  exact ⟨_, none, ho, rfl, rfl, trivial⟩
theorem hasE_1 {X : Cx} {H : Hp} {a D dx : Addr} {fs : List (PySem.Str × V)} (e : H a = some (exo a D (some dx))) (ed : H dx = some (exd dx fs)) : HasE X H a D := fun pins σ s I => by
  obtain ⟨t1, ho⟩ := exo_at I.hok e
  obtain ⟨mA, hns, rel⟩ := exd_at I.hok ed
  obtain ⟨od, hd, hl⟩ := lookIn_ns hns
  exact ⟨_, some od, ho, rfl, rfl, hd⟩
/-- the exception that is caught, its dict tracked -/
theorem hasE_p {X : Cx} {H : Hp} {a D : Addr} {oe : Obj} {d : Option Addr} (hp : (a, oe) ∈ X.pn) (hz : Zc (.ref D) d oe) (hf : ∃ vs, oe.data = .fields vs) (hd : d = none ∨ ∃ dd fs, d = some dd ∧ H dd = some (.xd fs)) : HasE X H a D := fun pins σ s I => by
  obtain ⟨hget, _⟩ := I.pin (a, oe) (List.mem_append_left _ hp)
  obtain ⟨vs, hv⟩ := hf
  have nc : PySem.W.notCls oe = true := by unfold PySem.W.notCls; rw [hv] <;> rfl
  rcases hd with rfl | ⟨dd, fs, rfl, e⟩
  · exact ⟨oe, none, hget, hz.1, nc, by rw [hz.2]; trivial⟩
  · have hx : ObjOk X.prog X.w H s.heap dd (.xd fs) := I.hok dd _ e
    obtain ⟨mA, hns, hr⟩ := hx
    obtain ⟨od, ho, hl⟩ := lookIn_ns hns
    exact ⟨oe, some od, hget, hz.1, nc, by rw [hz.2]; exact ho⟩
section
variable {X : Cx}
/-- isinstance(e, c) -/
def rIsX (X : Cx) : List V → Hp → VK → Prop := fun xs H Q => ∃ (a D : Addr) (c : V) (u : Value) (b : Bool), xs = [.ref a, c] ∧ ExcC X.K D ∧ HasE X H a D ∧ ClsV c u ∧ PySem.W.kitOne X.K (.ref D) u = some b ∧ Q (.bl b) H
theorem call_isX : CallR X (.builtin "isinstance") (rIsX X) := by
  intro pins s σ H xs us Q I r h
  obtain ⟨a, D, c, u, b, rfl, C, hh, k, e, q⟩ := h
  obtain ⟨u1, u2, rfl, r1, r2⟩ := vals2 r
  have e2 := k.eq r2
  subst e2
  obtain rfl : u1 = Value.ref a := r1
  obtain ⟨oe, od, J⟩ := hh pins σ s I
  have hcl : (PySem.W.clsIn X.K D).isSome = true := by
    have := C.hd
    obtain ⟨cd, hc, _⟩ := PySem.W.any_some this
    rw [hc]
    rfl
  exact PySem.W.kia_one (PySem.W.kitx_exc hcl C.hg C.hk C.hs C.ha C.hn C.ht C.hm) I.kIn J e (fun z => nomatch z) fun tk => ⟨.bl b, H, I.tok tk, rfl, q⟩
/-- isinstance(e, (c1, c2, ..)) -/
def rIsXT (X : Cx) : List V → Hp → VK → Prop := fun xs H Q => ∃ (a D tp : Addr) (cs : List V) (us : List Value) (b : Bool), xs = [.ref a, .ref tp] ∧ ExcC X.K D ∧ HasE X H a D ∧ H tp = some (.tup cs) ∧ Paired ClsV cs us ∧ PySem.W.kitAny X.K (.ref D) us = some b ∧ Q (.bl b) H
theorem call_isXT : CallR X (.builtin "isinstance") (rIsXT X) := by
  intro pins s σ H xs us Q I r h
  obtain ⟨a, D, tp, cs, ws, b, rfl, C, hh, hT, k, e, q⟩ := h
  obtain ⟨u1, u2, rfl, r1, r2⟩ := vals2 r
  cases (show u2 = Value.ref tp from r2)
  obtain rfl : u1 = Value.ref a := r1
  obtain ⟨_, its, rv, o, h1, h2, n, h3⟩ := (show ObjOk X.prog X.w H s.heap tp (.tup cs) from I.hok tp _ hT)
  have e3 := ClsV.all k rv
  subst e3
  obtain ⟨oc, od', dt, sl⟩ := o
  simp only at h2 h3
  subst h2 h3
  obtain ⟨oe, od, J⟩ := hh pins σ s I
  have hcl : (PySem.W.clsIn X.K D).isSome = true := by
    have := C.hd
    obtain ⟨cd, hc, _⟩ := PySem.W.any_some this
    rw [hc]
    rfl
  exact PySem.W.kia_tup (PySem.W.kitx_exc hcl C.hg C.hk C.hs C.ha C.hn C.ht C.hm) I.kIn J h1 e (fun z => nomatch z) fun tk => ⟨.bl b, H, I.tok tk, rfl, q⟩
end
end Xw
set_option Elab.async false
set_option linter.all false
set_option maxRecDepth 100000
set_option maxHeartbeats 4000000
/-! Xv: what the written part says of an own exception class over another one that is over Exception; a def that may raise. -/
namespace Xv
open PySem PySem.Spec PyProof.Rows L2 Xe Xu Xw
section
variable {P : Program} {w : World} {K : PySem.W.Frag} {mg : PySem.Str → Option Value} {base : Heap}
/-- a def that may raise -/
theorem okXN {x qual : PySem.Str} {st : Stmt} {f : Addr} {fd : FuncData} {N ps : List PySem.Str} {k : Nat} {sp : Sp} (F : Fun K x qual st f fd) (S : FnScope N ps (defScope st)) (len : ∀ vs H Q E, sp vs H Q E → vs.length = ps.length)
    (hbody : ∀ (cdv : Value) (A : Around) (outer : List Env) (s : Shared) (H : Hp) (vs : List V) (Q : VK) (E : XK), Room k (A.deeper (envOfC qual (defScope st) s.heap.objs.size f cdv)) → sp vs H Q E →
      ∃ t, PSs (cxOf (L2N.CX P w) P w K mg base N qual (defScope st) f cdv A outer s H E) (defBody st) t ∧ t { nx := fun _ H' => Q .non H', rt := Q } (start N vs) H) : FnOk P w K mg base (L2N.CX P w) (k + 1) f fd ps sp := by
  obtain ⟨oc, od, kV, doc, pm, an, cdv, ct, osl, rfl, lk, hcd⟩ := F.ex
  exact fn_of lk hcd S len fun A outer s H vs Q E hr hsp => hbody cdv A outer s H vs Q E hr hsp
end
def mroE (C CF : Addr) : List Value := [.ref C, .ref CF, .type "Exception", .type "BaseException", .type "object"]
/-- all that is asked of such a class -/
def ecB (K : PySem.W.Frag) (C CF : Addr) (gs : List PySem.Str) : Bool :=
  (match K.lookup C with
    | some ⟨.type "type", _, .cls cd, sl⟩ => (match sl.toList with
      | [_, _, _, _, some (.builtin n), _] => n == "Exception.__new__" && (cd.mro == mroE C CF && (!cd.hasDel && cd.hasDict))
      | _ => false)
    | _ => false) &&
  (PySem.W.findIn K (.ref C) "__setattr__" == some (some (.builtin "object.__setattr__")) && (PySem.W.keepIn K (.ref C) &&
  (PySem.W.findIn K (.ref C) "__getattribute__" == some (some (.builtin "BaseException.__getattribute__")) && (PySem.W.findIn K (.ref C) "__getattr__" == some none &&
  (PySem.W.findIn K (.ref C) "__class__" == some (some (.builtin "object.__class__")) && (PySem.W.specialIn K (.builtin "object.__class__") "__get__" == some (some (.builtin "getset_descriptor.__get__")) && (PySem.W.takesIn K (.builtin "object.__class__") == some true &&
  gs.all fun f => PySem.W.findIn K (.ref C) f == some none)))))))
/-- the class at C, over the one at CF, whose instances have the fields gs -/
structure EC (K : PySem.W.Frag) (C CF : Addr) (gs : List PySem.Str) : Prop where
  ox : OxE K C
  xf : XfC K C
  xc : ExcC K C
  no : ∀ f ∈ gs, PySem.W.findIn K (.ref C) f = some none
  mro : ∃ cd, PySem.W.clsIn K C = some cd ∧ cd.mro = mroE C CF
theorem ec_of {K : PySem.W.Frag} {C CF : Addr} {gs : List PySem.Str} (h : ecB K C CF gs = true) : EC K C CF gs := by
  unfold ecB at h
  simp only [Bool.and_eq_true, beq_iff_eq, List.all_eq_true] at h
  obtain ⟨h1, h2, h3, h4, h5, h6, h7, h8, h9⟩ := h
  split at h1
  · rename_i dd cd sl ho
    split at h1
    · rename_i k0 k1 k2 k3 n k5 hs
      simp only [Bool.and_eq_true, beq_iff_eq, Bool.not_eq_true'] at h1
      obtain ⟨rfl, hm, hdel, hdct⟩ := h1
      obtain ⟨nm, bs, mro, ns, qn, hd, sn, sub, ab, col, del⟩ := cd
      dsimp only at hm hdel hdct
      subst hm hdel hdct
      have hsl : sl = #[k0, k1, k2, k3, some (.builtin "Exception.__new__"), k5] := by
        obtain ⟨l⟩ := sl
        simp only at hs
        rw [hs]
      subst hsl
      have hc : PySem.W.clsIn K C = some { name := nm, bases := bs, mro := mroE C CF, ns := ns, qualname := qn, hasDict := true, slotNames := sn, subclasses := sub, abstract := ab, collection := col, hasDel := false } := by
        unfold PySem.W.clsIn
        rw [ho] <;> rfl
      have hm : ∀ v, PySem.W.mroIn K C v = some ((mroE C CF).contains v) := fun v => by
        unfold PySem.W.mroIn
        rw [hc]
        rfl
      have eb : PySem.W.subIn K (.ref C) (.type "BaseException") = some true := (hm _).trans (by rfl)
      have ed : PySem.W.hasDictIn K C = true := by
        unfold PySem.W.hasDictIn
        rw [hc]
        rfl
      exact ⟨⟨⟨nm, qn, ns, bs, [.ref CF, .type "Exception", .type "BaseException", .type "object"], sn, sub, ab, col, dd, k0, k1, k2, k3, k5, ho, rfl⟩, h2, eb, by show (K.lookup C).map (·.cls) = _; rw [ho]; rfl, h3⟩, ⟨h4, h5, eb, ed⟩,
        ⟨h4, h5, eb, ed, h6, h7, h8, (hm _).trans (by rfl)⟩, h9, _, hc, rfl⟩
    · cases h1
  · cases h1
section
variable {K : PySem.W.Frag} {C D CF : Addr} {gs fs : List PySem.Str}
theorem EC.sub (E : EC K D CF gs) (v : Value) : PySem.W.subIn K (.ref D) v = some ((mroE D CF).contains v) := by
  obtain ⟨cd, hc, hm⟩ := E.mro
  show PySem.W.mroIn K D v = _
  unfold PySem.W.mroIn
  rw [hc, Option.bind_some, hm]
  rfl
theorem EC.cls (E : EC K D CF gs) : ((PySem.W.clsIn K D).isSome && PySem.W.typeIn K (.ref D) == some (.type "type")) = true := by
  obtain ⟨cd, hc, hm⟩ := E.mro
  rw [hc, E.ox.tyC]
  rfl
theorem EC.kit (E : EC K D CF gs) (F : EC K C CF fs) (n : C ≠ CF) : PySem.W.kitCls K (.ref D) (.ref C) = some (decide (D = C)) := by
  show (if ((PySem.W.clsIn K C).isSome && PySem.W.typeIn K (.ref C) == some (.type "type")) = true then PySem.W.subIn K (.ref D) (.ref C) else none) = _
  rw [if_pos F.cls, E.sub]
  have n2 : (Value.ref C == Value.ref CF) = false := beq_eq_false_iff_ne.mpr fun z => n (Value.ref.inj z)
  have r : ([Value.type "Exception", .type "BaseException", .type "object"]).contains (Value.ref C) = false := rfl
  congr 1
  show (Value.ref D :: Value.ref CF :: _).contains (Value.ref C) = _
  rw [List.contains_cons, List.contains_cons, n2, r, Bool.or_false, Bool.or_false]
  by_cases e : D = C
  · subst e
    simp
  · rw [decide_eq_false e]
    exact beq_eq_false_iff_ne.mpr fun z => e (Value.ref.inj z).symm
theorem EC.kitOne (E : EC K D CF gs) (F : EC K C CF fs) (n : C ≠ CF) : PySem.W.kitOne K (.ref D) (.ref C) = some (decide (D = C)) := by
  unfold PySem.W.kitOne
  by_cases e : D = C
  · subst e
    rw [if_pos (by simp)]
    simp
  · rw [if_neg (by simpa using e)]
    exact E.kit F n
theorem EC.exm (E : EC K D CF gs) (F : EC K C CF fs) (n : C ≠ CF) : PySem.W.exmOne K (.ref D) (.ref C) = some (decide (D = C)) := by
  unfold PySem.W.exmOne
  rw [if_pos (by rw [F.xf.exC]; rfl)]
  exact E.kit F n
/-- the class at CF itself -/
def cfB (K : PySem.W.Frag) (CF : Addr) : Bool := ((PySem.W.clsIn K CF).isSome && PySem.W.typeIn K (.ref CF) == some (.type "type")) && PySem.W.subIn K (.ref CF) (.type "BaseException") == some true
theorem EC.kitF (E : EC K D CF gs) (h : cfB K CF = true) : PySem.W.kitCls K (.ref D) (.ref CF) = some true := by
  unfold cfB at h
  rw [Bool.and_eq_true] at h
  show (if ((PySem.W.clsIn K CF).isSome && PySem.W.typeIn K (.ref CF) == some (.type "type")) = true then PySem.W.subIn K (.ref D) (.ref CF) else none) = _
  rw [if_pos h.1, E.sub]
  congr 1
  show (Value.ref D :: Value.ref CF :: _).contains (Value.ref CF) = true
  rw [List.contains_cons, List.contains_cons]
  simp
theorem EC.kitOneF (E : EC K D CF gs) (h : cfB K CF = true) : PySem.W.kitOne K (.ref D) (.ref CF) = some true := by
  unfold PySem.W.kitOne
  split
  · rfl
  · exact E.kitF h
theorem EC.exmF (E : EC K D CF gs) (h : cfB K CF = true) : PySem.W.exmOne K (.ref D) (.ref CF) = some true := by
  have h' := h
  unfold cfB at h'
  rw [Bool.and_eq_true] at h'
  unfold PySem.W.exmOne
  rw [if_pos h'.2]
  exact E.kitF h
theorem EC.kitT (E : EC K D CF gs) {T : String} (h : PySem.W.kitMeta T = true) : PySem.W.kitOne K (.ref D) (.type T) = some (([Value.type "Exception", .type "BaseException", .type "object"]).contains (.type T)) := by
  unfold PySem.W.kitOne
  rw [if_neg (by simp)]
  show (if PySem.W.kitMeta T = true then PySem.W.subIn K (.ref D) (.type T) else none) = _
  rw [if_pos h, E.sub]
  unfold mroE
  rw [List.contains_cons, List.contains_cons]
  rfl
end
end Xv
set_option Elab.async false
set_option linter.all false
set_option maxRecDepth 100000
set_option maxHeartbeats 4000000
/-! Xt: try with several except clauses, with and without a name; a def called in an except suite with the exception that is caught. -/
namespace Xt
open PySem PySem.Spec PyProof.Rows L2 L2H
abbrev HdT := Value × Option Nat × (Addr → Value → Option Addr → TS)
/-- the ends of a suite whose name goes -/
def endsA (D : Ends) (i : Nat) : Ends := { nx := fun σ' H' => D.nx (σ'.set i none) H', rt := D.rt, bk := fun σ' H' => D.bk (σ'.set i none) H', ct := fun σ' H' => D.ct (σ'.set i none) H' }
/-- what the clauses wish of an exception of the body, one after the other -/
def wMix (K : PySem.W.Frag) (Wout : WX) (D : Ends) : List HdT → WX
  | [] => Wout
  | (c, none, ts) :: r => fun cls d σ H => ∃ b, PySem.W.exmOne K cls c = some b ∧ (b = true → ∀ a, H a = none → ts a cls d D σ H) ∧ (b = false → wMix K Wout D r cls d σ H)
  | (c, some i, ts) :: r => fun cls d σ H => ∃ b, PySem.W.exmOne K cls c = some b ∧ (b = true → ∀ a, H a = none → ts a cls d (endsA D i) (σ.set i (some (.ref a))) H) ∧ (b = false → wMix K Wout D r cls d σ H)
inductive HdsX (X : Cx) : List ExceptHandler → List HdT → Prop
  | nil : HdsX X [] []
  | bare {x : PySem.Str} {c : Value} {ts : Addr → Value → Option Addr → TS} {b₀ : Stmt} {suite : List Stmt} {np pos' : Pos} {hds : List ExceptHandler} {l : List HdT} (hc : Names X x c)
      (hsu : ∀ (a : Addr) (oe : Obj) (cls : Value) (d : Option Addr) (pn : List (Addr × Obj)), L2N.Zn cls d oe → (∃ vs, oe.data = .fields vs) → PSs (X.suite a ((a, oe) :: pn)) (b₀ :: suite) (ts a cls d)) (r : HdsX X hds l) :
      HdsX X (.ExceptHandler (some (.Name x np)) none (b₀ :: suite) pos' :: hds) ((c, none, ts) :: l)
  | named {x n : PySem.Str} {i : Nat} {c : Value} {ts : Addr → Value → Option Addr → TS} {b₀ : Stmt} {suite : List Stmt} {np pos' : Pos} {hds : List ExceptHandler} {l : List HdT} (hc : Names X x c) (hi : X.N[i]? = some n) (hln : X.env.kindOf n = some .local)
      (hsu : ∀ (a : Addr) (oe : Obj) (cls : Value) (d : Option Addr) (pn : List (Addr × Obj)), L2N.Zn cls d oe → (∃ vs, oe.data = .fields vs) → PSs (X.suite a ((a, oe) :: pn)) (b₀ :: suite) (ts a cls d)) (r : HdsX X hds l) :
      HdsX X (.ExceptHandler (some (.Name x np)) (some n) (b₀ :: suite) pos' :: hds) ((c, some i, ts) :: l)
section
variable {X : Cx} {body : List Stmt} {h₀ : ExceptHandler} {hds : List ExceptHandler} {l : List HdT} {pos : Pos} {tb : WX → TS} {Wout : WX}
theorem ps_try_mix (hs : X.stack = X.env :: X.outer) (hf : X.env.frame = some X.env.locals) (hN : X.N.Nodup) (tk : L2N.Takes X Wout)
    (hb : ∀ (W : WX) (pn : List (Addr × Obj)) (xe : Value → Shared → Prop), L2N.Takes (X.tr pn xe) W → PassesOwn (model X.prog X.w) X.A X.env xe → PSs (X.tr pn xe) body (tb W))
    (hh : HdsX X (h₀ :: hds) l) : PS X (.Try body (h₀ :: hds) [] [] pos) (fun D σ H => tb (wMix X.K Wout D l) D σ H) := by
  refine ⟨fun pins s σ H D I h => ?_⟩
  have ok := I.ok
  have hfr : X.A.frames = some (X.env :: X.outer) := by rw [ok.frames, hs]
  refine wpAny_Try_except (wpAny_mono ((hb (wMix X.K Wout D l) (X.pn ++ pins) (fun e s₁ => wpAny (model X.prog X.w) X.A (noteFrame e X.env) (fun _ s₂ => wpAny (model X.prog X.w) X.A (setFlight e none) (fun _ s₃ =>
    wpAny (model X.prog X.w) X.A (handleBy e X.env (h₀ :: hds)) (SP X pins D) X.xe s₃) X.xe s₂) X.xe s₁) (fun u s' xx => ?_) PassesOwn.looking).run [] s σ H D (I.toTry _) h) (fun f s1 hsp => ?_) (fun e s1 he => he))
  · obtain ⟨a, B, sI, pins', σ', H', cls, d, rfl, J', nb, up, sky, na, os, ag, w⟩ := xx
    have J : Inv X pins σ' H' sI := J'.ofTry ok
    have sky' : Sky B (X.env :: X.outer) a (L2N.Zn cls d) X.env.locals s'.heap := by rw [← hs]; exact sky
    show wpAny (model X.prog X.w) X.A (noteFrame (.ref a) X.env) _ _ _
    refine L2N.Sky.land L2N.Zn.steady hfr hf sky' fun h3 fl3 up3 => ?_
    have J3 : Inv X pins σ' H' { s' with heap := h3 } := J.landed nb fl3.1 (up.trans up3) os ag
    obtain ⟨oe3, vs3, he3, hz3, hd3⟩ := fl3.there
    have nfr : a ∉ frs (X.env :: X.outer) := fun hm => by
      obtain ⟨_, o', e', hnf⟩ := fl3.2.2.1.mem hm
      rw [he3] at e'
      cases e'
      exact hnf _ hd3
    have nL : a ≠ X.env.locals := fun z => nfr (List.mem_filterMap.mpr ⟨X.env, List.mem_cons_self, by rw [hf, z]⟩)
    have nF : a ∉ X.fs := fun hm => by
      obtain ⟨e, he, q⟩ := List.mem_filterMap.mp hm
      exact nfr (List.mem_filterMap.mpr ⟨e, List.mem_cons_of_mem _ he, q⟩)
    have S3 := J3.suite he3 hd3 na nL nF
    have LT : PySem.W.Looks (model X.prog X.w) h3 (typeOf (.ref a)) cls := fun A Q E s k q => wpAny_typeOf_ref (k _ _ he3) (by rw [hz3.1]; exact q)
    have test : ∀ {x : PySem.Str} {c : Value} {np : Pos}, Names X x c → ∀ {Q : Value → Shared → Prop} {E : Value → Shared → Prop}, Q c { s' with heap := h3 } → wpAny (model X.prog X.w) (X.A.mark (some (.ref a))) (eval (.Name x np) X.env) Q E { s' with heap := h3 } := fun {x c np} hc {Q E} q => by
      obtain ⟨hg, hdbg, hm | ⟨hm, hv, hnn⟩⟩ := hc
      · exact ld_glob (X := X.suite a ((a, oe3) :: (X.pn ++ pins))) S3 hg hm q hdbg
      · exact ld_blt (X := X.suite a ((a, oe3) :: (X.pn ++ pins))) S3 hg hm hv q hnn hdbg
    have go : ∀ {hds' : List ExceptHandler} {l' : List HdT}, HdsX X hds' l' → wMix X.K Wout D l' cls d σ' H' →
        wpAny (model X.prog X.w) X.A (handleBy (.ref a) X.env hds') (SP X pins D) X.xe { s' with heap := h3 } := by
      intro hds' l' hk
      induction hk with
      | nil =>
        intro w
        refine wpAny_handleBy_nil ?_
        obtain ⟨k1, k2, k3, oe, vs, T, oT, ts', he, hz, hd, h1, hr⟩ := id fl3
        unfold PySem.passOn
        refine wpAny_bind (wpAny_field he hd h1 ?_)
        rw [if_neg (show ¬ ((Value.ref T == Value.none) = true) from by simp)]
        have fin : wpAny (model X.prog X.w) X.A (setFlight (.ref a) X.env.frame) (fun _ s4 => wpAny (model X.prog X.w) X.A (throw (.ref a) : Sem Flow) (SP X pins D) X.xe s4) X.xe { s' with heap := h3 } := by
          rw [hf]
          exact HandSPX.setFlight_upZ fl3 fun h4 hh4 up4 => wpAny_throw (tk _ _ ⟨a, B, sI, pins, σ', H', cls, d, rfl, J, nb, (up.trans up3).trans up4, .inr (.inr (by rw [hs]; exact hh4)), na, os, ag, w⟩)
        first
          | exact wpAny_bind (wpAny_pure (wpAny_bind fin))
          | exact wpAny_bind fin
      | @bare x c ts b₀ suite np pos' hds2 l2 hc hsu r ih =>
        intro w
        obtain ⟨b, hb1, hyes, hno⟩ := w
        refine wpAny_handleBy_cons (codeAny_handlers_test (test hc ((PySem.W.exm_one (M := model X.prog X.w) J3.kIn LT hb1).here ?_))) (by intro q; cases q)
        cases b with
        | false => exact ih (hno rfl)
        | true =>
          refine codeAny_handlers_suite (HandSPX.lands_againZ fl3 fun h4 fl4 up4 => ?_)
          have J4 : Inv X pins σ' H' { s' with heap := h4 } := J.landed nb fl4.1 ((up.trans up3).trans up4) os ag
          obtain ⟨oe4, vs4, he4, hz4, hd4⟩ := fl4.there
          have S4 := J4.suite he4 hd4 na nL nF
          refine wpAny_mono ((hsu a oe4 cls d (X.pn ++ pins) hz4 ⟨_, hd4⟩).run [] _ _ H' _ S4 (hyes rfl a na)) (fun f s6 hsp => ?_) (fun _ _ z => False.elim z)
          cases f with
          | next => exact let ⟨σ6, H6, S6, q6⟩ := hsp; ⟨_, _, S6.unsuite ok, q6⟩
          | brk => exact let ⟨σ6, H6, S6, q6⟩ := hsp; ⟨_, _, S6.unsuite ok, q6⟩
          | cont => exact let ⟨σ6, H6, S6, q6⟩ := hsp; ⟨_, _, S6.unsuite ok, q6⟩
          | ret u => exact let ⟨v6, σ6, H6, S6, r6, q6⟩ := hsp; ⟨_, _, _, S6.unsuite ok, r6, q6⟩
      | @named x n i c ts b₀ suite np pos' hds2 l2 hc hi hln hsu r ih =>
        intro w
        obtain ⟨b, hb1, hyes, hno⟩ := w
        refine wpAny_handleBy_cons (codeAny_handlers_test (test hc ((PySem.W.exm_one (M := model X.prog X.w) J3.kIn LT hb1).here ?_))) (by intro q; cases q)
        cases b with
        | false => exact ih (hno rfl)
        | true =>
          refine codeAny_handlers_suite_as (HandSPX.lands_againZ fl3 fun h4 fl4 up4 => ?_)
          have J4 : Inv X pins σ' H' { s' with heap := h4 } := J.landed nb fl4.1 ((up.trans up3).trans up4) os ag
          obtain ⟨oe4, vs4, he4, hz4, hd4⟩ := fl4.there
          have S4 := J4.suite he4 hd4 na nL nF
          have hloc : Loc X.env.scope n := .inl hln
          refine store_ok (X := X.suite a ((a, oe4) :: (X.pn ++ pins))) (v := .ref a) S4 hN hi hloc rfl (fun s5 S5 => ?_) (.inr hln)
          refine wpAny_mono ((hsu a oe4 cls d (X.pn ++ pins) hz4 ⟨_, hd4⟩).run [] s5 _ H' _ S5 (hyes rfl a na)) (fun f s6 hsp => ?_) (fun _ _ z => False.elim z)
          have end_ : ∀ {σ6 : L2.St} {H6 : Hp} {Q : Shared → Prop}, Inv (X.suite a ((a, oe4) :: (X.pn ++ pins))) [] σ6 H6 s6 → (∀ s7, Inv X pins (σ6.set i none) H6 s7 → Q s7) →
              wpAny (model X.prog X.w) X.A (do bindName X.env n .none; unbindBehindTheSuite X.env n pos') (fun _ s7 => Q s7) X.xe s6 := fun {σ6 H6 Q} S6 hq => gone_ok (S6.unsuite ok) hN hi hln hq
          cases f with
          | next => exact let ⟨σ6, H6, S6, q6⟩ := hsp; end_ S6 fun s7 J7 => ⟨_, _, J7, q6⟩
          | brk => exact let ⟨σ6, H6, S6, q6⟩ := hsp; end_ S6 fun s7 J7 => ⟨_, _, J7, q6⟩
          | cont => exact let ⟨σ6, H6, S6, q6⟩ := hsp; end_ S6 fun s7 J7 => ⟨_, _, J7, q6⟩
          | ret u => exact let ⟨v6, σ6, H6, S6, r6, q6⟩ := hsp; end_ S6 fun s7 J7 => ⟨_, _, _, J7, r6, q6⟩
    exact go hh w
  · cases f with
    | next => exact let ⟨σ', H', J', q⟩ := hsp; wpAny_execs_nil ⟨σ', H', J'.ofTry ok, q⟩
    | brk => exact let ⟨σ', H', J', q⟩ := hsp; ⟨σ', H', J'.ofTry ok, q⟩
    | cont => exact let ⟨σ', H', J', q⟩ := hsp; ⟨σ', H', J'.ofTry ok, q⟩
    | ret u => exact let ⟨v, σ', H', J', r, q⟩ := hsp; ⟨v, σ', H', J'.ofTry ok, r, q⟩
end
/-- what is known of the exception that is caught -/
def CtP (p : Addr × Obj) (cls : Value) (d : Option Addr) : Prop := L2N.Zn cls d p.2 ∧ ∃ vs, p.2.data = .fields vs
/-- a def's promise in an except suite; a, cls, d: the exception that is caught, its class, its dict -/
structure FnP (P : Program) (w : World) (K : PySem.W.Frag) (mg : PySem.Str → Option Value) (base : Heap) (k : Nat) (f : Addr) (fd : FuncData) (ps : List PySem.Str) (sp : Addr → Value → Option Addr → Sp) : Prop where
  len : ∀ a c d vs H Q E, sp a c d vs H Q E → vs.length = ps.length
  run : ∀ (A : Around) (outer : List Env) (s : Shared) (H : Hp) (args : Args) (us : List Value) (vs : List V) (Q : VK) (p : Addr × Obj) (c : Value) (d : Option Addr), CtP p c d → RoomH k A → Hot1 A p → PinOk outer H s p → Env0 P w K mg base A outer s H → BindsTo s fd args (ps.zip us) → Vals vs us → sp p.1 c d vs H Q E0 →
    codeAny (model P w) A (.call (.ref f) args) (CR CX0 outer P w H s Q E0) s
section
variable {P : Program} {w : World} {K : PySem.W.Frag} {mg : PySem.Str → Option Value} {base : Heap}
theorem okP {x qual : PySem.Str} {st : Stmt} {f : Addr} {fd : FuncData} {N ps : List PySem.Str} {k : Nat} {sp : Addr → Value → Option Addr → Sp} (F : Fun K x qual st f fd) (S : FnScope N ps (defScope st))
    (len : ∀ a c d vs H Q E, sp a c d vs H Q E → vs.length = ps.length)
    (hbody : ∀ (cdv : Value) (A : Around) (outer : List Env) (s : Shared) (H : Hp) (vs : List V) (Q : VK) (p : Addr × Obj) (c : Value) (d : Option Addr), CtP p c d → Hot1 A p → RoomH k (A.deeper (envOfC qual (defScope st) s.heap.objs.size f cdv)) → sp p.1 c d vs H Q E0 →
      ∃ t, PSs (cxH CX0 P w K mg base N qual (defScope st) f cdv A outer s H E0 p) (defBody st) t ∧ t { nx := fun _ H' => Q .non H', rt := Q } (L2.start N vs) H) :
    FnP P w K mg base (k + 1) f fd ps sp := by
  obtain ⟨oc, od, kV, doc, pm, an, cdv, ct, osl, rfl, lk, hcd⟩ := F.ex
  refine ⟨len, fun A outer s H args us vs Q p c d hz hr hot hpin e0 hb r hsp => ?_⟩
  have hl := len _ _ _ _ _ _ _ hsp
  have kept : ∀ b o, base.get? b = some o → s.heap.get? b = some o := fun b o e => (e0.bs b o e).1
  have known : ∀ y ∈ ps.zip us, (defScope st).names.lookup y.1 = some .local ∨
      ((defScope st).names.lookup y.1 = some .cell ∧ ((cellsFrom (s.heap.objs.size + 1) (defScope st).names []).lookup y.1).isSome = true) := fun ⟨n, v⟩ hy =>
    (S.par n (List.of_mem_zip hy).1).elim .inl fun q => .inr ⟨q, PySem.W.cellsFrom_some _ _ _ (.inl q)⟩
  refine codeAny_call_function hr.depth (e0.mod.kin.keeps kept _ _ lk) rfl S.co S.gen rfl (PySem.W.codeRec_of (e0.mod.kin.keeps kept) hcd) (hb _ _ _ _ ?_)
  refine wpAny_newFunctionEnv_cells S.kind known fun env he s1 x => ?_
  subst he
  refine ⟨(e0.mod.nolimit.keeps kept).keeps x.toInCall.keep, codeAny_func ?_⟩
  obtain ⟨t, ht, hq⟩ := hbody cdv A outer s H vs Q p c d hz hot (hr.deeper _) hsp
  refine wpAny_mono (ht.run [] s1 (L2.start N vs) H _ (inv_startH S hpin e0 hl r x) hq) (fun fl s' hs => ?_) fun e s' hs => hs
  cases fl with
  | ret u =>
    obtain ⟨v, σ', H', J, rv, q⟩ := hs
    exact ⟨v, H', J.os, J.bare, J.base, J.hok, rv, q⟩
  | next =>
    obtain ⟨σ', H', J, q⟩ := hs
    exact ⟨V.non, H', J.os, J.bare, J.base, J.hok, rfl, q⟩
  | brk => exact hs.elim fun _ z => z.elim fun _ z => z.2.elim
  | cont => exact hs.elim fun _ z => z.elim fun _ z => z.2.elim
end
section
variable {X : Cx} {k : Nat} {f : Addr} {fd : FuncData} {ps : List PySem.Str} {sp : Addr → Value → Option Addr → Sp} {x : PySem.Str} {q pos : Pos} {e : Expr} {es : List Expr} {t : TA} {a : Addr} {oe : Obj} {cls : Value} {d : Option Addr}
theorem pe_callP (F : FnP X.prog X.w X.K X.mg X.base k f fd ps sp) (hr : RoomH k X.A) (hz : L2N.Zn cls d oe) (hf : ∃ vs, oe.data = .fields vs) (hh : X.A.handled = some (.ref a)) (hp : (a, oe) ∈ X.pn) (hg : Gl X x) (hm : X.mg x = some (.ref f)) (hk : PySem.W.keepIn X.K (.ref f) = true) (hb : Binds X.K fd ps [])
    (ha : PA X (e :: es) t) (hdb : (x == ("__debug__" : PySem.Str)) = false := by decide) (he : starEach (e :: es) X.env = (false, eval e X.env) :: starEach es X.env := by rfl) (hpl : (backTo pos (starEach es X.env)).any (·.1) = false := by rfl) :
    PE X (.Call (.Name x q) (e :: es) [] pos) (fun σ H Q => t σ H fun vs H1 => sp a cls d vs H1 Q E0) := by
  refine ⟨fun pins s σ H Q I h => wpAny_Call_Name_kw (ld_glob I hg hm ?_ hdb)⟩
  refine PySem.W.callWith_K (h₀ := X.base) I.ok.mod.kin hk (thn (ha.run pos pins s σ H _ I h) fun us s1 ⟨vs, H1, I1, r, q⟩ => ⟨I1.kIn, ?_⟩) he hpl
  have hl : us.length = ps.length := by rw [← r.length]; exact F.len _ _ _ _ _ _ _ q
  have b := hb s1 us I1.kIn (by rw [List.append_nil]; exact hl)
  rw [List.append_nil] at b
  have P1 := I1.pin (a, oe) (List.mem_append_left _ hp)
  have hpin : PinOk X.stack H1 s1 (a, oe) := ⟨P1.1, P1.2.1, fun hm => (List.mem_cons.mp (I1.stkSub a hm)).elim P1.2.2.1 P1.2.2.2.1, P1.2.2.2.2⟩
  obtain ⟨vs0, hv0⟩ := hf
  refine wpAny_call (codeAny_mono (F.run X.A X.stack s1 H1 ⟨us, []⟩ us vs Q (a, oe) cls d ⟨hz, vs0, hv0⟩ hr ⟨hh, vs0, hv0, hz.2.2 vs0 hv0⟩ hpin I1.env0 b r q) fun r s' hq => ?_)
  cases r with
  | error e => exact hq.elim
  | ok fl =>
    cases fl with
    | ret u => exact I1.after hq
    | next => exact hq.elim
    | brk => exact hq.elim
    | cont => exact hq.elim
end
/-- room for a def in a suite -/
theorem room_suite {k : Nat} {A : Around} (r : Room k A) (h : Option Value) : RoomH k (A.mark h) := ⟨r.dp, r.un⟩
theorem takes0 {X : Cx} : L2N.Takes X (fun _ _ _ _ => False) := fun _ _ ⟨_, _, _, _, _, _, _, _, _, _, _, _, _, _, _, _, z⟩ => z.elim
end Xt
set_option Elab.async false
set_option linter.all false
set_option maxRecDepth 100000
set_option maxHeartbeats 4000000
/-! k01: the text, the draws. -/
namespace K01
open PySem PySem.Spec PyProof.Rows L2 Zg Zr Zd Zv
/-! ### the orders of keywords -/
def pm0 {α : Type} (l : List α) : List α := l
theorem pm0_rel {zs : List V} {ws : List Value} (r : Vals zs ws) : Vals (pm0 zs) (pm0 ws) := r
theorem pm0_len (n : Nat) (zs : List V) (h : zs.length = n) : (pm0 zs).length = n := h
/-- two keywords in the other order -/
def pm10 {α : Type} : List α → List α
  | [a, b] => [b, a]
  | l => l
theorem pm10_rel {zs : List V} {ws : List Value} (r : Vals zs ws) : Vals (pm10 zs) (pm10 ws) := by
  match zs, ws, r with
  | _, _, .nil => exact .nil
  | _, _, .cons a .nil => exact .cons a .nil
  | _, _, .cons a (.cons b .nil) => exact .cons b (.cons a .nil)
  | _, _, .cons a (.cons b (.cons c r)) => exact .cons a (.cons b (.cons c r))
theorem pm10_len (n : Nat) (zs : List V) (h : zs.length = n) : (pm10 zs).length = n := by
  match zs, h with
  | [], h => exact h
  | [_], h => exact h
  | [_, _], h => exact h
  | _ :: _ :: _ :: _, h => exact h
/-! ### the text -/
def topS (i : Nat) : Stmt := PySem.Challenge.pw_plugcaller_k01_errors.main.body.getD i (.Pass ⟨0, 0, 0, 0⟩)
abbrev s_BadStore_init : Stmt := inClass (topS 2) 0
abbrev N_BadStore_init : List PySem.Str := ["self", "part"]
abbrev P_BadStore_init : List PySem.Str := ["self", "part"]
theorem sc_BadStore_init : FnScope N_BadStore_init P_BadStore_init (defScope s_BadStore_init) := ⟨rfl, rfl, rfl, by decide +kernel, rfl, by decide +kernel, by decide +kernel⟩
abbrev s_BadProgram_init : Stmt := inClass (topS 3) 0
abbrev N_BadProgram_init : List PySem.Str := ["self", "part"]
abbrev P_BadProgram_init : List PySem.Str := ["self", "part"]
theorem sc_BadProgram_init : FnScope N_BadProgram_init P_BadProgram_init (defScope s_BadProgram_init) := ⟨rfl, rfl, rfl, by decide +kernel, rfl, by decide +kernel, by decide +kernel⟩
abbrev s_BadDefinition_init : Stmt := inClass (topS 4) 0
abbrev N_BadDefinition_init : List PySem.Str := ["self", "name"]
abbrev P_BadDefinition_init : List PySem.Str := ["self", "name"]
theorem sc_BadDefinition_init : FnScope N_BadDefinition_init P_BadDefinition_init (defScope s_BadDefinition_init) := ⟨rfl, rfl, rfl, by decide +kernel, rfl, by decide +kernel, by decide +kernel⟩
abbrev s_BadTerm_init : Stmt := inClass (topS 5) 0
abbrev N_BadTerm_init : List PySem.Str := ["self", "thing"]
abbrev P_BadTerm_init : List PySem.Str := ["self", "thing"]
theorem sc_BadTerm_init : FnScope N_BadTerm_init P_BadTerm_init (defScope s_BadTerm_init) := ⟨rfl, rfl, rfl, by decide +kernel, rfl, by decide +kernel, by decide +kernel⟩
abbrev s_NoDefinition_init : Stmt := inClass (topS 6) 0
abbrev N_NoDefinition_init : List PySem.Str := ["self", "name"]
abbrev P_NoDefinition_init : List PySem.Str := ["self", "name"]
theorem sc_NoDefinition_init : FnScope N_NoDefinition_init P_NoDefinition_init (defScope s_NoDefinition_init) := ⟨rfl, rfl, rfl, by decide +kernel, rfl, by decide +kernel, by decide +kernel⟩
abbrev s_InUse_init : Stmt := inClass (topS 7) 0
abbrev N_InUse_init : List PySem.Str := ["self", "name", "by"]
abbrev P_InUse_init : List PySem.Str := ["self", "name", "by"]
theorem sc_InUse_init : FnScope N_InUse_init P_InUse_init (defScope s_InUse_init) := ⟨rfl, rfl, rfl, by decide +kernel, rfl, by decide +kernel, by decide +kernel⟩
abbrev s_TooMany_init : Stmt := inClass (topS 8) 0
abbrev N_TooMany_init : List PySem.Str := ["self", "most"]
abbrev P_TooMany_init : List PySem.Str := ["self", "most"]
theorem sc_TooMany_init : FnScope N_TooMany_init P_TooMany_init (defScope s_TooMany_init) := ⟨rfl, rfl, rfl, by decide +kernel, rfl, by decide +kernel, by decide +kernel⟩
abbrev s_TooLong_init : Stmt := inClass (topS 11) 0
abbrev N_TooLong_init : List PySem.Str := ["self", "length"]
abbrev P_TooLong_init : List PySem.Str := ["self", "length"]
theorem sc_TooLong_init : FnScope N_TooLong_init P_TooLong_init (defScope s_TooLong_init) := ⟨rfl, rfl, rfl, by decide +kernel, rfl, by decide +kernel, by decide +kernel⟩
abbrev s_NotPossible_init : Stmt := inClass (topS 14) 0
abbrev N_NotPossible_init : List PySem.Str := ["self", "entry"]
abbrev P_NotPossible_init : List PySem.Str := ["self", "entry"]
theorem sc_NotPossible_init : FnScope N_NotPossible_init P_NotPossible_init (defScope s_NotPossible_init) := ⟨rfl, rfl, rfl, by decide +kernel, rfl, by decide +kernel, by decide +kernel⟩
abbrev s_NoStep_init : Stmt := inClass (topS 15) 0
abbrev N_NoStep_init : List PySem.Str := ["self", "choice"]
abbrev P_NoStep_init : List PySem.Str := ["self", "choice"]
theorem sc_NoStep_init : FnScope N_NoStep_init P_NoStep_init (defScope s_NoStep_init) := ⟨rfl, rfl, rfl, by decide +kernel, rfl, by decide +kernel, by decide +kernel⟩
abbrev s_InvalidText_init : Stmt := inClass (topS 16) 0
abbrev N_InvalidText_init : List PySem.Str := ["self", "line"]
abbrev P_InvalidText_init : List PySem.Str := ["self", "line"]
theorem sc_InvalidText_init : FnScope N_InvalidText_init P_InvalidText_init (defScope s_InvalidText_init) := ⟨rfl, rfl, rfl, by decide +kernel, rfl, by decide +kernel, by decide +kernel⟩
abbrev s_InvalidCommand_init : Stmt := inClass (topS 17) 0
abbrev N_InvalidCommand_init : List PySem.Str := ["self", "line"]
abbrev P_InvalidCommand_init : List PySem.Str := ["self", "line"]
theorem sc_InvalidCommand_init : FnScope N_InvalidCommand_init P_InvalidCommand_init (defScope s_InvalidCommand_init) := ⟨rfl, rfl, rfl, by decide +kernel, rfl, by decide +kernel, by decide +kernel⟩
abbrev s_well : Stmt := topS 20
abbrev N_well : List PySem.Str := ["script", "told", "blend", "number"]
abbrev P_well : List PySem.Str := ["script"]
theorem sc_well : FnScope N_well P_well (defScope s_well) := ⟨rfl, rfl, rfl, by decide +kernel, rfl, by decide +kernel, by decide +kernel⟩
abbrev s_drawn : Stmt := topS 21
abbrev N_drawn : List PySem.Str := ["well", "many", "seed", "number"]
abbrev P_drawn : List PySem.Str := ["well", "many"]
theorem sc_drawn : FnScope N_drawn P_drawn (defScope s_drawn) := ⟨rfl, rfl, rfl, by decide +kernel, rfl, by decide +kernel, by decide +kernel⟩
abbrev s_any : Stmt := topS 22
abbrev N_any : List PySem.Str := ["well", "deep", "plain", "way", "inner", "k"]
abbrev P_any : List PySem.Str := ["well", "deep"]
theorem sc_any : FnScope N_any P_any (defScope s_any) := ⟨rfl, rfl, rfl, by decide +kernel, rfl, by decide +kernel, by decide +kernel⟩
abbrev s_by_place : Stmt := topS 23
abbrev N_by_place : List PySem.Str := ["spot", "one", "two"]
abbrev P_by_place : List PySem.Str := ["spot", "one", "two"]
theorem sc_by_place : FnScope N_by_place P_by_place (defScope s_by_place) := ⟨rfl, rfl, rfl, by decide +kernel, rfl, by decide +kernel, by decide +kernel⟩
abbrev s_by_name : Stmt := topS 24
abbrev N_by_name : List PySem.Str := ["spot", "one", "two", "found"]
abbrev P_by_name : List PySem.Str := ["spot", "one", "two"]
theorem sc_by_name : FnScope N_by_name P_by_name (defScope s_by_name) := ⟨rfl, rfl, rfl, by decide +kernel, rfl, by decide +kernel, by decide +kernel⟩
abbrev s_kinds : Stmt := topS 25
abbrev N_kinds : List PySem.Str := ["e", "found"]
abbrev P_kinds : List PySem.Str := ["e"]
theorem sc_kinds : FnScope N_kinds P_kinds (defScope s_kinds) := ⟨rfl, rfl, rfl, by decide +kernel, rfl, by decide +kernel, by decide +kernel⟩
abbrev s_told : Stmt := topS 26
abbrev N_told : List PySem.Str := ["spot", "e"]
abbrev P_told : List PySem.Str := ["spot", "e"]
theorem sc_told : FnScope N_told P_told (defScope s_told) := ⟨rfl, rfl, rfl, by decide +kernel, rfl, by decide +kernel, by decide +kernel⟩
abbrev s_due : Stmt := topS 27
abbrev N_due : List PySem.Str := ["spot", "one", "two"]
abbrev P_due : List PySem.Str := ["spot", "one", "two"]
theorem sc_due : FnScope N_due P_due (defScope s_due) := ⟨rfl, rfl, rfl, by decide +kernel, rfl, by decide +kernel, by decide +kernel⟩
abbrev s_raised : Stmt := topS 28
abbrev N_raised : List PySem.Str := ["spot", "one", "two"]
abbrev P_raised : List PySem.Str := ["spot", "one", "two"]
theorem sc_raised : FnScope N_raised P_raised (defScope s_raised) := ⟨rfl, rfl, rfl, by decide +kernel, rfl, by decide +kernel, by decide +kernel⟩
abbrev s_raised_more : Stmt := topS 29
abbrev N_raised_more : List PySem.Str := ["spot", "one"]
abbrev P_raised_more : List PySem.Str := ["spot", "one"]
theorem sc_raised_more : FnScope N_raised_more P_raised_more (defScope s_raised_more) := ⟨rfl, rfl, rfl, by decide +kernel, rfl, by decide +kernel, by decide +kernel⟩
abbrev s_caught_early : Stmt := topS 30
abbrev N_caught_early : List PySem.Str := ["spot", "one", "two", "found", "e"]
abbrev P_caught_early : List PySem.Str := ["spot", "one", "two"]
theorem sc_caught_early : FnScope N_caught_early P_caught_early (defScope s_caught_early) := ⟨rfl, rfl, rfl, by decide +kernel, rfl, by decide +kernel, by decide +kernel⟩
abbrev s_caught_late : Stmt := topS 31
abbrev N_caught_late : List PySem.Str := ["spot", "one", "two", "found", "e"]
abbrev P_caught_late : List PySem.Str := ["spot", "one", "two"]
theorem sc_caught_late : FnScope N_caught_late P_caught_late (defScope s_caught_late) := ⟨rfl, rfl, rfl, by decide +kernel, rfl, by decide +kernel, by decide +kernel⟩
abbrev s_is_python : Stmt := topS 32
abbrev N_is_python : List PySem.Str := ["e"]
abbrev P_is_python : List PySem.Str := ["e"]
theorem sc_is_python : FnScope N_is_python P_is_python (defScope s_is_python) := ⟨rfl, rfl, rfl, by decide +kernel, rfl, by decide +kernel, by decide +kernel⟩
abbrev s_right : Stmt := topS 33
abbrev N_right : List PySem.Str := ["spot", "one", "two", "due", "at", "e", "other"]
abbrev P_right : List PySem.Str := ["spot", "one", "two"]
theorem sc_right : FnScope N_right P_right (defScope s_right) := ⟨rfl, rfl, rfl, by decide +kernel, rfl, by decide +kernel, by decide +kernel⟩
abbrev s_law : Stmt := topS 34
abbrev N_law : List PySem.Str := ["script", "well", "turn", "spot", "one", "two", "was"]
abbrev P_law : List PySem.Str := ["script"]
theorem sc_law : FnScope N_law P_law (defScope s_law) := ⟨rfl, rfl, rfl, by decide +kernel, rfl, by decide +kernel, by decide +kernel⟩
structure Txt (K : PySem.W.Frag) (mg : PySem.Str → Option Value) : Type where
  a_BadStore_init : Addr
  d_BadStore_init : FuncData
  F_BadStore_init : Fun K "__init__" "BadStore.__init__" s_BadStore_init a_BadStore_init d_BadStore_init
  b_BadStore_init : Binds K d_BadStore_init P_BadStore_init []
  a_BadProgram_init : Addr
  d_BadProgram_init : FuncData
  F_BadProgram_init : Fun K "__init__" "BadProgram.__init__" s_BadProgram_init a_BadProgram_init d_BadProgram_init
  b_BadProgram_init : Binds K d_BadProgram_init P_BadProgram_init []
  a_BadDefinition_init : Addr
  d_BadDefinition_init : FuncData
  F_BadDefinition_init : Fun K "__init__" "BadDefinition.__init__" s_BadDefinition_init a_BadDefinition_init d_BadDefinition_init
  b_BadDefinition_init : Binds K d_BadDefinition_init P_BadDefinition_init []
  a_BadTerm_init : Addr
  d_BadTerm_init : FuncData
  F_BadTerm_init : Fun K "__init__" "BadTerm.__init__" s_BadTerm_init a_BadTerm_init d_BadTerm_init
  b_BadTerm_init : Binds K d_BadTerm_init P_BadTerm_init []
  a_NoDefinition_init : Addr
  d_NoDefinition_init : FuncData
  F_NoDefinition_init : Fun K "__init__" "NoDefinition.__init__" s_NoDefinition_init a_NoDefinition_init d_NoDefinition_init
  b_NoDefinition_init : Binds K d_NoDefinition_init P_NoDefinition_init []
  a_InUse_init : Addr
  d_InUse_init : FuncData
  F_InUse_init : Fun K "__init__" "InUse.__init__" s_InUse_init a_InUse_init d_InUse_init
  b_InUse_init : Binds K d_InUse_init P_InUse_init []
  a_TooMany_init : Addr
  d_TooMany_init : FuncData
  F_TooMany_init : Fun K "__init__" "TooMany.__init__" s_TooMany_init a_TooMany_init d_TooMany_init
  b_TooMany_init : Binds K d_TooMany_init P_TooMany_init []
  a_TooLong_init : Addr
  d_TooLong_init : FuncData
  F_TooLong_init : Fun K "__init__" "TooLong.__init__" s_TooLong_init a_TooLong_init d_TooLong_init
  b_TooLong_init : Binds K d_TooLong_init P_TooLong_init []
  a_NotPossible_init : Addr
  d_NotPossible_init : FuncData
  F_NotPossible_init : Fun K "__init__" "NotPossible.__init__" s_NotPossible_init a_NotPossible_init d_NotPossible_init
  b_NotPossible_init : Binds K d_NotPossible_init P_NotPossible_init []
  a_NoStep_init : Addr
  d_NoStep_init : FuncData
  F_NoStep_init : Fun K "__init__" "NoStep.__init__" s_NoStep_init a_NoStep_init d_NoStep_init
  b_NoStep_init : Binds K d_NoStep_init P_NoStep_init []
  a_InvalidText_init : Addr
  d_InvalidText_init : FuncData
  F_InvalidText_init : Fun K "__init__" "InvalidText.__init__" s_InvalidText_init a_InvalidText_init d_InvalidText_init
  b_InvalidText_init : Binds K d_InvalidText_init P_InvalidText_init []
  a_InvalidCommand_init : Addr
  d_InvalidCommand_init : FuncData
  F_InvalidCommand_init : Fun K "__init__" "InvalidCommand.__init__" s_InvalidCommand_init a_InvalidCommand_init d_InvalidCommand_init
  b_InvalidCommand_init : Binds K d_InvalidCommand_init P_InvalidCommand_init []
  a_well : Addr
  d_well : FuncData
  F_well : Fun K "_law_well" "_law_well" s_well a_well d_well
  g_well : mg "_law_well" = some (.ref a_well)
  b_well : Binds K d_well P_well []
  a_drawn : Addr
  d_drawn : FuncData
  F_drawn : Fun K "_law_drawn" "_law_drawn" s_drawn a_drawn d_drawn
  g_drawn : mg "_law_drawn" = some (.ref a_drawn)
  b_drawn : Binds K d_drawn P_drawn []
  a_any : Addr
  d_any : FuncData
  F_any : Fun K "_law_any" "_law_any" s_any a_any d_any
  g_any : mg "_law_any" = some (.ref a_any)
  b_any : Binds K d_any P_any []
  a_by_place : Addr
  d_by_place : FuncData
  F_by_place : Fun K "_law_by_place" "_law_by_place" s_by_place a_by_place d_by_place
  g_by_place : mg "_law_by_place" = some (.ref a_by_place)
  b_by_place : Binds K d_by_place P_by_place []
  a_by_name : Addr
  d_by_name : FuncData
  F_by_name : Fun K "_law_by_name" "_law_by_name" s_by_name a_by_name d_by_name
  g_by_name : mg "_law_by_name" = some (.ref a_by_name)
  b_by_name : Binds K d_by_name P_by_name []
  a_kinds : Addr
  d_kinds : FuncData
  F_kinds : Fun K "_law_kinds" "_law_kinds" s_kinds a_kinds d_kinds
  g_kinds : mg "_law_kinds" = some (.ref a_kinds)
  b_kinds : Binds K d_kinds P_kinds []
  a_told : Addr
  d_told : FuncData
  F_told : Fun K "_law_told" "_law_told" s_told a_told d_told
  g_told : mg "_law_told" = some (.ref a_told)
  b_told : Binds K d_told P_told []
  a_due : Addr
  d_due : FuncData
  F_due : Fun K "_law_due" "_law_due" s_due a_due d_due
  g_due : mg "_law_due" = some (.ref a_due)
  b_due : Binds K d_due P_due []
  a_raised : Addr
  d_raised : FuncData
  F_raised : Fun K "_law_raised" "_law_raised" s_raised a_raised d_raised
  g_raised : mg "_law_raised" = some (.ref a_raised)
  b_raised : Binds K d_raised P_raised []
  a_raised_more : Addr
  d_raised_more : FuncData
  F_raised_more : Fun K "_law_raised_more" "_law_raised_more" s_raised_more a_raised_more d_raised_more
  g_raised_more : mg "_law_raised_more" = some (.ref a_raised_more)
  b_raised_more : Binds K d_raised_more P_raised_more []
  a_caught_early : Addr
  d_caught_early : FuncData
  F_caught_early : Fun K "_law_caught_early" "_law_caught_early" s_caught_early a_caught_early d_caught_early
  g_caught_early : mg "_law_caught_early" = some (.ref a_caught_early)
  b_caught_early : Binds K d_caught_early P_caught_early []
  a_caught_late : Addr
  d_caught_late : FuncData
  F_caught_late : Fun K "_law_caught_late" "_law_caught_late" s_caught_late a_caught_late d_caught_late
  g_caught_late : mg "_law_caught_late" = some (.ref a_caught_late)
  b_caught_late : Binds K d_caught_late P_caught_late []
  a_is_python : Addr
  d_is_python : FuncData
  F_is_python : Fun K "_law_is_python" "_law_is_python" s_is_python a_is_python d_is_python
  g_is_python : mg "_law_is_python" = some (.ref a_is_python)
  b_is_python : Binds K d_is_python P_is_python []
  a_right : Addr
  d_right : FuncData
  F_right : Fun K "_law_right" "_law_right" s_right a_right d_right
  g_right : mg "_law_right" = some (.ref a_right)
  b_right : Binds K d_right P_right []
  a_law : Addr
  d_law : FuncData
  F_law : Fun K "law" "law" s_law a_law d_law
  g_law : mg "law" = some (.ref a_law)
  b_law : Binds K d_law P_law []
  C_FlowError : Addr
  g_FlowError : mg "FlowError" = some (.ref C_FlowError)
  cf_FlowError : Xv.cfB K C_FlowError = true
  C_BadStore : Addr
  g_BadStore : mg "BadStore" = some (.ref C_BadStore)
  E_BadStore : Xv.EC K C_BadStore C_FlowError ["part"]
  iC_BadStore : PySem.W.findIn K (.ref C_BadStore) "__init__" = some (some (.ref a_BadStore_init))
  tI_BadStore : PySem.W.typeIn K (.ref a_BadStore_init) = some (.type "function")
  C_BadProgram : Addr
  g_BadProgram : mg "BadProgram" = some (.ref C_BadProgram)
  E_BadProgram : Xv.EC K C_BadProgram C_FlowError ["part"]
  iC_BadProgram : PySem.W.findIn K (.ref C_BadProgram) "__init__" = some (some (.ref a_BadProgram_init))
  tI_BadProgram : PySem.W.typeIn K (.ref a_BadProgram_init) = some (.type "function")
  C_BadDefinition : Addr
  g_BadDefinition : mg "BadDefinition" = some (.ref C_BadDefinition)
  E_BadDefinition : Xv.EC K C_BadDefinition C_FlowError ["name"]
  iC_BadDefinition : PySem.W.findIn K (.ref C_BadDefinition) "__init__" = some (some (.ref a_BadDefinition_init))
  tI_BadDefinition : PySem.W.typeIn K (.ref a_BadDefinition_init) = some (.type "function")
  C_BadTerm : Addr
  g_BadTerm : mg "BadTerm" = some (.ref C_BadTerm)
  E_BadTerm : Xv.EC K C_BadTerm C_FlowError ["thing"]
  iC_BadTerm : PySem.W.findIn K (.ref C_BadTerm) "__init__" = some (some (.ref a_BadTerm_init))
  tI_BadTerm : PySem.W.typeIn K (.ref a_BadTerm_init) = some (.type "function")
  C_NoDefinition : Addr
  g_NoDefinition : mg "NoDefinition" = some (.ref C_NoDefinition)
  E_NoDefinition : Xv.EC K C_NoDefinition C_FlowError ["name"]
  iC_NoDefinition : PySem.W.findIn K (.ref C_NoDefinition) "__init__" = some (some (.ref a_NoDefinition_init))
  tI_NoDefinition : PySem.W.typeIn K (.ref a_NoDefinition_init) = some (.type "function")
  C_InUse : Addr
  g_InUse : mg "InUse" = some (.ref C_InUse)
  E_InUse : Xv.EC K C_InUse C_FlowError ["name", "by"]
  iC_InUse : PySem.W.findIn K (.ref C_InUse) "__init__" = some (some (.ref a_InUse_init))
  tI_InUse : PySem.W.typeIn K (.ref a_InUse_init) = some (.type "function")
  C_TooMany : Addr
  g_TooMany : mg "TooMany" = some (.ref C_TooMany)
  E_TooMany : Xv.EC K C_TooMany C_FlowError ["most"]
  iC_TooMany : PySem.W.findIn K (.ref C_TooMany) "__init__" = some (some (.ref a_TooMany_init))
  tI_TooMany : PySem.W.typeIn K (.ref a_TooMany_init) = some (.type "function")
  C_CanGoWrong : Addr
  g_CanGoWrong : mg "CanGoWrong" = some (.ref C_CanGoWrong)
  E_CanGoWrong : Xv.EC K C_CanGoWrong C_FlowError []
  q_CanGoWrong : PySem.W.excIn K C_CanGoWrong PySem.XeP.tailE "Exception.__new__" = true
  C_IsSafe : Addr
  g_IsSafe : mg "IsSafe" = some (.ref C_IsSafe)
  E_IsSafe : Xv.EC K C_IsSafe C_FlowError []
  q_IsSafe : PySem.W.excIn K C_IsSafe PySem.XeP.tailE "Exception.__new__" = true
  C_TooLong : Addr
  g_TooLong : mg "TooLong" = some (.ref C_TooLong)
  E_TooLong : Xv.EC K C_TooLong C_FlowError ["length"]
  iC_TooLong : PySem.W.findIn K (.ref C_TooLong) "__init__" = some (some (.ref a_TooLong_init))
  tI_TooLong : PySem.W.typeIn K (.ref a_TooLong_init) = some (.type "function")
  C_NotComparable : Addr
  g_NotComparable : mg "NotComparable" = some (.ref C_NotComparable)
  E_NotComparable : Xv.EC K C_NotComparable C_FlowError []
  q_NotComparable : PySem.W.excIn K C_NotComparable PySem.XeP.tailE "Exception.__new__" = true
  C_IsWithin : Addr
  g_IsWithin : mg "IsWithin" = some (.ref C_IsWithin)
  E_IsWithin : Xv.EC K C_IsWithin C_FlowError []
  q_IsWithin : PySem.W.excIn K C_IsWithin PySem.XeP.tailE "Exception.__new__" = true
  C_NotPossible : Addr
  g_NotPossible : mg "NotPossible" = some (.ref C_NotPossible)
  E_NotPossible : Xv.EC K C_NotPossible C_FlowError ["entry"]
  iC_NotPossible : PySem.W.findIn K (.ref C_NotPossible) "__init__" = some (some (.ref a_NotPossible_init))
  tI_NotPossible : PySem.W.typeIn K (.ref a_NotPossible_init) = some (.type "function")
  C_NoStep : Addr
  g_NoStep : mg "NoStep" = some (.ref C_NoStep)
  E_NoStep : Xv.EC K C_NoStep C_FlowError ["choice"]
  iC_NoStep : PySem.W.findIn K (.ref C_NoStep) "__init__" = some (some (.ref a_NoStep_init))
  tI_NoStep : PySem.W.typeIn K (.ref a_NoStep_init) = some (.type "function")
  C_InvalidText : Addr
  g_InvalidText : mg "InvalidText" = some (.ref C_InvalidText)
  E_InvalidText : Xv.EC K C_InvalidText C_FlowError ["line"]
  iC_InvalidText : PySem.W.findIn K (.ref C_InvalidText) "__init__" = some (some (.ref a_InvalidText_init))
  tI_InvalidText : PySem.W.typeIn K (.ref a_InvalidText_init) = some (.type "function")
  C_InvalidCommand : Addr
  g_InvalidCommand : mg "InvalidCommand" = some (.ref C_InvalidCommand)
  E_InvalidCommand : Xv.EC K C_InvalidCommand C_FlowError ["line"]
  iC_InvalidCommand : PySem.W.findIn K (.ref C_InvalidCommand) "__init__" = some (some (.ref a_InvalidCommand_init))
  tI_InvalidCommand : PySem.W.typeIn K (.ref a_InvalidCommand_init) = some (.type "function")
  C_NoProgram : Addr
  g_NoProgram : mg "NoProgram" = some (.ref C_NoProgram)
  E_NoProgram : Xv.EC K C_NoProgram C_FlowError []
  q_NoProgram : PySem.W.excIn K C_NoProgram PySem.XeP.tailE "Exception.__new__" = true
  nd : [C_BadStore, C_BadProgram, C_BadDefinition, C_BadTerm, C_NoDefinition, C_InUse, C_TooMany, C_CanGoWrong, C_IsSafe, C_TooLong, C_NotComparable, C_IsWithin, C_NotPossible, C_NoStep, C_InvalidText, C_InvalidCommand, C_NoProgram, C_FlowError].Nodup
  kbe_NoDefinition_name : Xw.KBE K d_NoDefinition_init P_NoDefinition_init ["name"] pm0 pm0
  kbe_InUse_by_name : Xw.KBE K d_InUse_init P_InUse_init ["by", "name"] pm10 pm10
  kbe_TooMany_most : Xw.KBE K d_TooMany_init P_TooMany_init ["most"] pm0 pm0
  kbe_NoStep_choice : Xw.KBE K d_NoStep_init P_NoStep_init ["choice"] pm0 pm0
  kbe_InvalidText_line : Xw.KBE K d_InvalidText_init P_InvalidText_init ["line"] pm0 pm0
  kbe_InvalidCommand_line : Xw.KBE K d_InvalidCommand_init P_InvalidCommand_init ["line"] pm0 pm0
  kbe_BadStore_part : Xw.KBE K d_BadStore_init P_BadStore_init ["part"] pm0 pm0
  kbe_BadProgram_part : Xw.KBE K d_BadProgram_init P_BadProgram_init ["part"] pm0 pm0
  kbe_BadDefinition_name : Xw.KBE K d_BadDefinition_init P_BadDefinition_init ["name"] pm0 pm0
  kbe_BadTerm_thing : Xw.KBE K d_BadTerm_init P_BadTerm_init ["thing"] pm0 pm0
  kbe_TooLong_length : Xw.KBE K d_TooLong_init P_TooLong_init ["length"] pm0 pm0
  kbe_NotPossible_entry : Xw.KBE K d_NotPossible_init P_NotPossible_init ["entry"] pm0 pm0
  n_ArithmeticError : mg "ArithmeticError" = none
  n_AttributeError : mg "AttributeError" = none
  n_Exception : mg "Exception" = none
  n_LookupError : mg "LookupError" = none
  n_RuntimeError : mg "RuntimeError" = none
  n_TypeError : mg "TypeError" = none
  n_ValueError : mg "ValueError" = none
  n_int : mg "int" = none
  n_isinstance : mg "isinstance" = none
  n_list : mg "list" = none
  n_range : mg "range" = none
  n_repr : mg "repr" = none
  n_tuple : mg "tuple" = none
/-! ### the well -/
/-- a dict of the well -/
def WK (l : Addr) (b c : Int) : List (Key × V) := [(.inr "told", .ref l), (.inr "blend", .int b), (.inr "count", .int c)]
theorem wk_told (l : Addr) (b c : Int) : valV (WK l b c) (.inr "told") = some (.ref l) := by rfl
theorem wk_blend (l : Addr) (b c : Int) : valV (WK l b c) (.inr "blend") = some (.int b) := by rfl
theorem wk_count (l : Addr) (b c : Int) : valV (WK l b c) (.inr "count") = some (.int c) := by rfl
theorem wk_put (l : Addr) (b c d : Int) : putK (WK l b c) (.inr "count") (.int d) = WK l b d := by rfl
/-- a well stands at w, its numbers in the list at l; so many draws at most were made -/
def Well (H : Hp) (w l : Addr) (C : Nat) : Prop := w ≠ l ∧ ∃ (b c : Int) (ns : List Int), H w = some (.dK (WK l b c)) ∧ H l = some (.lst (ns.map V.int)) ∧ 0 ≤ b ∧ b < 2147483587 ∧ 0 ≤ c ∧ c ≤ (C : Int) ∧ ns.length ≤ 63
theorem Well.mono {H : Hp} {w l : Addr} {C C' : Nat} (h : Well H w l C) (q : C ≤ C') : Well H w l C' := by
  obtain ⟨n, b, c, ns, h1, h2, h3, h4, h5, h6, h7⟩ := h
  exact ⟨n, b, c, ns, h1, h2, h3, h4, h5, by omega, h7⟩
theorem Well.same {H H' : Hp} {w l : Addr} {C : Nat} (h : Well H w l C) (k : Same H H') : Well H' w l C := by
  obtain ⟨n, b, c, ns, h1, h2, r⟩ := h
  exact ⟨n, b, c, ns, k _ _ h1, k _ _ h2, r⟩
abbrev LIM : Nat := 1000000000
section
variable {P : Program} {w : World} {K : PySem.W.Frag} {mg : PySem.Str → Option Value} {base : Heap}
def sp_law (K : PySem.W.Frag) : Sp := fun vs H Q _ => ∃ (a : Addr) (ns : List Int), vs = [.ref a] ∧ SqL K H a (ns.map V.int) ∧ ns.length ≤ 63 ∧ ∀ (H' : Hp), Q (.bl true) H'
def sp_well (K : PySem.W.Frag) : Sp := fun vs H Q _ => ∃ (a : Addr) (ns : List Int), vs = [.ref a] ∧ SqL K H a (ns.map V.int) ∧ ns.length ≤ 63 ∧
  ∀ (H' : Hp) (w l : Addr), Same H H' → H w = none → H l = none → Well H' w l 0 → Q (.ref w) H'
def sp_drawn : Sp := fun vs H Q _ => ∃ (w l : Addr) (m : Int) (C : Nat), vs = [.ref w, .int m] ∧ Well H w l C ∧ C < LIM ∧ 0 < m ∧ m < 1073741824 ∧
  ∀ (H' : Hp) (r : Int), Kp [w, l] H H' → Well H' w l (C + 1) → 0 ≤ r → r < m → Q (.int r) H'
theorem cut63 {ns : List Int} (h : ns.length ≤ 63) : cutV (ns.map V.int) none (some 63) = ns.map V.int := by
  unfold cutV
  rw [HT.sIx_none, show HT.sIx (ns.map V.int).length (ns.map V.int).length (some 63) = min 63 (ns.map V.int).length from HT.sIx_nat _ _ 63, List.length_map]
  rw [show min 63 ns.length = ns.length by omega]
  show List.take (ns.length - 0) (ns.map V.int) = _
  exact List.take_of_length_le (by rw [List.length_map]; omega)
theorem mod_in {a m : Int} (h : 0 < m) : 0 ≤ a % m ∧ a % m < m := ⟨Int.emod_nonneg _ (by omega), Int.emod_lt_of_pos _ h⟩
theorem cmul_mod {x m j : Int} (h : 0 < m) (h2 : m ≤ 2 ^ 64) : CMul (x % m) j := .inl ⟨by have := (mod_in (a := x) h).1; omega, by have := (mod_in (a := x) h).2; omega⟩
theorem ok_well (T : Txt K mg) : FnOk P w K mg base CX0 1 T.a_well T.d_well P_well (sp_well K) := by
  refine T.F_well.ok sc_well (fun vs H Q E h => by obtain ⟨a, ns, rfl, _⟩ := h; rfl) (fun cdv A outer s H vs Q E hr h => ?_)
  refine ⟨_, (pss_cons (ps_par (i := 1) (j := 2) (by rfl) sc_well.nd rfl rfl (by decide) rfl rfl (pa_cons (pe_callTy call_list_of (by rfl) T.n_list (by decide +kernel) (pa_cons (pe_slice sl_list (pv 0) po_none (po_some pe_int)) pa_nil)) (pa_cons pe_int pa_nil)) (by rfl))
    (pss_cons (ps_for PassesOwn.never rfl (pi_list (pv 1)) (pg_name (i := 3) sc_well.nd rfl (Or.inl rfl)) (pss_one (ps_set (i := 2) sc_well.nd rfl (Or.inl rfl) (pe_op op_mod (pe_callTy call_int1 (by rfl) T.n_int (by decide +kernel) (pa_cons (pe_op op_add (pe_op op_add (pe_op op_mul (pv 2) pe_int) (pe_op op_mod (pe_callTy call_int1 (by rfl) T.n_int (by decide +kernel) (pa_cons (pv 3) pa_nil)) pe_int)) pe_int) pa_nil)) pe_int))))
    (pss_one (ps_ret (pe_disp (pps_cons pe_str (pe_revL (pv 1)) (pps_cons pe_str (pv 2) (pps_cons pe_str pe_int pps_nil))) (by rfl) (by rfl) (fun z => by cases z) (by decide)))))), ?_⟩
  obtain ⟨a, ns, rfl, hS, hl, q⟩ := h
  refine ⟨_, rfl, 63, rfl, a, ns.map V.int, rfl, hS, fun p hp => ?_⟩
  rw [cut63 hl]
  refine ⟨p, _, rfl, .inl (SqL.of upd_same), fun l hl2 => ?_⟩
  refine ⟨_, _, rfl, ?_⟩
  have pl : l ≠ p := fun e => by
    rw [e, upd_same] at hl2
    cases hl2
  have hl0 : H l = none := by rw [upd_ne pl] at hl2; exact hl2
  have s1 : Same H (upd (upd H p (.lst (ns.map V.int))) l (.lst (ns.map V.int))) := fun b o e => by
    rw [upd_ne (ne_of_none e hl0), upd_ne (ne_of_none e hp)]
    exact e
  generalize hH : upd (upd H p (.lst (ns.map V.int))) l (.lst (ns.map V.int)) = H2 at s1 ⊢
  have hL : H2 l = some (.lst (ns.map V.int)) := by rw [← hH]; exact upd_same
  refine ⟨_, rfl, l, rfl, ⟨_, SqL.of hL⟩, for_list (K := K) (a := l) (xs := ns.map V.int) (fun i σ H' => ∃ (b : Int) (y : Option V), σ = [some (.ref a), some (.ref l), some (.int b), y] ∧ H' = H2 ∧ 0 ≤ b ∧ b < 2147483587)
    ⟨52361, none, rfl, rfl, by decide, by decide⟩ (fun i σ H' _ ⟨_, _, _, e, _⟩ => by rw [e]; exact SqL.of hL) ?_ ?_⟩
  · rintro i x σ H' hi ⟨b, y, rfl, rfl, hb0, hb1⟩
    obtain ⟨z, rfl⟩ : ∃ z, x = V.int z := by
      rw [List.getElem?_map] at hi
      cases e : ns[i]? with
      | none => rw [e] at hi; cases hi
      | some z => rw [e] at hi; exact ⟨z, (Option.some.inj hi).symm⟩
    refine ⟨_, rfl, _, _, rfl, rfl, .inr ⟨by decide, by decide⟩, _, rfl, .inl ⟨_, rfl, _, _, rfl, rfl, (by decide : (0 : Int) < 2147483629), _, _, rfl, rfl, _, _, rfl, rfl, .inl ⟨_, rfl, _, _, rfl, rfl, (by decide : (0 : Int) < 2147483587), ?_⟩⟩⟩
    exact ⟨_, _, rfl, rfl, (mod_in (by decide)).1, (mod_in (by decide)).2⟩
  · rintro σ H' ⟨b, y, rfl, rfl, hb0, hb1⟩
    refine fun d hd => ?_
    have dl : d ≠ l := fun e => by
      rw [e, hL] at hd
      cases hd
    refine ⟨_, rfl, l, ns.map V.int, rfl, SqL.of (by rw [upd_ne dl.symm]; exact hL), fun r hr2 => ?_⟩
    have rd : r ≠ d := fun e => by
      rw [e, upd_same] at hr2
      cases hr2
    have hr0 : H' r = none := by rw [upd_ne rd] at hr2; exact hr2
    refine ⟨_, rfl, ?_⟩
    refine ⟨by rw [upd_ne rd.symm]; exact upd_same, WK r b 0, rfl, (by show 3 ≤ 15; decide), ?_⟩
    refine q _ d r (fun x o e => ?_) (s1.free hd) (s1.free hr0) ⟨rd.symm, b, 0, ns.reverse, ?_, ?_, hb0, hb1, by decide, by decide, by rw [List.length_reverse]; exact hl⟩
    · have e2 := s1 x o e
      rw [upd_ne (ne_of_none e2 hd), upd_ne (ne_of_none e2 hr0), upd_ne (ne_of_none e2 hd)]
      exact e2
    · exact upd_same
    · rw [upd_ne rd, upd_same, List.map_reverse]

theorem ok_drawn (T : Txt K mg) : FnOk P w K mg base CX0 1 T.a_drawn T.d_drawn P_drawn sp_drawn := by
  refine T.F_drawn.ok sc_drawn (fun vs H Q E h => by obtain ⟨w, l, m, C, rfl, _⟩ := h; rfl) (fun cdv A outer s H vs Q E hr h => ?_)
  refine ⟨_, (pss_cons (ps_dput (hu_of hr) (pv 0) pe_str (pe_op op_add (pe_dget (hu_of hr) (pv 0) pe_str (fun _ _ => rfl)) pe_int) rfl)
    (pss_cons (ps_set (i := 2) sc_drawn.nd rfl (Or.inl rfl) (pe_op op_add (pe_dget (hu_of hr) (pv 0) pe_str (fun _ _ => rfl)) (pe_op op_mul (pe_op op_mul pe_int (pe_dget (hu_of hr) (pv 0) pe_str (fun _ _ => rfl))) (pe_dget (hu_of hr) (pv 0) pe_str (fun _ _ => rfl)))))
    (pss_cons (ps_if (pt_cmpR (op_neD hr.units) (pe_dget (hu_of hr) (pv 0) pe_str (fun _ _ => rfl)) (pe_lst pa_nil) (nomark _)) (pss_cons (ps_set (i := 3) sc_drawn.nd rfl (Or.inl rfl) (pe_bm0 PySem.F.plainAttrs_list PySem.F.slot_list_pop PySem.F.type_list_pop mt_pop (pe_dget (hu_of hr) (pv 0) pe_str (fun _ _ => rfl))))
    (pss_cons (ps_if (pt_cmpR op_ge (pv 3) (pe_op op_pow pe_int pe_int) (nomark _)) (pss_cons (ps_expr (pe_bm PySem.F.plainAttrs_list PySem.F.slot_list_append PySem.F.type_list_append mt_append (pe_dget (hu_of hr) (pv 0) pe_str (fun _ _ => rfl)) (pa_cons (pe_op op_fdiv (pv 3) (pv 1)) pa_nil)))
    (pss_one (ps_ret (pe_op op_mod (pe_callTy call_int1 (by rfl) T.n_int (by decide +kernel) (pa_cons (pv 3) pa_nil)) (pv 1))))) pss_nil)
    (pss_one (ps_set (i := 2) sc_drawn.nd rfl (Or.inl rfl) (pe_op op_add (pv 2) (pv 3)))))) pss_nil)
    (pss_cons (ps_set (i := 2) sc_drawn.nd rfl (Or.inl rfl) (pe_op op_mod (pe_callTy call_int1 (by rfl) T.n_int (by decide +kernel) (pa_cons (pe_op op_mul (pe_op op_mod (pe_callTy call_int1 (by rfl) T.n_int (by decide +kernel) (pa_cons (pv 2) pa_nil)) pe_int) pe_int) pa_nil)) pe_int))
    (pss_cons (ps_set (i := 2) sc_drawn.nd rfl (Or.inl rfl) (pe_op op_mod (pe_callTy call_int1 (by rfl) T.n_int (by decide +kernel) (pa_cons (pe_op op_add (pe_op op_add (pe_op op_mul (pv 2) (pv 2)) (pe_op op_mul pe_int (pv 2))) pe_int) pa_nil)) pe_int))
    (pss_one (ps_ret (pe_op op_mod (pe_callTy call_int1 (by rfl) T.n_int (by decide +kernel) (pa_cons (pe_op op_fdiv (pe_op op_mod (pe_callTy call_int1 (by rfl) T.n_int (by decide +kernel) (pa_cons (pe_op op_mul (pv 2) pe_int) pa_nil)) pe_int) pe_int) pa_nil)) (pv 1))))))))), ?_⟩
  obtain ⟨w, l, m, C, rfl, ⟨wl, b, c, ns, hw, hl, b0, b1, c0, c1, n63⟩, hC, m0, m1, q⟩ := h
  refine ⟨_, rfl, w, _, rfl, DGet.k (k := .inr "count") hw, _, _, rfl, rfl, _, rfl, w, _, rfl, DPut.k (k := .inr "count") hw (by show 3 < sizeLine; decide), ?_⟩
  rw [wk_put]
  -- the heap with one draw more
  have k1 : Kp [w, l] H (upd H w (.dK (WK l b (c + 1)))) := (Kp.refl _ H).wr (.inl List.mem_cons_self)
  have hw1 : (upd H w (.dK (WK l b (c + 1)))) w = some (.dK (WK l b (c + 1))) := upd_same
  have hl1 : (upd H w (.dK (WK l b (c + 1)))) l = some (.lst (ns.map V.int)) := by rw [upd_ne wl.symm]; exact hl
  generalize upd H w (.dK (WK l b (c + 1))) = H1 at k1 hw1 hl1 ⊢
  have hC' : (C : Int) < 1000000000 := Int.ofNat_lt.mpr hC
  -- seed
  refine ⟨_, rfl, w, _, rfl, DGet.k (k := .inr "blend") hw1, _, rfl, w, _, rfl, DGet.k (k := .inr "count") hw1, _, _, rfl, rfl, .inl ⟨by decide, by decide⟩, _, rfl, w, _, rfl, DGet.k (k := .inr "count") hw1, _, _, rfl, rfl, .inr ⟨by omega, by omega⟩, _, _, rfl, rfl, ?_⟩
  show tSeq _ _ _ _ _
  generalize b + 60271 * (c + 1) * (c + 1) = seed
  -- if well['told'] != []
  refine ⟨_, rfl, w, _, rfl, DGet.k (k := .inr "told") hw1, Nat.zero_le _, fun p hp => ?_⟩
  have pw : p ≠ w := fun e => by
    rw [e, hw1] at hp
    cases hp
  have pl : p ≠ l := fun e => by
    rw [e, hl1] at hp
    cases hp
  have k2 : Kp [w, l] H (upd H1 p (.lst [])) := k1.trans (Kp.new hp)
  have hw2 : (upd H1 p (.lst [])) w = some (.dK (WK l b (c + 1))) := by rw [upd_ne pw.symm]; exact hw1
  have hl2 : (upd H1 p (.lst [])) l = some (.lst (ns.map V.int)) := by rw [upd_ne pl.symm]; exact hl1
  refine ⟨.list (ns.map .int), .list [], .lst (SqL.of hl2) (dp_ints ns), .lst (SqL.of upd_same) .nil, shaped_ints ns, rfl, _, rfl, ?_⟩
  generalize upd H1 p (.lst []) = H2 at k2 hw2 hl2 ⊢
  rw [eqv_empty]
  have hW2 : ∀ ns' : List Int, ns'.length ≤ 63 → ∀ H3 : Hp, H3 w = some (.dK (WK l b (c + 1))) → H3 l = some (.lst (ns'.map V.int)) → Well H3 w l (C + 1) := fun ns' h63 H3 e1 e2 =>
    ⟨wl, b, c + 1, ns', e1, e2, b0, b1, by omega, by omega, h63⟩
  -- what is left to do, the seed in its slot
  cases ns with
  | nil =>
    refine iteF ?_
    refine ⟨_, rfl, .inl ⟨_, rfl, _, _, rfl, rfl, (by decide : (0 : Int) < 2147483629), _, _, rfl, rfl, cmul_mod (by decide) (by decide), .inl ⟨_, rfl, _, _, rfl, rfl, (by decide : (0 : Int) < 2147483647), ?_⟩⟩⟩
    refine ⟨_, rfl, _, rfl, _, _, rfl, rfl, cmul_mod (by decide) (by decide), _, rfl, _, _, rfl, rfl, .inl ⟨by decide, by decide⟩, _, _, rfl, rfl, _, _, rfl, rfl, .inl ⟨_, rfl, _, _, rfl, rfl, (by decide : (0 : Int) < 2147483563), ?_⟩⟩
    refine ⟨_, rfl, _, _, rfl, rfl, cmul_mod (by decide) (by decide), .inl ⟨_, rfl, _, _, rfl, rfl, (by decide : (0 : Int) < 2147483587), _, _, rfl, rfl, ⟨by decide, by decide⟩, .inl ⟨_, rfl, _, rfl, _, _, rfl, rfl, m0, ?_⟩⟩⟩
    exact q _ _ k2 (hW2 [] (by decide) _ hw2 hl2) (mod_in m0).1 (mod_in m0).2
  | cons z r =>
    refine iteT ?_
    -- number = well['told'].pop()
    have hlast : ((z :: r).map V.int)[((z :: r).map V.int).length - 1]? = some (V.int ((z :: r).getLast (List.cons_ne_nil z r))) := by
      rw [List.length_map, List.getElem?_map, ← List.getLast?_eq_getElem?, List.getLast?_eq_getLast (List.cons_ne_nil z r)]
      rfl
    have hdrop : ((z :: r).map V.int).dropLast = (z :: r).dropLast.map V.int := by rw [List.map_dropLast]
    have hlen : ((z :: r).dropLast).length ≤ 62 := by
      rw [List.length_dropLast]
      omega
    refine ⟨_, rfl, w, _, rfl, DGet.k (k := .inr "told") hw2, .inl ⟨rfl, _, SqL.of hl2⟩, l, _, _, rfl, rfl, hl2, hlast, ?_⟩
    generalize (z :: r).getLast (List.cons_ne_nil z r) = number
    rw [hdrop]
    generalize (z :: r).dropLast = more at hlen
    have hw3 : (upd H2 l (.lst (more.map V.int))) w = some (.dK (WK l b (c + 1))) := by rw [upd_ne wl]; exact hw2
    have hl3 : (upd H2 l (.lst (more.map V.int))) l = some (.lst (more.map V.int)) := upd_same
    have k3 : Kp [w, l] H (upd H2 l (.lst (more.map V.int))) := k2.wr (.inl (List.mem_cons_of_mem _ List.mem_cons_self))
    generalize upd H2 l (.lst (more.map V.int)) = H3 at k3 hw3 hl3 ⊢
    -- if number >= 10 ** 18
    refine ⟨_, rfl, _, _, rfl, rfl, ⟨by decide, by decide, by decide⟩, _, _, rfl, rfl, _, rfl, ite2 (fun e => ?_) (fun e => ?_)⟩
    · refine ⟨_, rfl, w, _, rfl, DGet.k (k := .inr "told") hw3, .inl ⟨rfl, _, SqL.of hl3⟩, _, rfl, _, rfl, _, _, rfl, rfl, ⟨m0, m1⟩, l, _, _, rfl, rfl, hl3, by rw [List.length_map, sizeLine_eq]; omega, ?_⟩
      refine ⟨_, rfl, .inl ⟨_, rfl, _, rfl, _, _, rfl, rfl, m0, ?_⟩⟩
      refine q _ _ (k3.wr (.inl (List.mem_cons_of_mem _ List.mem_cons_self))) (hW2 (more ++ [number / m]) (by rw [List.length_append, List.length_singleton]; omega) _ (by rw [upd_ne wl]; exact hw3) (by rw [upd_same, List.map_append]; rfl)) (mod_in m0).1 (mod_in m0).2
    · refine ⟨_, rfl, _, rfl, _, _, rfl, rfl, ?_⟩
      refine ⟨_, rfl, .inl ⟨_, rfl, _, _, rfl, rfl, (by decide : (0 : Int) < 2147483629), _, _, rfl, rfl, cmul_mod (by decide) (by decide), .inl ⟨_, rfl, _, _, rfl, rfl, (by decide : (0 : Int) < 2147483647), ?_⟩⟩⟩
      refine ⟨_, rfl, _, rfl, _, _, rfl, rfl, cmul_mod (by decide) (by decide), _, rfl, _, _, rfl, rfl, .inl ⟨by decide, by decide⟩, _, _, rfl, rfl, _, _, rfl, rfl, .inl ⟨_, rfl, _, _, rfl, rfl, (by decide : (0 : Int) < 2147483563), ?_⟩⟩
      refine ⟨_, rfl, _, _, rfl, rfl, cmul_mod (by decide) (by decide), .inl ⟨_, rfl, _, _, rfl, rfl, (by decide : (0 : Int) < 2147483587), _, _, rfl, rfl, ⟨by decide, by decide⟩, .inl ⟨_, rfl, _, rfl, _, _, rfl, rfl, m0, ?_⟩⟩⟩
      exact q _ _ k3 (hW2 more (by omega) _ hw3 hl3) (mod_in m0).1 (mod_in m0).2
end
end K01
set_option Elab.async false
set_option linter.all false
set_option maxRecDepth 100000
set_option maxHeartbeats 4000000
/-! k01: the seventeen classes, exceptions made by place and by name. -/
namespace K01
open PySem PySem.Spec PyProof.Rows L2 Zg Zr Zd Zv Xu
section
variable {P : Program} {w : World} {K : PySem.W.Frag} {mg : PySem.Str → Option Value} {base : Heap}
def Txt.cs (T : Txt K mg) : List Addr := [T.C_BadStore, T.C_BadProgram, T.C_BadDefinition, T.C_BadTerm, T.C_NoDefinition, T.C_InUse, T.C_TooMany, T.C_CanGoWrong, T.C_IsSafe, T.C_TooLong, T.C_NotComparable, T.C_IsWithin, T.C_NotPossible, T.C_NoStep, T.C_InvalidText, T.C_InvalidCommand, T.C_NoProgram]
def cat (T : Txt K mg) (i : Nat) : Addr := T.cs.getD i 0
def FL : List (List PySem.Str) := [["part"], ["part"], ["name"], ["thing"], ["name"], ["name", "by"], ["most"], [], [], ["length"], [], [], ["entry"], ["choice"], ["line"], ["line"], []]
def flds (i : Nat) : List PySem.Str := FL.getD i []
theorem ec (T : Txt K mg) : ∀ i, i < 17 → Xv.EC K (cat T i) T.C_FlowError (flds i)
  | 0, _ => T.E_BadStore
  | 1, _ => T.E_BadProgram
  | 2, _ => T.E_BadDefinition
  | 3, _ => T.E_BadTerm
  | 4, _ => T.E_NoDefinition
  | 5, _ => T.E_InUse
  | 6, _ => T.E_TooMany
  | 7, _ => T.E_CanGoWrong
  | 8, _ => T.E_IsSafe
  | 9, _ => T.E_TooLong
  | 10, _ => T.E_NotComparable
  | 11, _ => T.E_IsWithin
  | 12, _ => T.E_NotPossible
  | 13, _ => T.E_NoStep
  | 14, _ => T.E_InvalidText
  | 15, _ => T.E_InvalidCommand
  | 16, _ => T.E_NoProgram
  | _ + 17, h => absurd h (by omega)
theorem nd17 (T : Txt K mg) : (T.cs ++ [T.C_FlowError]).Nodup := T.nd
theorem cat_ne (T : Txt K mg) {i : Nat} (hi : i < 17) : cat T i ≠ T.C_FlowError := fun e => by
  have h := List.nodup_append.mp (nd17 T)
  have hm : cat T i ∈ T.cs := by
    unfold cat
    rw [List.getD_eq_getElem?_getD, List.getElem?_eq_getElem (show i < T.cs.length from hi)]
    exact List.getElem_mem _
  exact h.2.2 _ hm _ List.mem_cons_self e
theorem cat_inj (T : Txt K mg) {i j : Nat} (hi : i < 17) (hj : j < 17) (e : cat T i = cat T j) : i = j := by
  have h := (List.nodup_append.mp (nd17 T)).1
  have li : i < T.cs.length := hi
  have lj : j < T.cs.length := hj
  unfold cat at e
  rw [List.getD_eq_getElem?_getD, List.getD_eq_getElem?_getD, List.getElem?_eq_getElem li, List.getElem?_eq_getElem lj] at e
  rcases Nat.lt_trichotomy i j with l | l | l
  · exact absurd e (List.pairwise_iff_getElem.mp h i j li lj l)
  · exact l
  · exact absurd e.symm (List.pairwise_iff_getElem.mp h j i lj li l)
theorem kit_cat (T : Txt K mg) {i j : Nat} (hi : i < 17) (hj : j < 17) : PySem.W.kitOne K (.ref (cat T i)) (.ref (cat T j)) = some (i == j) := by
  rw [(ec T i hi).kitOne (ec T j hj) (cat_ne T hj)]
  congr 1
  by_cases e : i = j
  · subst e
    simp
  · rw [decide_eq_false (fun z => e (cat_inj T hi hj z))]
    exact (beq_eq_false_iff_ne.mpr e).symm
theorem exm_cat (T : Txt K mg) {i j : Nat} (hi : i < 17) (hj : j < 17) : PySem.W.exmOne K (.ref (cat T i)) (.ref (cat T j)) = some (i == j) := by
  rw [(ec T i hi).exm (ec T j hj) (cat_ne T hj)]
  congr 1
  by_cases e : i = j
  · subst e
    simp
  · rw [decide_eq_false (fun z => e (cat_inj T hi hj z))]
    exact (beq_eq_false_iff_ne.mpr e).symm
theorem one_of_len {ws : List V} {f : PySem.Str} (h : ws.length = [f].length) : ∃ y, ws = [y] := by
  match ws, h with
  | [y], _ => exact ⟨y, rfl⟩
theorem two_of_len {ws : List V} {f g : PySem.Str} (h : ws.length = [f, g].length) : ∃ y z, ws = [y, z] := by
  match ws, h with
  | [y, z], _ => exact ⟨y, z, rfl⟩
/-- what is passed to the class at a place -/
def args (i : Nat) (u v : V) : List V := match flds i with
  | [] => []
  | [_] => [u]
  | _ => [u, v]
/-- an exception of the class at a place, made of two values -/
def EX (T : Txt K mg) (H : Hp) (a : Addr) (i : Nat) (u v : V) : Prop := match flds i with
  | [] => H a = some (exo a (cat T i) none)
  | gs => ∃ dx, H a = some (exo a (cat T i) (some dx)) ∧ H dx = some (exd dx (gs.zip (args i u v)).reverse)
theorem EX.same {T : Txt K mg} {H H' : Hp} {a : Addr} {i : Nat} {u v : V} (h : EX T H a i u v) (k : Same H H') : EX T H' a i u v := by
  unfold EX at h ⊢
  split at h
  · exact k _ _ h
  · obtain ⟨dx, h1, h2⟩ := h
    exact ⟨dx, k _ _ h1, k _ _ h2⟩
theorem EX.has {T : Txt K mg} {X : Cx} {H : Hp} {a : Addr} {i : Nat} {u v : V} (h : EX T H a i u v) : Xw.HasE X H a (cat T i) := by
  unfold EX at h
  split at h
  · exact Xw.hasE_0 h
  · obtain ⟨dx, h1, h2⟩ := h
    exact Xw.hasE_1 h1 h2
theorem ok_BadStore_init (T : Txt K mg) : FnOk P w K mg base CX0 1 T.a_BadStore_init T.d_BadStore_init P_BadStore_init (spIni T.C_BadStore ["part"]) := by
  refine T.F_BadStore_init.ok sc_BadStore_init (fun vs H Q E h => by obtain ⟨a, ws, H0, rfl, hl, _⟩ := h; rw [List.length_cons, hl]; rfl) (fun cdv A outer s H vs Q E hr h => ?_)
  refine ⟨_, (pss_one (Xu.ps_put (pv 0) (pv 1))), ?_⟩
  obtain ⟨a, ws, H0, rfl, hl, ha, h0, hr0, q⟩ := h
  obtain ⟨y0, rfl⟩ : ∃ y0, ws = [y0] := one_of_len hl
  exact ⟨_, rfl, _, rfl, a, T.C_BadStore, rfl, T.E_BadStore.ox, T.E_BadStore.no _ List.mem_cons_self, .inl ⟨ha, fun dx hd ne => q dx _ (Made.first ha hd ne h0 hr0)⟩⟩
theorem ok_BadProgram_init (T : Txt K mg) : FnOk P w K mg base CX0 1 T.a_BadProgram_init T.d_BadProgram_init P_BadProgram_init (spIni T.C_BadProgram ["part"]) := by
  refine T.F_BadProgram_init.ok sc_BadProgram_init (fun vs H Q E h => by obtain ⟨a, ws, H0, rfl, hl, _⟩ := h; rw [List.length_cons, hl]; rfl) (fun cdv A outer s H vs Q E hr h => ?_)
  refine ⟨_, (pss_one (Xu.ps_put (pv 0) (pv 1))), ?_⟩
  obtain ⟨a, ws, H0, rfl, hl, ha, h0, hr0, q⟩ := h
  obtain ⟨y0, rfl⟩ : ∃ y0, ws = [y0] := one_of_len hl
  exact ⟨_, rfl, _, rfl, a, T.C_BadProgram, rfl, T.E_BadProgram.ox, T.E_BadProgram.no _ List.mem_cons_self, .inl ⟨ha, fun dx hd ne => q dx _ (Made.first ha hd ne h0 hr0)⟩⟩
theorem ok_BadDefinition_init (T : Txt K mg) : FnOk P w K mg base CX0 1 T.a_BadDefinition_init T.d_BadDefinition_init P_BadDefinition_init (spIni T.C_BadDefinition ["name"]) := by
  refine T.F_BadDefinition_init.ok sc_BadDefinition_init (fun vs H Q E h => by obtain ⟨a, ws, H0, rfl, hl, _⟩ := h; rw [List.length_cons, hl]; rfl) (fun cdv A outer s H vs Q E hr h => ?_)
  refine ⟨_, (pss_one (Xu.ps_put (pv 0) (pv 1))), ?_⟩
  obtain ⟨a, ws, H0, rfl, hl, ha, h0, hr0, q⟩ := h
  obtain ⟨y0, rfl⟩ : ∃ y0, ws = [y0] := one_of_len hl
  exact ⟨_, rfl, _, rfl, a, T.C_BadDefinition, rfl, T.E_BadDefinition.ox, T.E_BadDefinition.no _ List.mem_cons_self, .inl ⟨ha, fun dx hd ne => q dx _ (Made.first ha hd ne h0 hr0)⟩⟩
theorem ok_BadTerm_init (T : Txt K mg) : FnOk P w K mg base CX0 1 T.a_BadTerm_init T.d_BadTerm_init P_BadTerm_init (spIni T.C_BadTerm ["thing"]) := by
  refine T.F_BadTerm_init.ok sc_BadTerm_init (fun vs H Q E h => by obtain ⟨a, ws, H0, rfl, hl, _⟩ := h; rw [List.length_cons, hl]; rfl) (fun cdv A outer s H vs Q E hr h => ?_)
  refine ⟨_, (pss_one (Xu.ps_put (pv 0) (pv 1))), ?_⟩
  obtain ⟨a, ws, H0, rfl, hl, ha, h0, hr0, q⟩ := h
  obtain ⟨y0, rfl⟩ : ∃ y0, ws = [y0] := one_of_len hl
  exact ⟨_, rfl, _, rfl, a, T.C_BadTerm, rfl, T.E_BadTerm.ox, T.E_BadTerm.no _ List.mem_cons_self, .inl ⟨ha, fun dx hd ne => q dx _ (Made.first ha hd ne h0 hr0)⟩⟩
theorem ok_NoDefinition_init (T : Txt K mg) : FnOk P w K mg base CX0 1 T.a_NoDefinition_init T.d_NoDefinition_init P_NoDefinition_init (spIni T.C_NoDefinition ["name"]) := by
  refine T.F_NoDefinition_init.ok sc_NoDefinition_init (fun vs H Q E h => by obtain ⟨a, ws, H0, rfl, hl, _⟩ := h; rw [List.length_cons, hl]; rfl) (fun cdv A outer s H vs Q E hr h => ?_)
  refine ⟨_, (pss_one (Xu.ps_put (pv 0) (pv 1))), ?_⟩
  obtain ⟨a, ws, H0, rfl, hl, ha, h0, hr0, q⟩ := h
  obtain ⟨y0, rfl⟩ : ∃ y0, ws = [y0] := one_of_len hl
  exact ⟨_, rfl, _, rfl, a, T.C_NoDefinition, rfl, T.E_NoDefinition.ox, T.E_NoDefinition.no _ List.mem_cons_self, .inl ⟨ha, fun dx hd ne => q dx _ (Made.first ha hd ne h0 hr0)⟩⟩
theorem ok_InUse_init (T : Txt K mg) : FnOk P w K mg base CX0 1 T.a_InUse_init T.d_InUse_init P_InUse_init (spIni T.C_InUse ["name", "by"]) := by
  refine T.F_InUse_init.ok sc_InUse_init (fun vs H Q E h => by obtain ⟨a, ws, H0, rfl, hl, _⟩ := h; rw [List.length_cons, hl]; rfl) (fun cdv A outer s H vs Q E hr h => ?_)
  refine ⟨_, (pss_cons (Xu.ps_put (pv 0) (pv 1))
    (pss_one (Xu.ps_put (pv 0) (pv 2)))), ?_⟩
  obtain ⟨a, ws, H0, rfl, hl, ha, h0, hr0, q⟩ := h
  obtain ⟨y0, y1, rfl⟩ : ∃ y0 y1, ws = [y0, y1] := two_of_len hl
  refine ⟨_, rfl, _, rfl, a, T.C_InUse, rfl, T.E_InUse.ox, T.E_InUse.no _ List.mem_cons_self, .inl ⟨ha, fun dx hd ne => ?_⟩⟩
  have m := Made.first (f := "name") (y := y0) ha hd ne h0 hr0
  exact ⟨_, rfl, _, rfl, a, T.C_InUse, rfl, T.E_InUse.ox, T.E_InUse.no _ (List.mem_cons_of_mem _ List.mem_cons_self), .inr ⟨dx, _, m.at_, m.dict, by show 1 ≤ 900; decide, q dx _ m.more⟩⟩
theorem ok_TooMany_init (T : Txt K mg) : FnOk P w K mg base CX0 1 T.a_TooMany_init T.d_TooMany_init P_TooMany_init (spIni T.C_TooMany ["most"]) := by
  refine T.F_TooMany_init.ok sc_TooMany_init (fun vs H Q E h => by obtain ⟨a, ws, H0, rfl, hl, _⟩ := h; rw [List.length_cons, hl]; rfl) (fun cdv A outer s H vs Q E hr h => ?_)
  refine ⟨_, (pss_one (Xu.ps_put (pv 0) (pv 1))), ?_⟩
  obtain ⟨a, ws, H0, rfl, hl, ha, h0, hr0, q⟩ := h
  obtain ⟨y0, rfl⟩ : ∃ y0, ws = [y0] := one_of_len hl
  exact ⟨_, rfl, _, rfl, a, T.C_TooMany, rfl, T.E_TooMany.ox, T.E_TooMany.no _ List.mem_cons_self, .inl ⟨ha, fun dx hd ne => q dx _ (Made.first ha hd ne h0 hr0)⟩⟩
theorem ok_TooLong_init (T : Txt K mg) : FnOk P w K mg base CX0 1 T.a_TooLong_init T.d_TooLong_init P_TooLong_init (spIni T.C_TooLong ["length"]) := by
  refine T.F_TooLong_init.ok sc_TooLong_init (fun vs H Q E h => by obtain ⟨a, ws, H0, rfl, hl, _⟩ := h; rw [List.length_cons, hl]; rfl) (fun cdv A outer s H vs Q E hr h => ?_)
  refine ⟨_, (pss_one (Xu.ps_put (pv 0) (pv 1))), ?_⟩
  obtain ⟨a, ws, H0, rfl, hl, ha, h0, hr0, q⟩ := h
  obtain ⟨y0, rfl⟩ : ∃ y0, ws = [y0] := one_of_len hl
  exact ⟨_, rfl, _, rfl, a, T.C_TooLong, rfl, T.E_TooLong.ox, T.E_TooLong.no _ List.mem_cons_self, .inl ⟨ha, fun dx hd ne => q dx _ (Made.first ha hd ne h0 hr0)⟩⟩
theorem ok_NotPossible_init (T : Txt K mg) : FnOk P w K mg base CX0 1 T.a_NotPossible_init T.d_NotPossible_init P_NotPossible_init (spIni T.C_NotPossible ["entry"]) := by
  refine T.F_NotPossible_init.ok sc_NotPossible_init (fun vs H Q E h => by obtain ⟨a, ws, H0, rfl, hl, _⟩ := h; rw [List.length_cons, hl]; rfl) (fun cdv A outer s H vs Q E hr h => ?_)
  refine ⟨_, (pss_one (Xu.ps_put (pv 0) (pv 1))), ?_⟩
  obtain ⟨a, ws, H0, rfl, hl, ha, h0, hr0, q⟩ := h
  obtain ⟨y0, rfl⟩ : ∃ y0, ws = [y0] := one_of_len hl
  exact ⟨_, rfl, _, rfl, a, T.C_NotPossible, rfl, T.E_NotPossible.ox, T.E_NotPossible.no _ List.mem_cons_self, .inl ⟨ha, fun dx hd ne => q dx _ (Made.first ha hd ne h0 hr0)⟩⟩
theorem ok_NoStep_init (T : Txt K mg) : FnOk P w K mg base CX0 1 T.a_NoStep_init T.d_NoStep_init P_NoStep_init (spIni T.C_NoStep ["choice"]) := by
  refine T.F_NoStep_init.ok sc_NoStep_init (fun vs H Q E h => by obtain ⟨a, ws, H0, rfl, hl, _⟩ := h; rw [List.length_cons, hl]; rfl) (fun cdv A outer s H vs Q E hr h => ?_)
  refine ⟨_, (pss_one (Xu.ps_put (pv 0) (pv 1))), ?_⟩
  obtain ⟨a, ws, H0, rfl, hl, ha, h0, hr0, q⟩ := h
  obtain ⟨y0, rfl⟩ : ∃ y0, ws = [y0] := one_of_len hl
  exact ⟨_, rfl, _, rfl, a, T.C_NoStep, rfl, T.E_NoStep.ox, T.E_NoStep.no _ List.mem_cons_self, .inl ⟨ha, fun dx hd ne => q dx _ (Made.first ha hd ne h0 hr0)⟩⟩
theorem ok_InvalidText_init (T : Txt K mg) : FnOk P w K mg base CX0 1 T.a_InvalidText_init T.d_InvalidText_init P_InvalidText_init (spIni T.C_InvalidText ["line"]) := by
  refine T.F_InvalidText_init.ok sc_InvalidText_init (fun vs H Q E h => by obtain ⟨a, ws, H0, rfl, hl, _⟩ := h; rw [List.length_cons, hl]; rfl) (fun cdv A outer s H vs Q E hr h => ?_)
  refine ⟨_, (pss_one (Xu.ps_put (pv 0) (pv 1))), ?_⟩
  obtain ⟨a, ws, H0, rfl, hl, ha, h0, hr0, q⟩ := h
  obtain ⟨y0, rfl⟩ : ∃ y0, ws = [y0] := one_of_len hl
  exact ⟨_, rfl, _, rfl, a, T.C_InvalidText, rfl, T.E_InvalidText.ox, T.E_InvalidText.no _ List.mem_cons_self, .inl ⟨ha, fun dx hd ne => q dx _ (Made.first ha hd ne h0 hr0)⟩⟩
theorem ok_InvalidCommand_init (T : Txt K mg) : FnOk P w K mg base CX0 1 T.a_InvalidCommand_init T.d_InvalidCommand_init P_InvalidCommand_init (spIni T.C_InvalidCommand ["line"]) := by
  refine T.F_InvalidCommand_init.ok sc_InvalidCommand_init (fun vs H Q E h => by obtain ⟨a, ws, H0, rfl, hl, _⟩ := h; rw [List.length_cons, hl]; rfl) (fun cdv A outer s H vs Q E hr h => ?_)
  refine ⟨_, (pss_one (Xu.ps_put (pv 0) (pv 1))), ?_⟩
  obtain ⟨a, ws, H0, rfl, hl, ha, h0, hr0, q⟩ := h
  obtain ⟨y0, rfl⟩ : ∃ y0, ws = [y0] := one_of_len hl
  exact ⟨_, rfl, _, rfl, a, T.C_InvalidCommand, rfl, T.E_InvalidCommand.ox, T.E_InvalidCommand.no _ List.mem_cons_self, .inl ⟨ha, fun dx hd ne => q dx _ (Made.first ha hd ne h0 hr0)⟩⟩
/-! ### made by place, by name -/
def sp_place (T : Txt K mg) : Sp := fun vs H Q _ => ∃ (i : Nat) (u v : V), vs = [.int i, u, v] ∧ i < 17 ∧ ∀ (H' : Hp) (a : Addr), Same H H' → H a = none → EX T H' a i u v → Q (.ref a) H'
theorem ok_by_place (T : Txt K mg) : FnOk P w K mg base CX0 3 T.a_by_place T.d_by_place P_by_place (sp_place T) := by
  refine T.F_by_place.ok sc_by_place (fun vs H Q E h => by obtain ⟨i, u, v, rfl, _⟩ := h; rfl) (fun cdv A outer s H vs Q E hr h => ?_)
  refine ⟨_, (pss_cons (ps_if (pt_cmpR op_lt (pv 0) pe_int (nomark _)) (pss_one (ps_ret (pe_ix ix_list (pe_lst (pa_cons (Xw.pe_mkE T.E_BadStore.ox T.iC_BadStore T.tI_BadStore (ok_BadStore_init T) (hr.mono (by decide)) T.b_BadStore_init rfl pass0 rfl T.g_BadStore (pa_cons (pv 1) pa_nil)) (pa_cons (Xw.pe_mkE T.E_BadProgram.ox T.iC_BadProgram T.tI_BadProgram (ok_BadProgram_init T) (hr.mono (by decide)) T.b_BadProgram_init rfl pass0 rfl T.g_BadProgram (pa_cons (pv 1) pa_nil)) (pa_cons (Xw.pe_mkE T.E_BadDefinition.ox T.iC_BadDefinition T.tI_BadDefinition (ok_BadDefinition_init T) (hr.mono (by decide)) T.b_BadDefinition_init rfl pass0 rfl T.g_BadDefinition (pa_cons (pv 1) pa_nil)) (pa_cons (Xw.pe_mkE T.E_BadTerm.ox T.iC_BadTerm T.tI_BadTerm (ok_BadTerm_init T) (hr.mono (by decide)) T.b_BadTerm_init rfl pass0 rfl T.g_BadTerm (pa_cons (pv 1) pa_nil)) pa_nil))))) (pv 0) (fun _ _ => rfl)))) pss_nil)
    (pss_cons (ps_if (pt_cmpR op_lt (pv 0) pe_int (nomark _)) (pss_one (ps_ret (pe_ix ix_list (pe_lst (pa_cons (Xw.pe_mkE T.E_NoDefinition.ox T.iC_NoDefinition T.tI_NoDefinition (ok_NoDefinition_init T) (hr.mono (by decide)) T.b_NoDefinition_init rfl pass0 rfl T.g_NoDefinition (pa_cons (pv 1) pa_nil)) (pa_cons (Xw.pe_mkE T.E_InUse.ox T.iC_InUse T.tI_InUse (ok_InUse_init T) (hr.mono (by decide)) T.b_InUse_init rfl pass0 rfl T.g_InUse (pa_cons (pv 1) (pa_cons (pv 2) pa_nil))) (pa_cons (Xw.pe_mkE T.E_TooMany.ox T.iC_TooMany T.tI_TooMany (ok_TooMany_init T) (hr.mono (by decide)) T.b_TooMany_init rfl pass0 rfl T.g_TooMany (pa_cons (pv 1) pa_nil)) (pa_cons (Xw.pe_mk0 T.q_CanGoWrong T.E_CanGoWrong.ox.kC rfl T.g_CanGoWrong) (pa_cons (Xw.pe_mk0 T.q_IsSafe T.E_IsSafe.ox.kC rfl T.g_IsSafe) pa_nil)))))) (pe_op op_sub (pv 0) pe_int) (fun _ _ => rfl)))) pss_nil)
    (pss_cons (ps_if (pt_cmpR op_lt (pv 0) pe_int (nomark _)) (pss_one (ps_ret (pe_ix ix_list (pe_lst (pa_cons (Xw.pe_mkE T.E_TooLong.ox T.iC_TooLong T.tI_TooLong (ok_TooLong_init T) (hr.mono (by decide)) T.b_TooLong_init rfl pass0 rfl T.g_TooLong (pa_cons (pv 1) pa_nil)) (pa_cons (Xw.pe_mk0 T.q_NotComparable T.E_NotComparable.ox.kC rfl T.g_NotComparable) (pa_cons (Xw.pe_mk0 T.q_IsWithin T.E_IsWithin.ox.kC rfl T.g_IsWithin) (pa_cons (Xw.pe_mkE T.E_NotPossible.ox T.iC_NotPossible T.tI_NotPossible (ok_NotPossible_init T) (hr.mono (by decide)) T.b_NotPossible_init rfl pass0 rfl T.g_NotPossible (pa_cons (pv 1) pa_nil)) pa_nil))))) (pe_op op_sub (pv 0) pe_int) (fun _ _ => rfl)))) pss_nil)
    (pss_one (ps_ret (pe_ix ix_list (pe_lst (pa_cons (Xw.pe_mkE T.E_NoStep.ox T.iC_NoStep T.tI_NoStep (ok_NoStep_init T) (hr.mono (by decide)) T.b_NoStep_init rfl pass0 rfl T.g_NoStep (pa_cons (pv 1) pa_nil)) (pa_cons (Xw.pe_mkE T.E_InvalidText.ox T.iC_InvalidText T.tI_InvalidText (ok_InvalidText_init T) (hr.mono (by decide)) T.b_InvalidText_init rfl pass0 rfl T.g_InvalidText (pa_cons (pv 1) pa_nil)) (pa_cons (Xw.pe_mkE T.E_InvalidCommand.ox T.iC_InvalidCommand T.tI_InvalidCommand (ok_InvalidCommand_init T) (hr.mono (by decide)) T.b_InvalidCommand_init rfl pass0 rfl T.g_InvalidCommand (pa_cons (pv 1) pa_nil)) (pa_cons (Xw.pe_mk0 T.q_NoProgram T.E_NoProgram.ox.kC rfl T.g_NoProgram) pa_nil))))) (pe_op op_sub (pv 0) pe_int) (fun _ _ => rfl))))))), ?_⟩
  obtain ⟨i, u, v, rfl, hi, q⟩ := h
  match i, hi, q with
  | 0, _, q =>
    refine ⟨_, rfl, _, _, rfl, rfl, _, rfl, ?_⟩
    refine ⟨_, rfl, rfl, fun a0 d0 H0 m0 => ?_⟩
    refine ⟨_, rfl, rfl, fun a1 d1 H1 m1 => ?_⟩
    refine ⟨_, rfl, rfl, fun a2 d2 H2 m2 => ?_⟩
    refine ⟨_, rfl, rfl, fun a3 d3 H3 m3 => ?_⟩
    refine ⟨by show 4 ≤ sizeLine; decide, fun p hp => ?_⟩
    refine ⟨_, rfl, ?_⟩
    refine ⟨p, _, _, _, rfl, rfl, SqL.of upd_same, rfl, ?_⟩
    exact q _ a0 (Same.trans (Same.trans (Same.trans (Same.trans m0.same m1.same) m2.same) m3.same) (same_new hp)) (Same.free (Same.refl _) m0.na) ⟨d0, (Same.trans (Same.trans (Same.trans m1.same m2.same) m3.same) (same_new hp)) _ _ m0.at_, (Same.trans (Same.trans (Same.trans m1.same m2.same) m3.same) (same_new hp)) _ _ m0.dict⟩
  | 1, _, q =>
    refine ⟨_, rfl, _, _, rfl, rfl, _, rfl, ?_⟩
    refine ⟨_, rfl, rfl, fun a0 d0 H0 m0 => ?_⟩
    refine ⟨_, rfl, rfl, fun a1 d1 H1 m1 => ?_⟩
    refine ⟨_, rfl, rfl, fun a2 d2 H2 m2 => ?_⟩
    refine ⟨_, rfl, rfl, fun a3 d3 H3 m3 => ?_⟩
    refine ⟨by show 4 ≤ sizeLine; decide, fun p hp => ?_⟩
    refine ⟨_, rfl, ?_⟩
    refine ⟨p, _, _, _, rfl, rfl, SqL.of upd_same, rfl, ?_⟩
    exact q _ a1 (Same.trans (Same.trans (Same.trans (Same.trans m0.same m1.same) m2.same) m3.same) (same_new hp)) (Same.free m0.same m1.na) ⟨d1, (Same.trans (Same.trans m2.same m3.same) (same_new hp)) _ _ m1.at_, (Same.trans (Same.trans m2.same m3.same) (same_new hp)) _ _ m1.dict⟩
  | 2, _, q =>
    refine ⟨_, rfl, _, _, rfl, rfl, _, rfl, ?_⟩
    refine ⟨_, rfl, rfl, fun a0 d0 H0 m0 => ?_⟩
    refine ⟨_, rfl, rfl, fun a1 d1 H1 m1 => ?_⟩
    refine ⟨_, rfl, rfl, fun a2 d2 H2 m2 => ?_⟩
    refine ⟨_, rfl, rfl, fun a3 d3 H3 m3 => ?_⟩
    refine ⟨by show 4 ≤ sizeLine; decide, fun p hp => ?_⟩
    refine ⟨_, rfl, ?_⟩
    refine ⟨p, _, _, _, rfl, rfl, SqL.of upd_same, rfl, ?_⟩
    exact q _ a2 (Same.trans (Same.trans (Same.trans (Same.trans m0.same m1.same) m2.same) m3.same) (same_new hp)) (Same.free (Same.trans m0.same m1.same) m2.na) ⟨d2, (Same.trans m3.same (same_new hp)) _ _ m2.at_, (Same.trans m3.same (same_new hp)) _ _ m2.dict⟩
  | 3, _, q =>
    refine ⟨_, rfl, _, _, rfl, rfl, _, rfl, ?_⟩
    refine ⟨_, rfl, rfl, fun a0 d0 H0 m0 => ?_⟩
    refine ⟨_, rfl, rfl, fun a1 d1 H1 m1 => ?_⟩
    refine ⟨_, rfl, rfl, fun a2 d2 H2 m2 => ?_⟩
    refine ⟨_, rfl, rfl, fun a3 d3 H3 m3 => ?_⟩
    refine ⟨by show 4 ≤ sizeLine; decide, fun p hp => ?_⟩
    refine ⟨_, rfl, ?_⟩
    refine ⟨p, _, _, _, rfl, rfl, SqL.of upd_same, rfl, ?_⟩
    exact q _ a3 (Same.trans (Same.trans (Same.trans (Same.trans m0.same m1.same) m2.same) m3.same) (same_new hp)) (Same.free (Same.trans (Same.trans m0.same m1.same) m2.same) m3.na) ⟨d3, (same_new hp) _ _ m3.at_, (same_new hp) _ _ m3.dict⟩
  | 4, _, q =>
    refine ⟨_, rfl, _, _, rfl, rfl, _, rfl, ?_⟩
    refine ⟨_, rfl, _, _, rfl, rfl, _, rfl, ?_⟩
    refine ⟨_, rfl, rfl, fun a4 d4 H4 m4 => ?_⟩
    refine ⟨_, rfl, _, rfl, rfl, fun a5 d5 H5 m5 => ?_⟩
    refine ⟨_, rfl, rfl, fun a6 d6 H6 m6 => ?_⟩
    refine fun a7 n7 => ?_
    refine fun a8 n8 => ?_
    refine ⟨by show 5 ≤ sizeLine; decide, fun p hp => ?_⟩
    refine ⟨_, rfl, _, _, rfl, rfl, ?_⟩
    refine ⟨p, _, _, _, rfl, rfl, SqL.of upd_same, rfl, ?_⟩
    exact q _ a4 (Same.trans (Same.trans (Same.trans (Same.trans (Same.trans m4.same m5.same) m6.same) (same_new n7)) (same_new n8)) (same_new hp)) (Same.free (Same.refl _) m4.na) ⟨d4, (Same.trans (Same.trans (Same.trans (Same.trans m5.same m6.same) (same_new n7)) (same_new n8)) (same_new hp)) _ _ m4.at_, (Same.trans (Same.trans (Same.trans (Same.trans m5.same m6.same) (same_new n7)) (same_new n8)) (same_new hp)) _ _ m4.dict⟩
  | 5, _, q =>
    refine ⟨_, rfl, _, _, rfl, rfl, _, rfl, ?_⟩
    refine ⟨_, rfl, _, _, rfl, rfl, _, rfl, ?_⟩
    refine ⟨_, rfl, rfl, fun a4 d4 H4 m4 => ?_⟩
    refine ⟨_, rfl, _, rfl, rfl, fun a5 d5 H5 m5 => ?_⟩
    refine ⟨_, rfl, rfl, fun a6 d6 H6 m6 => ?_⟩
    refine fun a7 n7 => ?_
    refine fun a8 n8 => ?_
    refine ⟨by show 5 ≤ sizeLine; decide, fun p hp => ?_⟩
    refine ⟨_, rfl, _, _, rfl, rfl, ?_⟩
    refine ⟨p, _, _, _, rfl, rfl, SqL.of upd_same, rfl, ?_⟩
    exact q _ a5 (Same.trans (Same.trans (Same.trans (Same.trans (Same.trans m4.same m5.same) m6.same) (same_new n7)) (same_new n8)) (same_new hp)) (Same.free m4.same m5.na) ⟨d5, (Same.trans (Same.trans (Same.trans m6.same (same_new n7)) (same_new n8)) (same_new hp)) _ _ m5.at_, (Same.trans (Same.trans (Same.trans m6.same (same_new n7)) (same_new n8)) (same_new hp)) _ _ m5.dict⟩
  | 6, _, q =>
    refine ⟨_, rfl, _, _, rfl, rfl, _, rfl, ?_⟩
    refine ⟨_, rfl, _, _, rfl, rfl, _, rfl, ?_⟩
    refine ⟨_, rfl, rfl, fun a4 d4 H4 m4 => ?_⟩
    refine ⟨_, rfl, _, rfl, rfl, fun a5 d5 H5 m5 => ?_⟩
    refine ⟨_, rfl, rfl, fun a6 d6 H6 m6 => ?_⟩
    refine fun a7 n7 => ?_
    refine fun a8 n8 => ?_
    refine ⟨by show 5 ≤ sizeLine; decide, fun p hp => ?_⟩
    refine ⟨_, rfl, _, _, rfl, rfl, ?_⟩
    refine ⟨p, _, _, _, rfl, rfl, SqL.of upd_same, rfl, ?_⟩
    exact q _ a6 (Same.trans (Same.trans (Same.trans (Same.trans (Same.trans m4.same m5.same) m6.same) (same_new n7)) (same_new n8)) (same_new hp)) (Same.free (Same.trans m4.same m5.same) m6.na) ⟨d6, (Same.trans (Same.trans (same_new n7) (same_new n8)) (same_new hp)) _ _ m6.at_, (Same.trans (Same.trans (same_new n7) (same_new n8)) (same_new hp)) _ _ m6.dict⟩
  | 7, _, q =>
    refine ⟨_, rfl, _, _, rfl, rfl, _, rfl, ?_⟩
    refine ⟨_, rfl, _, _, rfl, rfl, _, rfl, ?_⟩
    refine ⟨_, rfl, rfl, fun a4 d4 H4 m4 => ?_⟩
    refine ⟨_, rfl, _, rfl, rfl, fun a5 d5 H5 m5 => ?_⟩
    refine ⟨_, rfl, rfl, fun a6 d6 H6 m6 => ?_⟩
    refine fun a7 n7 => ?_
    refine fun a8 n8 => ?_
    refine ⟨by show 5 ≤ sizeLine; decide, fun p hp => ?_⟩
    refine ⟨_, rfl, _, _, rfl, rfl, ?_⟩
    refine ⟨p, _, _, _, rfl, rfl, SqL.of upd_same, rfl, ?_⟩
    exact q _ a7 (Same.trans (Same.trans (Same.trans (Same.trans (Same.trans m4.same m5.same) m6.same) (same_new n7)) (same_new n8)) (same_new hp)) (Same.free (Same.trans (Same.trans m4.same m5.same) m6.same) n7) ((Same.trans (same_new n8) (same_new hp)) _ _ upd_same)
  | 8, _, q =>
    refine ⟨_, rfl, _, _, rfl, rfl, _, rfl, ?_⟩
    refine ⟨_, rfl, _, _, rfl, rfl, _, rfl, ?_⟩
    refine ⟨_, rfl, rfl, fun a4 d4 H4 m4 => ?_⟩
    refine ⟨_, rfl, _, rfl, rfl, fun a5 d5 H5 m5 => ?_⟩
    refine ⟨_, rfl, rfl, fun a6 d6 H6 m6 => ?_⟩
    refine fun a7 n7 => ?_
    refine fun a8 n8 => ?_
    refine ⟨by show 5 ≤ sizeLine; decide, fun p hp => ?_⟩
    refine ⟨_, rfl, _, _, rfl, rfl, ?_⟩
    refine ⟨p, _, _, _, rfl, rfl, SqL.of upd_same, rfl, ?_⟩
    exact q _ a8 (Same.trans (Same.trans (Same.trans (Same.trans (Same.trans m4.same m5.same) m6.same) (same_new n7)) (same_new n8)) (same_new hp)) (Same.free (Same.trans (Same.trans (Same.trans m4.same m5.same) m6.same) (same_new n7)) n8) ((same_new hp) _ _ upd_same)
  | 9, _, q =>
    refine ⟨_, rfl, _, _, rfl, rfl, _, rfl, ?_⟩
    refine ⟨_, rfl, _, _, rfl, rfl, _, rfl, ?_⟩
    refine ⟨_, rfl, _, _, rfl, rfl, _, rfl, ?_⟩
    refine ⟨_, rfl, rfl, fun a9 d9 H9 m9 => ?_⟩
    refine fun a10 n10 => ?_
    refine fun a11 n11 => ?_
    refine ⟨_, rfl, rfl, fun a12 d12 H12 m12 => ?_⟩
    refine ⟨by show 4 ≤ sizeLine; decide, fun p hp => ?_⟩
    refine ⟨_, rfl, _, _, rfl, rfl, ?_⟩
    refine ⟨p, _, _, _, rfl, rfl, SqL.of upd_same, rfl, ?_⟩
    exact q _ a9 (Same.trans (Same.trans (Same.trans (Same.trans m9.same (same_new n10)) (same_new n11)) m12.same) (same_new hp)) (Same.free (Same.refl _) m9.na) ⟨d9, (Same.trans (Same.trans (Same.trans (same_new n10) (same_new n11)) m12.same) (same_new hp)) _ _ m9.at_, (Same.trans (Same.trans (Same.trans (same_new n10) (same_new n11)) m12.same) (same_new hp)) _ _ m9.dict⟩
  | 10, _, q =>
    refine ⟨_, rfl, _, _, rfl, rfl, _, rfl, ?_⟩
    refine ⟨_, rfl, _, _, rfl, rfl, _, rfl, ?_⟩
    refine ⟨_, rfl, _, _, rfl, rfl, _, rfl, ?_⟩
    refine ⟨_, rfl, rfl, fun a9 d9 H9 m9 => ?_⟩
    refine fun a10 n10 => ?_
    refine fun a11 n11 => ?_
    refine ⟨_, rfl, rfl, fun a12 d12 H12 m12 => ?_⟩
    refine ⟨by show 4 ≤ sizeLine; decide, fun p hp => ?_⟩
    refine ⟨_, rfl, _, _, rfl, rfl, ?_⟩
    refine ⟨p, _, _, _, rfl, rfl, SqL.of upd_same, rfl, ?_⟩
    exact q _ a10 (Same.trans (Same.trans (Same.trans (Same.trans m9.same (same_new n10)) (same_new n11)) m12.same) (same_new hp)) (Same.free m9.same n10) ((Same.trans (Same.trans (same_new n11) m12.same) (same_new hp)) _ _ upd_same)
  | 11, _, q =>
    refine ⟨_, rfl, _, _, rfl, rfl, _, rfl, ?_⟩
    refine ⟨_, rfl, _, _, rfl, rfl, _, rfl, ?_⟩
    refine ⟨_, rfl, _, _, rfl, rfl, _, rfl, ?_⟩
    refine ⟨_, rfl, rfl, fun a9 d9 H9 m9 => ?_⟩
    refine fun a10 n10 => ?_
    refine fun a11 n11 => ?_
    refine ⟨_, rfl, rfl, fun a12 d12 H12 m12 => ?_⟩
    refine ⟨by show 4 ≤ sizeLine; decide, fun p hp => ?_⟩
    refine ⟨_, rfl, _, _, rfl, rfl, ?_⟩
    refine ⟨p, _, _, _, rfl, rfl, SqL.of upd_same, rfl, ?_⟩
    exact q _ a11 (Same.trans (Same.trans (Same.trans (Same.trans m9.same (same_new n10)) (same_new n11)) m12.same) (same_new hp)) (Same.free (Same.trans m9.same (same_new n10)) n11) ((Same.trans m12.same (same_new hp)) _ _ upd_same)
  | 12, _, q =>
    refine ⟨_, rfl, _, _, rfl, rfl, _, rfl, ?_⟩
    refine ⟨_, rfl, _, _, rfl, rfl, _, rfl, ?_⟩
    refine ⟨_, rfl, _, _, rfl, rfl, _, rfl, ?_⟩
    refine ⟨_, rfl, rfl, fun a9 d9 H9 m9 => ?_⟩
    refine fun a10 n10 => ?_
    refine fun a11 n11 => ?_
    refine ⟨_, rfl, rfl, fun a12 d12 H12 m12 => ?_⟩
    refine ⟨by show 4 ≤ sizeLine; decide, fun p hp => ?_⟩
    refine ⟨_, rfl, _, _, rfl, rfl, ?_⟩
    refine ⟨p, _, _, _, rfl, rfl, SqL.of upd_same, rfl, ?_⟩
    exact q _ a12 (Same.trans (Same.trans (Same.trans (Same.trans m9.same (same_new n10)) (same_new n11)) m12.same) (same_new hp)) (Same.free (Same.trans (Same.trans m9.same (same_new n10)) (same_new n11)) m12.na) ⟨d12, (same_new hp) _ _ m12.at_, (same_new hp) _ _ m12.dict⟩
  | 13, _, q =>
    refine ⟨_, rfl, _, _, rfl, rfl, _, rfl, ?_⟩
    refine ⟨_, rfl, _, _, rfl, rfl, _, rfl, ?_⟩
    refine ⟨_, rfl, _, _, rfl, rfl, _, rfl, ?_⟩
    refine ⟨_, rfl, rfl, fun a13 d13 H13 m13 => ?_⟩
    refine ⟨_, rfl, rfl, fun a14 d14 H14 m14 => ?_⟩
    refine ⟨_, rfl, rfl, fun a15 d15 H15 m15 => ?_⟩
    refine fun a16 n16 => ?_
    refine ⟨by show 4 ≤ sizeLine; decide, fun p hp => ?_⟩
    refine ⟨_, rfl, _, _, rfl, rfl, ?_⟩
    refine ⟨p, _, _, _, rfl, rfl, SqL.of upd_same, rfl, ?_⟩
    exact q _ a13 (Same.trans (Same.trans (Same.trans (Same.trans m13.same m14.same) m15.same) (same_new n16)) (same_new hp)) (Same.free (Same.refl _) m13.na) ⟨d13, (Same.trans (Same.trans (Same.trans m14.same m15.same) (same_new n16)) (same_new hp)) _ _ m13.at_, (Same.trans (Same.trans (Same.trans m14.same m15.same) (same_new n16)) (same_new hp)) _ _ m13.dict⟩
  | 14, _, q =>
    refine ⟨_, rfl, _, _, rfl, rfl, _, rfl, ?_⟩
    refine ⟨_, rfl, _, _, rfl, rfl, _, rfl, ?_⟩
    refine ⟨_, rfl, _, _, rfl, rfl, _, rfl, ?_⟩
    refine ⟨_, rfl, rfl, fun a13 d13 H13 m13 => ?_⟩
    refine ⟨_, rfl, rfl, fun a14 d14 H14 m14 => ?_⟩
    refine ⟨_, rfl, rfl, fun a15 d15 H15 m15 => ?_⟩
    refine fun a16 n16 => ?_
    refine ⟨by show 4 ≤ sizeLine; decide, fun p hp => ?_⟩
    refine ⟨_, rfl, _, _, rfl, rfl, ?_⟩
    refine ⟨p, _, _, _, rfl, rfl, SqL.of upd_same, rfl, ?_⟩
    exact q _ a14 (Same.trans (Same.trans (Same.trans (Same.trans m13.same m14.same) m15.same) (same_new n16)) (same_new hp)) (Same.free m13.same m14.na) ⟨d14, (Same.trans (Same.trans m15.same (same_new n16)) (same_new hp)) _ _ m14.at_, (Same.trans (Same.trans m15.same (same_new n16)) (same_new hp)) _ _ m14.dict⟩
  | 15, _, q =>
    refine ⟨_, rfl, _, _, rfl, rfl, _, rfl, ?_⟩
    refine ⟨_, rfl, _, _, rfl, rfl, _, rfl, ?_⟩
    refine ⟨_, rfl, _, _, rfl, rfl, _, rfl, ?_⟩
    refine ⟨_, rfl, rfl, fun a13 d13 H13 m13 => ?_⟩
    refine ⟨_, rfl, rfl, fun a14 d14 H14 m14 => ?_⟩
    refine ⟨_, rfl, rfl, fun a15 d15 H15 m15 => ?_⟩
    refine fun a16 n16 => ?_
    refine ⟨by show 4 ≤ sizeLine; decide, fun p hp => ?_⟩
    refine ⟨_, rfl, _, _, rfl, rfl, ?_⟩
    refine ⟨p, _, _, _, rfl, rfl, SqL.of upd_same, rfl, ?_⟩
    exact q _ a15 (Same.trans (Same.trans (Same.trans (Same.trans m13.same m14.same) m15.same) (same_new n16)) (same_new hp)) (Same.free (Same.trans m13.same m14.same) m15.na) ⟨d15, (Same.trans (same_new n16) (same_new hp)) _ _ m15.at_, (Same.trans (same_new n16) (same_new hp)) _ _ m15.dict⟩
  | 16, _, q =>
    refine ⟨_, rfl, _, _, rfl, rfl, _, rfl, ?_⟩
    refine ⟨_, rfl, _, _, rfl, rfl, _, rfl, ?_⟩
    refine ⟨_, rfl, _, _, rfl, rfl, _, rfl, ?_⟩
    refine ⟨_, rfl, rfl, fun a13 d13 H13 m13 => ?_⟩
    refine ⟨_, rfl, rfl, fun a14 d14 H14 m14 => ?_⟩
    refine ⟨_, rfl, rfl, fun a15 d15 H15 m15 => ?_⟩
    refine fun a16 n16 => ?_
    refine ⟨by show 4 ≤ sizeLine; decide, fun p hp => ?_⟩
    refine ⟨_, rfl, _, _, rfl, rfl, ?_⟩
    refine ⟨p, _, _, _, rfl, rfl, SqL.of upd_same, rfl, ?_⟩
    exact q _ a16 (Same.trans (Same.trans (Same.trans (Same.trans m13.same m14.same) m15.same) (same_new n16)) (same_new hp)) (Same.free (Same.trans (Same.trans m13.same m14.same) m15.same) n16) ((same_new hp) _ _ upd_same)
  | _ + 17, hi, _ => exact absurd hi (by omega)
theorem ok_by_name (T : Txt K mg) : FnOk P w K mg base CX0 3 T.a_by_name T.d_by_name P_by_name (sp_place T) := by
  refine T.F_by_name.ok sc_by_name (fun vs H Q E h => by obtain ⟨i, u, v, rfl, _⟩ := h; rfl) (fun cdv A outer s H vs Q E hr h => ?_)
  refine ⟨_, (pss_cons (ps_if (pt_cmpR op_lt (pv 0) pe_int (nomark _)) (pss_one (ps_ret (pe_ix ix_list (pe_lst (pa_cons (Xw.pe_mkEK T.E_BadStore.ox T.iC_BadStore T.tI_BadStore (ok_BadStore_init T) (hr.mono (by decide)) T.kbe_BadStore_part rfl pass0 rfl T.g_BadStore (pk_cons (pv 1) pk_nil)) (pa_cons (Xw.pe_mkEK T.E_BadProgram.ox T.iC_BadProgram T.tI_BadProgram (ok_BadProgram_init T) (hr.mono (by decide)) T.kbe_BadProgram_part rfl pass0 rfl T.g_BadProgram (pk_cons (pv 1) pk_nil)) (pa_cons (Xw.pe_mkEK T.E_BadDefinition.ox T.iC_BadDefinition T.tI_BadDefinition (ok_BadDefinition_init T) (hr.mono (by decide)) T.kbe_BadDefinition_name rfl pass0 rfl T.g_BadDefinition (pk_cons (pv 1) pk_nil)) (pa_cons (Xw.pe_mkEK T.E_BadTerm.ox T.iC_BadTerm T.tI_BadTerm (ok_BadTerm_init T) (hr.mono (by decide)) T.kbe_BadTerm_thing rfl pass0 rfl T.g_BadTerm (pk_cons (pv 1) pk_nil)) pa_nil))))) (pv 0) (fun _ _ => rfl)))) pss_nil)
    (pss_cons (ps_if (pt_cmpR op_lt (pv 0) pe_int (nomark _)) (pss_cons (ps_set (i := 3) sc_by_name.nd rfl (Or.inl rfl) (pe_lst (pa_cons (Xw.pe_mkEK T.E_NoDefinition.ox T.iC_NoDefinition T.tI_NoDefinition (ok_NoDefinition_init T) (hr.mono (by decide)) T.kbe_NoDefinition_name rfl pass0 rfl T.g_NoDefinition (pk_cons (pv 1) pk_nil)) (pa_cons (Xw.pe_mkEK T.E_InUse.ox T.iC_InUse T.tI_InUse (ok_InUse_init T) (hr.mono (by decide)) T.kbe_InUse_by_name rfl pass0 rfl T.g_InUse (pk_cons (pv 2) (pk_cons (pv 1) pk_nil))) (pa_cons (Xw.pe_mkEK T.E_TooMany.ox T.iC_TooMany T.tI_TooMany (ok_TooMany_init T) (hr.mono (by decide)) T.kbe_TooMany_most rfl pass0 rfl T.g_TooMany (pk_cons (pv 1) pk_nil)) (pa_cons (Xw.pe_mk0 T.q_CanGoWrong T.E_CanGoWrong.ox.kC rfl T.g_CanGoWrong) (pa_cons (Xw.pe_mk0 T.q_IsSafe T.E_IsSafe.ox.kC rfl T.g_IsSafe) pa_nil)))))))
    (pss_one (ps_ret (pe_ix ix_list (pv 3) (pe_op op_sub (pv 0) pe_int) (fun _ _ => rfl))))) pss_nil)
    (pss_cons (ps_if (pt_cmpR op_lt (pv 0) pe_int (nomark _)) (pss_one (ps_ret (pe_ix ix_list (pe_lst (pa_cons (Xw.pe_mkEK T.E_TooLong.ox T.iC_TooLong T.tI_TooLong (ok_TooLong_init T) (hr.mono (by decide)) T.kbe_TooLong_length rfl pass0 rfl T.g_TooLong (pk_cons (pv 1) pk_nil)) (pa_cons (Xw.pe_mk0 T.q_NotComparable T.E_NotComparable.ox.kC rfl T.g_NotComparable) (pa_cons (Xw.pe_mk0 T.q_IsWithin T.E_IsWithin.ox.kC rfl T.g_IsWithin) (pa_cons (Xw.pe_mkEK T.E_NotPossible.ox T.iC_NotPossible T.tI_NotPossible (ok_NotPossible_init T) (hr.mono (by decide)) T.kbe_NotPossible_entry rfl pass0 rfl T.g_NotPossible (pk_cons (pv 1) pk_nil)) pa_nil))))) (pe_op op_sub (pv 0) pe_int) (fun _ _ => rfl)))) pss_nil)
    (pss_one (ps_ret (pe_ix ix_list (pe_lst (pa_cons (Xw.pe_mkEK T.E_NoStep.ox T.iC_NoStep T.tI_NoStep (ok_NoStep_init T) (hr.mono (by decide)) T.kbe_NoStep_choice rfl pass0 rfl T.g_NoStep (pk_cons (pv 1) pk_nil)) (pa_cons (Xw.pe_mkEK T.E_InvalidText.ox T.iC_InvalidText T.tI_InvalidText (ok_InvalidText_init T) (hr.mono (by decide)) T.kbe_InvalidText_line rfl pass0 rfl T.g_InvalidText (pk_cons (pv 1) pk_nil)) (pa_cons (Xw.pe_mkEK T.E_InvalidCommand.ox T.iC_InvalidCommand T.tI_InvalidCommand (ok_InvalidCommand_init T) (hr.mono (by decide)) T.kbe_InvalidCommand_line rfl pass0 rfl T.g_InvalidCommand (pk_cons (pv 1) pk_nil)) (pa_cons (Xw.pe_mk0 T.q_NoProgram T.E_NoProgram.ox.kC rfl T.g_NoProgram) pa_nil))))) (pe_op op_sub (pv 0) pe_int) (fun _ _ => rfl))))))), ?_⟩
  obtain ⟨i, u, v, rfl, hi, q⟩ := h
  match i, hi, q with
  | 0, _, q =>
    refine ⟨_, rfl, _, _, rfl, rfl, _, rfl, ?_⟩
    refine ⟨_, rfl, rfl, fun a0 d0 H0 m0 => ?_⟩
    refine ⟨_, rfl, rfl, fun a1 d1 H1 m1 => ?_⟩
    refine ⟨_, rfl, rfl, fun a2 d2 H2 m2 => ?_⟩
    refine ⟨_, rfl, rfl, fun a3 d3 H3 m3 => ?_⟩
    refine ⟨by show 4 ≤ sizeLine; decide, fun p hp => ?_⟩
    refine ⟨_, rfl, ?_⟩
    refine ⟨p, _, _, _, rfl, rfl, SqL.of upd_same, rfl, ?_⟩
    exact q _ a0 (Same.trans (Same.trans (Same.trans (Same.trans m0.same m1.same) m2.same) m3.same) (same_new hp)) (Same.free (Same.refl _) m0.na) ⟨d0, (Same.trans (Same.trans (Same.trans m1.same m2.same) m3.same) (same_new hp)) _ _ m0.at_, (Same.trans (Same.trans (Same.trans m1.same m2.same) m3.same) (same_new hp)) _ _ m0.dict⟩
  | 1, _, q =>
    refine ⟨_, rfl, _, _, rfl, rfl, _, rfl, ?_⟩
    refine ⟨_, rfl, rfl, fun a0 d0 H0 m0 => ?_⟩
    refine ⟨_, rfl, rfl, fun a1 d1 H1 m1 => ?_⟩
    refine ⟨_, rfl, rfl, fun a2 d2 H2 m2 => ?_⟩
    refine ⟨_, rfl, rfl, fun a3 d3 H3 m3 => ?_⟩
    refine ⟨by show 4 ≤ sizeLine; decide, fun p hp => ?_⟩
    refine ⟨_, rfl, ?_⟩
    refine ⟨p, _, _, _, rfl, rfl, SqL.of upd_same, rfl, ?_⟩
    exact q _ a1 (Same.trans (Same.trans (Same.trans (Same.trans m0.same m1.same) m2.same) m3.same) (same_new hp)) (Same.free m0.same m1.na) ⟨d1, (Same.trans (Same.trans m2.same m3.same) (same_new hp)) _ _ m1.at_, (Same.trans (Same.trans m2.same m3.same) (same_new hp)) _ _ m1.dict⟩
  | 2, _, q =>
    refine ⟨_, rfl, _, _, rfl, rfl, _, rfl, ?_⟩
    refine ⟨_, rfl, rfl, fun a0 d0 H0 m0 => ?_⟩
    refine ⟨_, rfl, rfl, fun a1 d1 H1 m1 => ?_⟩
    refine ⟨_, rfl, rfl, fun a2 d2 H2 m2 => ?_⟩
    refine ⟨_, rfl, rfl, fun a3 d3 H3 m3 => ?_⟩
    refine ⟨by show 4 ≤ sizeLine; decide, fun p hp => ?_⟩
    refine ⟨_, rfl, ?_⟩
    refine ⟨p, _, _, _, rfl, rfl, SqL.of upd_same, rfl, ?_⟩
    exact q _ a2 (Same.trans (Same.trans (Same.trans (Same.trans m0.same m1.same) m2.same) m3.same) (same_new hp)) (Same.free (Same.trans m0.same m1.same) m2.na) ⟨d2, (Same.trans m3.same (same_new hp)) _ _ m2.at_, (Same.trans m3.same (same_new hp)) _ _ m2.dict⟩
  | 3, _, q =>
    refine ⟨_, rfl, _, _, rfl, rfl, _, rfl, ?_⟩
    refine ⟨_, rfl, rfl, fun a0 d0 H0 m0 => ?_⟩
    refine ⟨_, rfl, rfl, fun a1 d1 H1 m1 => ?_⟩
    refine ⟨_, rfl, rfl, fun a2 d2 H2 m2 => ?_⟩
    refine ⟨_, rfl, rfl, fun a3 d3 H3 m3 => ?_⟩
    refine ⟨by show 4 ≤ sizeLine; decide, fun p hp => ?_⟩
    refine ⟨_, rfl, ?_⟩
    refine ⟨p, _, _, _, rfl, rfl, SqL.of upd_same, rfl, ?_⟩
    exact q _ a3 (Same.trans (Same.trans (Same.trans (Same.trans m0.same m1.same) m2.same) m3.same) (same_new hp)) (Same.free (Same.trans (Same.trans m0.same m1.same) m2.same) m3.na) ⟨d3, (same_new hp) _ _ m3.at_, (same_new hp) _ _ m3.dict⟩
  | 4, _, q =>
    refine ⟨_, rfl, _, _, rfl, rfl, _, rfl, ?_⟩
    refine ⟨_, rfl, _, _, rfl, rfl, _, rfl, ?_⟩
    refine ⟨_, rfl, rfl, fun a4 d4 H4 m4 => ?_⟩
    refine ⟨_, rfl, _, rfl, rfl, fun a5 d5 H5 m5 => ?_⟩
    refine ⟨_, rfl, rfl, fun a6 d6 H6 m6 => ?_⟩
    refine fun a7 n7 => ?_
    refine fun a8 n8 => ?_
    refine ⟨by show 5 ≤ sizeLine; decide, fun p hp => ?_⟩
    refine ⟨_, rfl, ?_⟩
    refine ⟨_, rfl, _, _, rfl, rfl, ?_⟩
    refine ⟨p, _, _, _, rfl, rfl, SqL.of upd_same, rfl, ?_⟩
    exact q _ a4 (Same.trans (Same.trans (Same.trans (Same.trans (Same.trans m4.same m5.same) m6.same) (same_new n7)) (same_new n8)) (same_new hp)) (Same.free (Same.refl _) m4.na) ⟨d4, (Same.trans (Same.trans (Same.trans (Same.trans m5.same m6.same) (same_new n7)) (same_new n8)) (same_new hp)) _ _ m4.at_, (Same.trans (Same.trans (Same.trans (Same.trans m5.same m6.same) (same_new n7)) (same_new n8)) (same_new hp)) _ _ m4.dict⟩
  | 5, _, q =>
    refine ⟨_, rfl, _, _, rfl, rfl, _, rfl, ?_⟩
    refine ⟨_, rfl, _, _, rfl, rfl, _, rfl, ?_⟩
    refine ⟨_, rfl, rfl, fun a4 d4 H4 m4 => ?_⟩
    refine ⟨_, rfl, _, rfl, rfl, fun a5 d5 H5 m5 => ?_⟩
    refine ⟨_, rfl, rfl, fun a6 d6 H6 m6 => ?_⟩
    refine fun a7 n7 => ?_
    refine fun a8 n8 => ?_
    refine ⟨by show 5 ≤ sizeLine; decide, fun p hp => ?_⟩
    refine ⟨_, rfl, ?_⟩
    refine ⟨_, rfl, _, _, rfl, rfl, ?_⟩
    refine ⟨p, _, _, _, rfl, rfl, SqL.of upd_same, rfl, ?_⟩
    exact q _ a5 (Same.trans (Same.trans (Same.trans (Same.trans (Same.trans m4.same m5.same) m6.same) (same_new n7)) (same_new n8)) (same_new hp)) (Same.free m4.same m5.na) ⟨d5, (Same.trans (Same.trans (Same.trans m6.same (same_new n7)) (same_new n8)) (same_new hp)) _ _ m5.at_, (Same.trans (Same.trans (Same.trans m6.same (same_new n7)) (same_new n8)) (same_new hp)) _ _ m5.dict⟩
  | 6, _, q =>
    refine ⟨_, rfl, _, _, rfl, rfl, _, rfl, ?_⟩
    refine ⟨_, rfl, _, _, rfl, rfl, _, rfl, ?_⟩
    refine ⟨_, rfl, rfl, fun a4 d4 H4 m4 => ?_⟩
    refine ⟨_, rfl, _, rfl, rfl, fun a5 d5 H5 m5 => ?_⟩
    refine ⟨_, rfl, rfl, fun a6 d6 H6 m6 => ?_⟩
    refine fun a7 n7 => ?_
    refine fun a8 n8 => ?_
    refine ⟨by show 5 ≤ sizeLine; decide, fun p hp => ?_⟩
    refine ⟨_, rfl, ?_⟩
    refine ⟨_, rfl, _, _, rfl, rfl, ?_⟩
    refine ⟨p, _, _, _, rfl, rfl, SqL.of upd_same, rfl, ?_⟩
    exact q _ a6 (Same.trans (Same.trans (Same.trans (Same.trans (Same.trans m4.same m5.same) m6.same) (same_new n7)) (same_new n8)) (same_new hp)) (Same.free (Same.trans m4.same m5.same) m6.na) ⟨d6, (Same.trans (Same.trans (same_new n7) (same_new n8)) (same_new hp)) _ _ m6.at_, (Same.trans (Same.trans (same_new n7) (same_new n8)) (same_new hp)) _ _ m6.dict⟩
  | 7, _, q =>
    refine ⟨_, rfl, _, _, rfl, rfl, _, rfl, ?_⟩
    refine ⟨_, rfl, _, _, rfl, rfl, _, rfl, ?_⟩
    refine ⟨_, rfl, rfl, fun a4 d4 H4 m4 => ?_⟩
    refine ⟨_, rfl, _, rfl, rfl, fun a5 d5 H5 m5 => ?_⟩
    refine ⟨_, rfl, rfl, fun a6 d6 H6 m6 => ?_⟩
    refine fun a7 n7 => ?_
    refine fun a8 n8 => ?_
    refine ⟨by show 5 ≤ sizeLine; decide, fun p hp => ?_⟩
    refine ⟨_, rfl, ?_⟩
    refine ⟨_, rfl, _, _, rfl, rfl, ?_⟩
    refine ⟨p, _, _, _, rfl, rfl, SqL.of upd_same, rfl, ?_⟩
    exact q _ a7 (Same.trans (Same.trans (Same.trans (Same.trans (Same.trans m4.same m5.same) m6.same) (same_new n7)) (same_new n8)) (same_new hp)) (Same.free (Same.trans (Same.trans m4.same m5.same) m6.same) n7) ((Same.trans (same_new n8) (same_new hp)) _ _ upd_same)
  | 8, _, q =>
    refine ⟨_, rfl, _, _, rfl, rfl, _, rfl, ?_⟩
    refine ⟨_, rfl, _, _, rfl, rfl, _, rfl, ?_⟩
    refine ⟨_, rfl, rfl, fun a4 d4 H4 m4 => ?_⟩
    refine ⟨_, rfl, _, rfl, rfl, fun a5 d5 H5 m5 => ?_⟩
    refine ⟨_, rfl, rfl, fun a6 d6 H6 m6 => ?_⟩
    refine fun a7 n7 => ?_
    refine fun a8 n8 => ?_
    refine ⟨by show 5 ≤ sizeLine; decide, fun p hp => ?_⟩
    refine ⟨_, rfl, ?_⟩
    refine ⟨_, rfl, _, _, rfl, rfl, ?_⟩
    refine ⟨p, _, _, _, rfl, rfl, SqL.of upd_same, rfl, ?_⟩
    exact q _ a8 (Same.trans (Same.trans (Same.trans (Same.trans (Same.trans m4.same m5.same) m6.same) (same_new n7)) (same_new n8)) (same_new hp)) (Same.free (Same.trans (Same.trans (Same.trans m4.same m5.same) m6.same) (same_new n7)) n8) ((same_new hp) _ _ upd_same)
  | 9, _, q =>
    refine ⟨_, rfl, _, _, rfl, rfl, _, rfl, ?_⟩
    refine ⟨_, rfl, _, _, rfl, rfl, _, rfl, ?_⟩
    refine ⟨_, rfl, _, _, rfl, rfl, _, rfl, ?_⟩
    refine ⟨_, rfl, rfl, fun a9 d9 H9 m9 => ?_⟩
    refine fun a10 n10 => ?_
    refine fun a11 n11 => ?_
    refine ⟨_, rfl, rfl, fun a12 d12 H12 m12 => ?_⟩
    refine ⟨by show 4 ≤ sizeLine; decide, fun p hp => ?_⟩
    refine ⟨_, rfl, _, _, rfl, rfl, ?_⟩
    refine ⟨p, _, _, _, rfl, rfl, SqL.of upd_same, rfl, ?_⟩
    exact q _ a9 (Same.trans (Same.trans (Same.trans (Same.trans m9.same (same_new n10)) (same_new n11)) m12.same) (same_new hp)) (Same.free (Same.refl _) m9.na) ⟨d9, (Same.trans (Same.trans (Same.trans (same_new n10) (same_new n11)) m12.same) (same_new hp)) _ _ m9.at_, (Same.trans (Same.trans (Same.trans (same_new n10) (same_new n11)) m12.same) (same_new hp)) _ _ m9.dict⟩
  | 10, _, q =>
    refine ⟨_, rfl, _, _, rfl, rfl, _, rfl, ?_⟩
    refine ⟨_, rfl, _, _, rfl, rfl, _, rfl, ?_⟩
    refine ⟨_, rfl, _, _, rfl, rfl, _, rfl, ?_⟩
    refine ⟨_, rfl, rfl, fun a9 d9 H9 m9 => ?_⟩
    refine fun a10 n10 => ?_
    refine fun a11 n11 => ?_
    refine ⟨_, rfl, rfl, fun a12 d12 H12 m12 => ?_⟩
    refine ⟨by show 4 ≤ sizeLine; decide, fun p hp => ?_⟩
    refine ⟨_, rfl, _, _, rfl, rfl, ?_⟩
    refine ⟨p, _, _, _, rfl, rfl, SqL.of upd_same, rfl, ?_⟩
    exact q _ a10 (Same.trans (Same.trans (Same.trans (Same.trans m9.same (same_new n10)) (same_new n11)) m12.same) (same_new hp)) (Same.free m9.same n10) ((Same.trans (Same.trans (same_new n11) m12.same) (same_new hp)) _ _ upd_same)
  | 11, _, q =>
    refine ⟨_, rfl, _, _, rfl, rfl, _, rfl, ?_⟩
    refine ⟨_, rfl, _, _, rfl, rfl, _, rfl, ?_⟩
    refine ⟨_, rfl, _, _, rfl, rfl, _, rfl, ?_⟩
    refine ⟨_, rfl, rfl, fun a9 d9 H9 m9 => ?_⟩
    refine fun a10 n10 => ?_
    refine fun a11 n11 => ?_
    refine ⟨_, rfl, rfl, fun a12 d12 H12 m12 => ?_⟩
    refine ⟨by show 4 ≤ sizeLine; decide, fun p hp => ?_⟩
    refine ⟨_, rfl, _, _, rfl, rfl, ?_⟩
    refine ⟨p, _, _, _, rfl, rfl, SqL.of upd_same, rfl, ?_⟩
    exact q _ a11 (Same.trans (Same.trans (Same.trans (Same.trans m9.same (same_new n10)) (same_new n11)) m12.same) (same_new hp)) (Same.free (Same.trans m9.same (same_new n10)) n11) ((Same.trans m12.same (same_new hp)) _ _ upd_same)
  | 12, _, q =>
    refine ⟨_, rfl, _, _, rfl, rfl, _, rfl, ?_⟩
    refine ⟨_, rfl, _, _, rfl, rfl, _, rfl, ?_⟩
    refine ⟨_, rfl, _, _, rfl, rfl, _, rfl, ?_⟩
    refine ⟨_, rfl, rfl, fun a9 d9 H9 m9 => ?_⟩
    refine fun a10 n10 => ?_
    refine fun a11 n11 => ?_
    refine ⟨_, rfl, rfl, fun a12 d12 H12 m12 => ?_⟩
    refine ⟨by show 4 ≤ sizeLine; decide, fun p hp => ?_⟩
    refine ⟨_, rfl, _, _, rfl, rfl, ?_⟩
    refine ⟨p, _, _, _, rfl, rfl, SqL.of upd_same, rfl, ?_⟩
    exact q _ a12 (Same.trans (Same.trans (Same.trans (Same.trans m9.same (same_new n10)) (same_new n11)) m12.same) (same_new hp)) (Same.free (Same.trans (Same.trans m9.same (same_new n10)) (same_new n11)) m12.na) ⟨d12, (same_new hp) _ _ m12.at_, (same_new hp) _ _ m12.dict⟩
  | 13, _, q =>
    refine ⟨_, rfl, _, _, rfl, rfl, _, rfl, ?_⟩
    refine ⟨_, rfl, _, _, rfl, rfl, _, rfl, ?_⟩
    refine ⟨_, rfl, _, _, rfl, rfl, _, rfl, ?_⟩
    refine ⟨_, rfl, rfl, fun a13 d13 H13 m13 => ?_⟩
    refine ⟨_, rfl, rfl, fun a14 d14 H14 m14 => ?_⟩
    refine ⟨_, rfl, rfl, fun a15 d15 H15 m15 => ?_⟩
    refine fun a16 n16 => ?_
    refine ⟨by show 4 ≤ sizeLine; decide, fun p hp => ?_⟩
    refine ⟨_, rfl, _, _, rfl, rfl, ?_⟩
    refine ⟨p, _, _, _, rfl, rfl, SqL.of upd_same, rfl, ?_⟩
    exact q _ a13 (Same.trans (Same.trans (Same.trans (Same.trans m13.same m14.same) m15.same) (same_new n16)) (same_new hp)) (Same.free (Same.refl _) m13.na) ⟨d13, (Same.trans (Same.trans (Same.trans m14.same m15.same) (same_new n16)) (same_new hp)) _ _ m13.at_, (Same.trans (Same.trans (Same.trans m14.same m15.same) (same_new n16)) (same_new hp)) _ _ m13.dict⟩
  | 14, _, q =>
    refine ⟨_, rfl, _, _, rfl, rfl, _, rfl, ?_⟩
    refine ⟨_, rfl, _, _, rfl, rfl, _, rfl, ?_⟩
    refine ⟨_, rfl, _, _, rfl, rfl, _, rfl, ?_⟩
    refine ⟨_, rfl, rfl, fun a13 d13 H13 m13 => ?_⟩
    refine ⟨_, rfl, rfl, fun a14 d14 H14 m14 => ?_⟩
    refine ⟨_, rfl, rfl, fun a15 d15 H15 m15 => ?_⟩
    refine fun a16 n16 => ?_
    refine ⟨by show 4 ≤ sizeLine; decide, fun p hp => ?_⟩
    refine ⟨_, rfl, _, _, rfl, rfl, ?_⟩
    refine ⟨p, _, _, _, rfl, rfl, SqL.of upd_same, rfl, ?_⟩
    exact q _ a14 (Same.trans (Same.trans (Same.trans (Same.trans m13.same m14.same) m15.same) (same_new n16)) (same_new hp)) (Same.free m13.same m14.na) ⟨d14, (Same.trans (Same.trans m15.same (same_new n16)) (same_new hp)) _ _ m14.at_, (Same.trans (Same.trans m15.same (same_new n16)) (same_new hp)) _ _ m14.dict⟩
  | 15, _, q =>
    refine ⟨_, rfl, _, _, rfl, rfl, _, rfl, ?_⟩
    refine ⟨_, rfl, _, _, rfl, rfl, _, rfl, ?_⟩
    refine ⟨_, rfl, _, _, rfl, rfl, _, rfl, ?_⟩
    refine ⟨_, rfl, rfl, fun a13 d13 H13 m13 => ?_⟩
    refine ⟨_, rfl, rfl, fun a14 d14 H14 m14 => ?_⟩
    refine ⟨_, rfl, rfl, fun a15 d15 H15 m15 => ?_⟩
    refine fun a16 n16 => ?_
    refine ⟨by show 4 ≤ sizeLine; decide, fun p hp => ?_⟩
    refine ⟨_, rfl, _, _, rfl, rfl, ?_⟩
    refine ⟨p, _, _, _, rfl, rfl, SqL.of upd_same, rfl, ?_⟩
    exact q _ a15 (Same.trans (Same.trans (Same.trans (Same.trans m13.same m14.same) m15.same) (same_new n16)) (same_new hp)) (Same.free (Same.trans m13.same m14.same) m15.na) ⟨d15, (Same.trans (same_new n16) (same_new hp)) _ _ m15.at_, (Same.trans (same_new n16) (same_new hp)) _ _ m15.dict⟩
  | 16, _, q =>
    refine ⟨_, rfl, _, _, rfl, rfl, _, rfl, ?_⟩
    refine ⟨_, rfl, _, _, rfl, rfl, _, rfl, ?_⟩
    refine ⟨_, rfl, _, _, rfl, rfl, _, rfl, ?_⟩
    refine ⟨_, rfl, rfl, fun a13 d13 H13 m13 => ?_⟩
    refine ⟨_, rfl, rfl, fun a14 d14 H14 m14 => ?_⟩
    refine ⟨_, rfl, rfl, fun a15 d15 H15 m15 => ?_⟩
    refine fun a16 n16 => ?_
    refine ⟨by show 4 ≤ sizeLine; decide, fun p hp => ?_⟩
    refine ⟨_, rfl, _, _, rfl, rfl, ?_⟩
    refine ⟨p, _, _, _, rfl, rfl, SqL.of upd_same, rfl, ?_⟩
    exact q _ a16 (Same.trans (Same.trans (Same.trans (Same.trans m13.same m14.same) m15.same) (same_new n16)) (same_new hp)) (Same.free (Same.trans (Same.trans m13.same m14.same) m15.same) n16) ((same_new hp) _ _ upd_same)
  | _ + 17, hi, _ => exact absurd hi (by omega)
end
end K01
set_option Elab.async false
set_option linter.all false
set_option maxRecDepth 100000
set_option maxHeartbeats 4000000
/-! k01: of which class, what is told. -/
namespace K01
open PySem PySem.Spec PyProof.Rows L2 Zg Zr Zd Zv Xu Xt
section
variable {P : Program} {w : World} {K : PySem.W.Frag} {mg : PySem.Str → Option Value} {base : Heap}
/-- of which class: seventeen truths -/
def kd (i : Nat) : List Bool := (List.range 17).map fun j => i == j
def sp_kinds (T : Txt K mg) : Sp := fun vs H Q _ => ∃ (a : Addr) (i : Nat) (u v : V), vs = [.ref a] ∧ i < 17 ∧ EX T H a i u v ∧ ∀ (H' : Hp) (p : Addr), Same H H' → H' p = some (.lst ((kd i).map V.bl)) → Q (.ref p) H'
/-- .. of the exception that is caught -/
def spP_kinds (T : Txt K mg) : Addr → Value → Option Addr → Sp := fun a cls d vs H Q _ => ∃ i, vs = [.ref a] ∧ i < 17 ∧ cls = .ref (cat T i) ∧ (d = none ∨ ∃ dd fs, d = some dd ∧ H dd = some (.xd fs)) ∧
  ∀ (H' : Hp) (p : Addr), Same H H' → H' p = some (.lst ((kd i).map V.bl)) → Q (.ref p) H'
def sp_told (T : Txt K mg) : Sp := fun vs H Q _ => ∃ (i : Nat) (a : Addr) (u v : V), vs = [.int i, .ref a] ∧ i < 17 ∧ EX T H a i u v ∧ ∀ (H' : Hp) (p : Addr), Same H H' → H' p = some (.lst (args i u v)) → Q (.ref p) H'
def sp_due : Sp := fun vs H Q _ => ∃ (i : Nat) (u v : V), vs = [.int i, u, v] ∧ i < 17 ∧ ∀ (H' : Hp) (p : Addr), Same H H' → H' p = some (.lst (args i u v)) → Q (.ref p) H'
def sp_python (T : Txt K mg) : Sp := fun vs H Q _ => ∃ (a : Addr) (i : Nat) (u v : V), vs = [.ref a] ∧ i < 17 ∧ EX T H a i u v ∧ ∀ (H' : Hp), Same H H' → Q (.bl false) H'
theorem ok_kinds (T : Txt K mg) : FnOk P w K mg base CX0 1 T.a_kinds T.d_kinds P_kinds (sp_kinds T) := by
  refine T.F_kinds.ok sc_kinds (fun vs H Q E h => by obtain ⟨a, i, u, v, rfl, _⟩ := h; rfl) (fun cdv A outer s H vs Q E hr h => ?_)
  refine ⟨_, (pss_cons (ps_set (i := 1) sc_kinds.nd rfl (Or.inl rfl) (pe_lst (pa_cons (pe_callB Xw.call_isX (by rfl) T.n_isinstance (by decide +kernel) (pa_cons (pv 0) (pa_cons (pe_glob (v := .ref T.C_BadStore) rfl T.g_BadStore rfl) pa_nil))) (pa_cons (pe_callB Xw.call_isX (by rfl) T.n_isinstance (by decide +kernel) (pa_cons (pv 0) (pa_cons (pe_glob (v := .ref T.C_BadProgram) rfl T.g_BadProgram rfl) pa_nil))) (pa_cons (pe_callB Xw.call_isX (by rfl) T.n_isinstance (by decide +kernel) (pa_cons (pv 0) (pa_cons (pe_glob (v := .ref T.C_BadDefinition) rfl T.g_BadDefinition rfl) pa_nil))) (pa_cons (pe_callB Xw.call_isX (by rfl) T.n_isinstance (by decide +kernel) (pa_cons (pv 0) (pa_cons (pe_glob (v := .ref T.C_BadTerm) rfl T.g_BadTerm rfl) pa_nil))) pa_nil))))))
    (pss_cons (ps_set (i := 1) sc_kinds.nd rfl (Or.inl rfl) (pe_op op_cat (pv 1) (pe_lst (pa_cons (pe_callB Xw.call_isX (by rfl) T.n_isinstance (by decide +kernel) (pa_cons (pv 0) (pa_cons (pe_glob (v := .ref T.C_NoDefinition) rfl T.g_NoDefinition rfl) pa_nil))) (pa_cons (pe_callB Xw.call_isX (by rfl) T.n_isinstance (by decide +kernel) (pa_cons (pv 0) (pa_cons (pe_glob (v := .ref T.C_InUse) rfl T.g_InUse rfl) pa_nil))) (pa_cons (pe_callB Xw.call_isX (by rfl) T.n_isinstance (by decide +kernel) (pa_cons (pv 0) (pa_cons (pe_glob (v := .ref T.C_TooMany) rfl T.g_TooMany rfl) pa_nil))) pa_nil))))))
    (pss_cons (ps_set (i := 1) sc_kinds.nd rfl (Or.inl rfl) (pe_op op_cat (pv 1) (pe_lst (pa_cons (pe_callB Xw.call_isX (by rfl) T.n_isinstance (by decide +kernel) (pa_cons (pv 0) (pa_cons (pe_glob (v := .ref T.C_CanGoWrong) rfl T.g_CanGoWrong rfl) pa_nil))) (pa_cons (pe_callB Xw.call_isX (by rfl) T.n_isinstance (by decide +kernel) (pa_cons (pv 0) (pa_cons (pe_glob (v := .ref T.C_IsSafe) rfl T.g_IsSafe rfl) pa_nil))) (pa_cons (pe_callB Xw.call_isX (by rfl) T.n_isinstance (by decide +kernel) (pa_cons (pv 0) (pa_cons (pe_glob (v := .ref T.C_TooLong) rfl T.g_TooLong rfl) pa_nil))) pa_nil))))))
    (pss_cons (ps_set (i := 1) sc_kinds.nd rfl (Or.inl rfl) (pe_op op_cat (pv 1) (pe_lst (pa_cons (pe_callB Xw.call_isX (by rfl) T.n_isinstance (by decide +kernel) (pa_cons (pv 0) (pa_cons (pe_glob (v := .ref T.C_NotComparable) rfl T.g_NotComparable rfl) pa_nil))) (pa_cons (pe_callB Xw.call_isX (by rfl) T.n_isinstance (by decide +kernel) (pa_cons (pv 0) (pa_cons (pe_glob (v := .ref T.C_IsWithin) rfl T.g_IsWithin rfl) pa_nil))) (pa_cons (pe_callB Xw.call_isX (by rfl) T.n_isinstance (by decide +kernel) (pa_cons (pv 0) (pa_cons (pe_glob (v := .ref T.C_NotPossible) rfl T.g_NotPossible rfl) pa_nil))) pa_nil))))))
    (pss_cons (ps_set (i := 1) sc_kinds.nd rfl (Or.inl rfl) (pe_op op_cat (pv 1) (pe_lst (pa_cons (pe_callB Xw.call_isX (by rfl) T.n_isinstance (by decide +kernel) (pa_cons (pv 0) (pa_cons (pe_glob (v := .ref T.C_NoStep) rfl T.g_NoStep rfl) pa_nil))) (pa_cons (pe_callB Xw.call_isX (by rfl) T.n_isinstance (by decide +kernel) (pa_cons (pv 0) (pa_cons (pe_glob (v := .ref T.C_InvalidText) rfl T.g_InvalidText rfl) pa_nil))) (pa_cons (pe_callB Xw.call_isX (by rfl) T.n_isinstance (by decide +kernel) (pa_cons (pv 0) (pa_cons (pe_glob (v := .ref T.C_InvalidCommand) rfl T.g_InvalidCommand rfl) pa_nil))) pa_nil))))))
    (pss_one (ps_ret (pe_op op_cat (pv 1) (pe_lst (pa_cons (pe_callB Xw.call_isX (by rfl) T.n_isinstance (by decide +kernel) (pa_cons (pv 0) (pa_cons (pe_glob (v := .ref T.C_NoProgram) rfl T.g_NoProgram rfl) pa_nil))) pa_nil)))))))))), ?_⟩
  obtain ⟨a, i, u, v, rfl, hi, ex, q⟩ := h
  have hh : ∀ {X : Cx} (H' : Hp), Same H H' → Xw.HasE X H' a (cat T i) := fun H' k => (ex.same k).has
  refine ⟨_, rfl, a, cat T i, .ref T.C_BadStore, .ref T.C_BadStore, _, rfl, (ec T i hi).xc, hh _ (Same.refl _), .own _, kit_cat T hi (j := 0) (by decide), ?_⟩
  refine ⟨_, rfl, a, cat T i, .ref T.C_BadProgram, .ref T.C_BadProgram, _, rfl, (ec T i hi).xc, hh _ (Same.refl _), .own _, kit_cat T hi (j := 1) (by decide), ?_⟩
  refine ⟨_, rfl, a, cat T i, .ref T.C_BadDefinition, .ref T.C_BadDefinition, _, rfl, (ec T i hi).xc, hh _ (Same.refl _), .own _, kit_cat T hi (j := 2) (by decide), ?_⟩
  refine ⟨_, rfl, a, cat T i, .ref T.C_BadTerm, .ref T.C_BadTerm, _, rfl, (ec T i hi).xc, hh _ (Same.refl _), .own _, kit_cat T hi (j := 3) (by decide), ?_⟩
  refine ⟨by show 4 ≤ sizeLine; decide, fun p0 n0 => ?_⟩
  refine ⟨_, rfl, ?_⟩
  refine ⟨_, rfl, a, cat T i, .ref T.C_NoDefinition, .ref T.C_NoDefinition, _, rfl, (ec T i hi).xc, hh _ (Same.trans (Same.refl _) (same_new n0)), .own _, kit_cat T hi (j := 4) (by decide), ?_⟩
  refine ⟨_, rfl, a, cat T i, .ref T.C_InUse, .ref T.C_InUse, _, rfl, (ec T i hi).xc, hh _ (Same.trans (Same.refl _) (same_new n0)), .own _, kit_cat T hi (j := 5) (by decide), ?_⟩
  refine ⟨_, rfl, a, cat T i, .ref T.C_TooMany, .ref T.C_TooMany, _, rfl, (ec T i hi).xc, hh _ (Same.trans (Same.refl _) (same_new n0)), .own _, kit_cat T hi (j := 6) (by decide), ?_⟩
  refine ⟨by show 3 ≤ sizeLine; decide, fun p1 n1 => ?_⟩
  refine ⟨_, _, _, _, rfl, rfl, (by rw [upd_ne (ne_of_none (upd_same : _ = some (HO.lst _)) n1)]; exact upd_same), upd_same, by show 4 + 3 ≤ sizeLine; decide, fun r1 o1 => ?_⟩
  refine ⟨_, rfl, ?_⟩
  refine ⟨_, rfl, a, cat T i, .ref T.C_CanGoWrong, .ref T.C_CanGoWrong, _, rfl, (ec T i hi).xc, hh _ (Same.trans (Same.trans (Same.trans (Same.refl _) (same_new n0)) (same_new n1)) (same_new o1)), .own _, kit_cat T hi (j := 7) (by decide), ?_⟩
  refine ⟨_, rfl, a, cat T i, .ref T.C_IsSafe, .ref T.C_IsSafe, _, rfl, (ec T i hi).xc, hh _ (Same.trans (Same.trans (Same.trans (Same.refl _) (same_new n0)) (same_new n1)) (same_new o1)), .own _, kit_cat T hi (j := 8) (by decide), ?_⟩
  refine ⟨_, rfl, a, cat T i, .ref T.C_TooLong, .ref T.C_TooLong, _, rfl, (ec T i hi).xc, hh _ (Same.trans (Same.trans (Same.trans (Same.refl _) (same_new n0)) (same_new n1)) (same_new o1)), .own _, kit_cat T hi (j := 9) (by decide), ?_⟩
  refine ⟨by show 3 ≤ sizeLine; decide, fun p2 n2 => ?_⟩
  refine ⟨_, _, _, _, rfl, rfl, (by rw [upd_ne (ne_of_none (upd_same : _ = some (HO.lst _)) n2)]; exact upd_same), upd_same, by show 7 + 3 ≤ sizeLine; decide, fun r2 o2 => ?_⟩
  refine ⟨_, rfl, ?_⟩
  refine ⟨_, rfl, a, cat T i, .ref T.C_NotComparable, .ref T.C_NotComparable, _, rfl, (ec T i hi).xc, hh _ (Same.trans (Same.trans (Same.trans (Same.trans (Same.trans (Same.refl _) (same_new n0)) (same_new n1)) (same_new o1)) (same_new n2)) (same_new o2)), .own _, kit_cat T hi (j := 10) (by decide), ?_⟩
  refine ⟨_, rfl, a, cat T i, .ref T.C_IsWithin, .ref T.C_IsWithin, _, rfl, (ec T i hi).xc, hh _ (Same.trans (Same.trans (Same.trans (Same.trans (Same.trans (Same.refl _) (same_new n0)) (same_new n1)) (same_new o1)) (same_new n2)) (same_new o2)), .own _, kit_cat T hi (j := 11) (by decide), ?_⟩
  refine ⟨_, rfl, a, cat T i, .ref T.C_NotPossible, .ref T.C_NotPossible, _, rfl, (ec T i hi).xc, hh _ (Same.trans (Same.trans (Same.trans (Same.trans (Same.trans (Same.refl _) (same_new n0)) (same_new n1)) (same_new o1)) (same_new n2)) (same_new o2)), .own _, kit_cat T hi (j := 12) (by decide), ?_⟩
  refine ⟨by show 3 ≤ sizeLine; decide, fun p3 n3 => ?_⟩
  refine ⟨_, _, _, _, rfl, rfl, (by rw [upd_ne (ne_of_none (upd_same : _ = some (HO.lst _)) n3)]; exact upd_same), upd_same, by show 10 + 3 ≤ sizeLine; decide, fun r3 o3 => ?_⟩
  refine ⟨_, rfl, ?_⟩
  refine ⟨_, rfl, a, cat T i, .ref T.C_NoStep, .ref T.C_NoStep, _, rfl, (ec T i hi).xc, hh _ (Same.trans (Same.trans (Same.trans (Same.trans (Same.trans (Same.trans (Same.trans (Same.refl _) (same_new n0)) (same_new n1)) (same_new o1)) (same_new n2)) (same_new o2)) (same_new n3)) (same_new o3)), .own _, kit_cat T hi (j := 13) (by decide), ?_⟩
  refine ⟨_, rfl, a, cat T i, .ref T.C_InvalidText, .ref T.C_InvalidText, _, rfl, (ec T i hi).xc, hh _ (Same.trans (Same.trans (Same.trans (Same.trans (Same.trans (Same.trans (Same.trans (Same.refl _) (same_new n0)) (same_new n1)) (same_new o1)) (same_new n2)) (same_new o2)) (same_new n3)) (same_new o3)), .own _, kit_cat T hi (j := 14) (by decide), ?_⟩
  refine ⟨_, rfl, a, cat T i, .ref T.C_InvalidCommand, .ref T.C_InvalidCommand, _, rfl, (ec T i hi).xc, hh _ (Same.trans (Same.trans (Same.trans (Same.trans (Same.trans (Same.trans (Same.trans (Same.refl _) (same_new n0)) (same_new n1)) (same_new o1)) (same_new n2)) (same_new o2)) (same_new n3)) (same_new o3)), .own _, kit_cat T hi (j := 15) (by decide), ?_⟩
  refine ⟨by show 3 ≤ sizeLine; decide, fun p4 n4 => ?_⟩
  refine ⟨_, _, _, _, rfl, rfl, (by rw [upd_ne (ne_of_none (upd_same : _ = some (HO.lst _)) n4)]; exact upd_same), upd_same, by show 13 + 3 ≤ sizeLine; decide, fun r4 o4 => ?_⟩
  refine ⟨_, rfl, ?_⟩
  refine ⟨_, rfl, a, cat T i, .ref T.C_NoProgram, .ref T.C_NoProgram, _, rfl, (ec T i hi).xc, hh _ (Same.trans (Same.trans (Same.trans (Same.trans (Same.trans (Same.trans (Same.trans (Same.trans (Same.trans (Same.refl _) (same_new n0)) (same_new n1)) (same_new o1)) (same_new n2)) (same_new o2)) (same_new n3)) (same_new o3)) (same_new n4)) (same_new o4)), .own _, kit_cat T hi (j := 16) (by decide), ?_⟩
  refine ⟨by show 1 ≤ sizeLine; decide, fun p5 n5 => ?_⟩
  refine ⟨_, _, _, _, rfl, rfl, (by rw [upd_ne (ne_of_none (upd_same : _ = some (HO.lst _)) n5)]; exact upd_same), upd_same, by show 16 + 1 ≤ sizeLine; decide, fun r5 o5 => ?_⟩
  exact q _ _ (Same.trans (Same.trans (Same.trans (Same.trans (Same.trans (Same.trans (Same.trans (Same.trans (Same.trans (Same.trans (Same.trans (Same.refl _) (same_new n0)) (same_new n1)) (same_new o1)) (same_new n2)) (same_new o2)) (same_new n3)) (same_new o3)) (same_new n4)) (same_new o4)) (same_new n5)) (same_new o5)) upd_same
theorem okP_kinds (T : Txt K mg) : FnP P w K mg base 1 T.a_kinds T.d_kinds P_kinds (spP_kinds T) := by
  refine okP T.F_kinds sc_kinds (fun a c d vs H Q E h => by obtain ⟨i, rfl, _⟩ := h; rfl) (fun cdv A outer s H vs Q p c d hz hot hr h => ?_)
  refine ⟨_, (pss_cons (ps_set (i := 1) sc_kinds.nd rfl (Or.inl rfl) (pe_lst (pa_cons (pe_callB Xw.call_isX (by rfl) T.n_isinstance (by decide +kernel) (pa_cons (pv 0) (pa_cons (pe_glob (v := .ref T.C_BadStore) rfl T.g_BadStore rfl) pa_nil))) (pa_cons (pe_callB Xw.call_isX (by rfl) T.n_isinstance (by decide +kernel) (pa_cons (pv 0) (pa_cons (pe_glob (v := .ref T.C_BadProgram) rfl T.g_BadProgram rfl) pa_nil))) (pa_cons (pe_callB Xw.call_isX (by rfl) T.n_isinstance (by decide +kernel) (pa_cons (pv 0) (pa_cons (pe_glob (v := .ref T.C_BadDefinition) rfl T.g_BadDefinition rfl) pa_nil))) (pa_cons (pe_callB Xw.call_isX (by rfl) T.n_isinstance (by decide +kernel) (pa_cons (pv 0) (pa_cons (pe_glob (v := .ref T.C_BadTerm) rfl T.g_BadTerm rfl) pa_nil))) pa_nil))))))
    (pss_cons (ps_set (i := 1) sc_kinds.nd rfl (Or.inl rfl) (pe_op op_cat (pv 1) (pe_lst (pa_cons (pe_callB Xw.call_isX (by rfl) T.n_isinstance (by decide +kernel) (pa_cons (pv 0) (pa_cons (pe_glob (v := .ref T.C_NoDefinition) rfl T.g_NoDefinition rfl) pa_nil))) (pa_cons (pe_callB Xw.call_isX (by rfl) T.n_isinstance (by decide +kernel) (pa_cons (pv 0) (pa_cons (pe_glob (v := .ref T.C_InUse) rfl T.g_InUse rfl) pa_nil))) (pa_cons (pe_callB Xw.call_isX (by rfl) T.n_isinstance (by decide +kernel) (pa_cons (pv 0) (pa_cons (pe_glob (v := .ref T.C_TooMany) rfl T.g_TooMany rfl) pa_nil))) pa_nil))))))
    (pss_cons (ps_set (i := 1) sc_kinds.nd rfl (Or.inl rfl) (pe_op op_cat (pv 1) (pe_lst (pa_cons (pe_callB Xw.call_isX (by rfl) T.n_isinstance (by decide +kernel) (pa_cons (pv 0) (pa_cons (pe_glob (v := .ref T.C_CanGoWrong) rfl T.g_CanGoWrong rfl) pa_nil))) (pa_cons (pe_callB Xw.call_isX (by rfl) T.n_isinstance (by decide +kernel) (pa_cons (pv 0) (pa_cons (pe_glob (v := .ref T.C_IsSafe) rfl T.g_IsSafe rfl) pa_nil))) (pa_cons (pe_callB Xw.call_isX (by rfl) T.n_isinstance (by decide +kernel) (pa_cons (pv 0) (pa_cons (pe_glob (v := .ref T.C_TooLong) rfl T.g_TooLong rfl) pa_nil))) pa_nil))))))
    (pss_cons (ps_set (i := 1) sc_kinds.nd rfl (Or.inl rfl) (pe_op op_cat (pv 1) (pe_lst (pa_cons (pe_callB Xw.call_isX (by rfl) T.n_isinstance (by decide +kernel) (pa_cons (pv 0) (pa_cons (pe_glob (v := .ref T.C_NotComparable) rfl T.g_NotComparable rfl) pa_nil))) (pa_cons (pe_callB Xw.call_isX (by rfl) T.n_isinstance (by decide +kernel) (pa_cons (pv 0) (pa_cons (pe_glob (v := .ref T.C_IsWithin) rfl T.g_IsWithin rfl) pa_nil))) (pa_cons (pe_callB Xw.call_isX (by rfl) T.n_isinstance (by decide +kernel) (pa_cons (pv 0) (pa_cons (pe_glob (v := .ref T.C_NotPossible) rfl T.g_NotPossible rfl) pa_nil))) pa_nil))))))
    (pss_cons (ps_set (i := 1) sc_kinds.nd rfl (Or.inl rfl) (pe_op op_cat (pv 1) (pe_lst (pa_cons (pe_callB Xw.call_isX (by rfl) T.n_isinstance (by decide +kernel) (pa_cons (pv 0) (pa_cons (pe_glob (v := .ref T.C_NoStep) rfl T.g_NoStep rfl) pa_nil))) (pa_cons (pe_callB Xw.call_isX (by rfl) T.n_isinstance (by decide +kernel) (pa_cons (pv 0) (pa_cons (pe_glob (v := .ref T.C_InvalidText) rfl T.g_InvalidText rfl) pa_nil))) (pa_cons (pe_callB Xw.call_isX (by rfl) T.n_isinstance (by decide +kernel) (pa_cons (pv 0) (pa_cons (pe_glob (v := .ref T.C_InvalidCommand) rfl T.g_InvalidCommand rfl) pa_nil))) pa_nil))))))
    (pss_one (ps_ret (pe_op op_cat (pv 1) (pe_lst (pa_cons (pe_callB Xw.call_isX (by rfl) T.n_isinstance (by decide +kernel) (pa_cons (pv 0) (pa_cons (pe_glob (v := .ref T.C_NoProgram) rfl T.g_NoProgram rfl) pa_nil))) pa_nil)))))))))), ?_⟩
  obtain ⟨a, oe⟩ := p
  obtain ⟨i, rfl, hi, rfl, hd, q⟩ := h
  have hh : ∀ (H' : Hp), Same H H' → Xw.HasE (L2H.cxH CX0 P w K mg base N_kinds "_law_kinds" (defScope s_kinds) T.a_kinds cdv A outer s H E0 (a, oe)) H' a (cat T i) := fun H' k =>
    Xw.hasE_p (d := d) List.mem_cons_self hz.1.zc hz.2 (hd.imp_right fun ⟨dd, fs, e1, e2⟩ => ⟨dd, fs, e1, k _ _ e2⟩)
  refine ⟨_, rfl, a, cat T i, .ref T.C_BadStore, .ref T.C_BadStore, _, rfl, (ec T i hi).xc, hh _ (Same.refl _), .own _, kit_cat T hi (j := 0) (by decide), ?_⟩
  refine ⟨_, rfl, a, cat T i, .ref T.C_BadProgram, .ref T.C_BadProgram, _, rfl, (ec T i hi).xc, hh _ (Same.refl _), .own _, kit_cat T hi (j := 1) (by decide), ?_⟩
  refine ⟨_, rfl, a, cat T i, .ref T.C_BadDefinition, .ref T.C_BadDefinition, _, rfl, (ec T i hi).xc, hh _ (Same.refl _), .own _, kit_cat T hi (j := 2) (by decide), ?_⟩
  refine ⟨_, rfl, a, cat T i, .ref T.C_BadTerm, .ref T.C_BadTerm, _, rfl, (ec T i hi).xc, hh _ (Same.refl _), .own _, kit_cat T hi (j := 3) (by decide), ?_⟩
  refine ⟨by show 4 ≤ sizeLine; decide, fun p0 n0 => ?_⟩
  refine ⟨_, rfl, ?_⟩
  refine ⟨_, rfl, a, cat T i, .ref T.C_NoDefinition, .ref T.C_NoDefinition, _, rfl, (ec T i hi).xc, hh _ (Same.trans (Same.refl _) (same_new n0)), .own _, kit_cat T hi (j := 4) (by decide), ?_⟩
  refine ⟨_, rfl, a, cat T i, .ref T.C_InUse, .ref T.C_InUse, _, rfl, (ec T i hi).xc, hh _ (Same.trans (Same.refl _) (same_new n0)), .own _, kit_cat T hi (j := 5) (by decide), ?_⟩
  refine ⟨_, rfl, a, cat T i, .ref T.C_TooMany, .ref T.C_TooMany, _, rfl, (ec T i hi).xc, hh _ (Same.trans (Same.refl _) (same_new n0)), .own _, kit_cat T hi (j := 6) (by decide), ?_⟩
  refine ⟨by show 3 ≤ sizeLine; decide, fun p1 n1 => ?_⟩
  refine ⟨_, _, _, _, rfl, rfl, (by rw [upd_ne (ne_of_none (upd_same : _ = some (HO.lst _)) n1)]; exact upd_same), upd_same, by show 4 + 3 ≤ sizeLine; decide, fun r1 o1 => ?_⟩
  refine ⟨_, rfl, ?_⟩
  refine ⟨_, rfl, a, cat T i, .ref T.C_CanGoWrong, .ref T.C_CanGoWrong, _, rfl, (ec T i hi).xc, hh _ (Same.trans (Same.trans (Same.trans (Same.refl _) (same_new n0)) (same_new n1)) (same_new o1)), .own _, kit_cat T hi (j := 7) (by decide), ?_⟩
  refine ⟨_, rfl, a, cat T i, .ref T.C_IsSafe, .ref T.C_IsSafe, _, rfl, (ec T i hi).xc, hh _ (Same.trans (Same.trans (Same.trans (Same.refl _) (same_new n0)) (same_new n1)) (same_new o1)), .own _, kit_cat T hi (j := 8) (by decide), ?_⟩
  refine ⟨_, rfl, a, cat T i, .ref T.C_TooLong, .ref T.C_TooLong, _, rfl, (ec T i hi).xc, hh _ (Same.trans (Same.trans (Same.trans (Same.refl _) (same_new n0)) (same_new n1)) (same_new o1)), .own _, kit_cat T hi (j := 9) (by decide), ?_⟩
  refine ⟨by show 3 ≤ sizeLine; decide, fun p2 n2 => ?_⟩
  refine ⟨_, _, _, _, rfl, rfl, (by rw [upd_ne (ne_of_none (upd_same : _ = some (HO.lst _)) n2)]; exact upd_same), upd_same, by show 7 + 3 ≤ sizeLine; decide, fun r2 o2 => ?_⟩
  refine ⟨_, rfl, ?_⟩
  refine ⟨_, rfl, a, cat T i, .ref T.C_NotComparable, .ref T.C_NotComparable, _, rfl, (ec T i hi).xc, hh _ (Same.trans (Same.trans (Same.trans (Same.trans (Same.trans (Same.refl _) (same_new n0)) (same_new n1)) (same_new o1)) (same_new n2)) (same_new o2)), .own _, kit_cat T hi (j := 10) (by decide), ?_⟩
  refine ⟨_, rfl, a, cat T i, .ref T.C_IsWithin, .ref T.C_IsWithin, _, rfl, (ec T i hi).xc, hh _ (Same.trans (Same.trans (Same.trans (Same.trans (Same.trans (Same.refl _) (same_new n0)) (same_new n1)) (same_new o1)) (same_new n2)) (same_new o2)), .own _, kit_cat T hi (j := 11) (by decide), ?_⟩
  refine ⟨_, rfl, a, cat T i, .ref T.C_NotPossible, .ref T.C_NotPossible, _, rfl, (ec T i hi).xc, hh _ (Same.trans (Same.trans (Same.trans (Same.trans (Same.trans (Same.refl _) (same_new n0)) (same_new n1)) (same_new o1)) (same_new n2)) (same_new o2)), .own _, kit_cat T hi (j := 12) (by decide), ?_⟩
  refine ⟨by show 3 ≤ sizeLine; decide, fun p3 n3 => ?_⟩
  refine ⟨_, _, _, _, rfl, rfl, (by rw [upd_ne (ne_of_none (upd_same : _ = some (HO.lst _)) n3)]; exact upd_same), upd_same, by show 10 + 3 ≤ sizeLine; decide, fun r3 o3 => ?_⟩
  refine ⟨_, rfl, ?_⟩
  refine ⟨_, rfl, a, cat T i, .ref T.C_NoStep, .ref T.C_NoStep, _, rfl, (ec T i hi).xc, hh _ (Same.trans (Same.trans (Same.trans (Same.trans (Same.trans (Same.trans (Same.trans (Same.refl _) (same_new n0)) (same_new n1)) (same_new o1)) (same_new n2)) (same_new o2)) (same_new n3)) (same_new o3)), .own _, kit_cat T hi (j := 13) (by decide), ?_⟩
  refine ⟨_, rfl, a, cat T i, .ref T.C_InvalidText, .ref T.C_InvalidText, _, rfl, (ec T i hi).xc, hh _ (Same.trans (Same.trans (Same.trans (Same.trans (Same.trans (Same.trans (Same.trans (Same.refl _) (same_new n0)) (same_new n1)) (same_new o1)) (same_new n2)) (same_new o2)) (same_new n3)) (same_new o3)), .own _, kit_cat T hi (j := 14) (by decide), ?_⟩
  refine ⟨_, rfl, a, cat T i, .ref T.C_InvalidCommand, .ref T.C_InvalidCommand, _, rfl, (ec T i hi).xc, hh _ (Same.trans (Same.trans (Same.trans (Same.trans (Same.trans (Same.trans (Same.trans (Same.refl _) (same_new n0)) (same_new n1)) (same_new o1)) (same_new n2)) (same_new o2)) (same_new n3)) (same_new o3)), .own _, kit_cat T hi (j := 15) (by decide), ?_⟩
  refine ⟨by show 3 ≤ sizeLine; decide, fun p4 n4 => ?_⟩
  refine ⟨_, _, _, _, rfl, rfl, (by rw [upd_ne (ne_of_none (upd_same : _ = some (HO.lst _)) n4)]; exact upd_same), upd_same, by show 13 + 3 ≤ sizeLine; decide, fun r4 o4 => ?_⟩
  refine ⟨_, rfl, ?_⟩
  refine ⟨_, rfl, a, cat T i, .ref T.C_NoProgram, .ref T.C_NoProgram, _, rfl, (ec T i hi).xc, hh _ (Same.trans (Same.trans (Same.trans (Same.trans (Same.trans (Same.trans (Same.trans (Same.trans (Same.trans (Same.refl _) (same_new n0)) (same_new n1)) (same_new o1)) (same_new n2)) (same_new o2)) (same_new n3)) (same_new o3)) (same_new n4)) (same_new o4)), .own _, kit_cat T hi (j := 16) (by decide), ?_⟩
  refine ⟨by show 1 ≤ sizeLine; decide, fun p5 n5 => ?_⟩
  refine ⟨_, _, _, _, rfl, rfl, (by rw [upd_ne (ne_of_none (upd_same : _ = some (HO.lst _)) n5)]; exact upd_same), upd_same, by show 16 + 1 ≤ sizeLine; decide, fun r5 o5 => ?_⟩
  exact q _ _ (Same.trans (Same.trans (Same.trans (Same.trans (Same.trans (Same.trans (Same.trans (Same.trans (Same.trans (Same.trans (Same.trans (Same.refl _) (same_new n0)) (same_new n1)) (same_new o1)) (same_new n2)) (same_new o2)) (same_new n3)) (same_new o3)) (same_new n4)) (same_new o4)) (same_new n5)) (same_new o5)) upd_same
theorem ok_told (T : Txt K mg) : FnOk P w K mg base CX0 1 T.a_told T.d_told P_told (sp_told T) := by
  refine T.F_told.ok sc_told (fun vs H Q E h => by obtain ⟨i, a, u, v, rfl, _⟩ := h; rfl) (fun cdv A outer s H vs Q E hr h => ?_)
  refine ⟨_, (pss_cons (ps_if (pt_cmpR op_in_seq (pv 0) (pe_tup (pa_cons pe_int (pa_cons pe_int pa_nil))) (by rfl)) (pss_one (ps_ret (pe_lst (pa_cons (Xw.pe_xo (pv 1)) pa_nil)))) pss_nil)
    (pss_cons (ps_if (pt_cmpR op_in_seq (pv 0) (pe_tup (pa_cons pe_int (pa_cons pe_int pa_nil))) (by rfl)) (pss_one (ps_ret (pe_lst (pa_cons (Xw.pe_xo (pv 1)) pa_nil)))) pss_nil)
    (pss_cons (ps_if (pt_cmpR op_eq (pv 0) pe_int (nomark _)) (pss_one (ps_ret (pe_lst (pa_cons (Xw.pe_xo (pv 1)) (pa_cons (Xw.pe_xo (pv 1)) pa_nil))))) pss_nil)
    (pss_cons (ps_if (pt_cmpR op_in_seq (pv 0) (pe_tup (pa_cons pe_int (pa_cons pe_int pa_nil))) (by rfl)) (pss_one (ps_ret (pe_lst (pa_cons (Xw.pe_xo (pv 1)) pa_nil)))) pss_nil)
    (pss_cons (ps_if (pt_cmpR op_eq (pv 0) pe_int (nomark _)) (pss_one (ps_ret (pe_lst (pa_cons (Xw.pe_xo (pv 1)) pa_nil)))) pss_nil)
    (pss_cons (ps_if (pt_cmpR op_eq (pv 0) pe_int (nomark _)) (pss_one (ps_ret (pe_lst (pa_cons (Xw.pe_xo (pv 1)) pa_nil)))) pss_nil)
    (pss_cons (ps_if (pt_cmpR op_eq (pv 0) pe_int (nomark _)) (pss_one (ps_ret (pe_lst (pa_cons (Xw.pe_xo (pv 1)) pa_nil)))) pss_nil)
    (pss_cons (ps_if (pt_cmpR op_eq (pv 0) pe_int (nomark _)) (pss_one (ps_ret (pe_lst (pa_cons (Xw.pe_xo (pv 1)) pa_nil)))) pss_nil)
    (pss_one (ps_ret (pe_ifExp (pt_cmpR op_eq (pv 0) pe_int (nomark _)) (pe_lst (pa_cons (Xw.pe_xo (pv 1)) pa_nil)) (pe_lst pa_nil)))))))))))), ?_⟩
  obtain ⟨i, a, u, v, rfl, hi, ex, q⟩ := h
  match i, hi, ex, q with
  | 0, _, ex, q =>
    obtain ⟨dx, h1, h2⟩ := ex
    refine ⟨_, rfl, by show 2 ≤ sizeLine; decide, fun t0 s0 => ⟨t0, _, rfl, .inr (SqT.of upd_same), rfl, rfl, _, rfl, ?_⟩⟩
    refine ⟨_, rfl, a, T.C_BadStore, dx, _, _, rfl, T.E_BadStore.xf, T.E_BadStore.no _ List.mem_cons_self, (Same.trans (Same.refl _) (same_new s0)) _ _ h1, (Same.trans (Same.refl _) (same_new s0)) _ _ h2, rfl, ?_⟩
    exact ⟨by show 1 ≤ sizeLine; decide, fun p hp => q _ p (Same.trans (Same.trans (Same.refl _) (same_new s0)) (same_new hp)) upd_same⟩
  | 1, _, ex, q =>
    obtain ⟨dx, h1, h2⟩ := ex
    refine ⟨_, rfl, by show 2 ≤ sizeLine; decide, fun t0 s0 => ⟨t0, _, rfl, .inr (SqT.of upd_same), rfl, rfl, _, rfl, ?_⟩⟩
    refine ⟨_, rfl, a, T.C_BadProgram, dx, _, _, rfl, T.E_BadProgram.xf, T.E_BadProgram.no _ List.mem_cons_self, (Same.trans (Same.refl _) (same_new s0)) _ _ h1, (Same.trans (Same.refl _) (same_new s0)) _ _ h2, rfl, ?_⟩
    exact ⟨by show 1 ≤ sizeLine; decide, fun p hp => q _ p (Same.trans (Same.trans (Same.refl _) (same_new s0)) (same_new hp)) upd_same⟩
  | 2, _, ex, q =>
    obtain ⟨dx, h1, h2⟩ := ex
    refine ⟨_, rfl, by show 2 ≤ sizeLine; decide, fun t0 s0 => ⟨t0, _, rfl, .inr (SqT.of upd_same), rfl, rfl, _, rfl, ?_⟩⟩
    refine ⟨_, rfl, by show 2 ≤ sizeLine; decide, fun t1 s1 => ⟨t1, _, rfl, .inr (SqT.of upd_same), rfl, rfl, _, rfl, ?_⟩⟩
    refine ⟨_, rfl, a, T.C_BadDefinition, dx, _, _, rfl, T.E_BadDefinition.xf, T.E_BadDefinition.no _ List.mem_cons_self, (Same.trans (Same.trans (Same.refl _) (same_new s0)) (same_new s1)) _ _ h1, (Same.trans (Same.trans (Same.refl _) (same_new s0)) (same_new s1)) _ _ h2, rfl, ?_⟩
    exact ⟨by show 1 ≤ sizeLine; decide, fun p hp => q _ p (Same.trans (Same.trans (Same.trans (Same.refl _) (same_new s0)) (same_new s1)) (same_new hp)) upd_same⟩
  | 3, _, ex, q =>
    obtain ⟨dx, h1, h2⟩ := ex
    refine ⟨_, rfl, by show 2 ≤ sizeLine; decide, fun t0 s0 => ⟨t0, _, rfl, .inr (SqT.of upd_same), rfl, rfl, _, rfl, ?_⟩⟩
    refine ⟨_, rfl, by show 2 ≤ sizeLine; decide, fun t1 s1 => ⟨t1, _, rfl, .inr (SqT.of upd_same), rfl, rfl, _, rfl, ?_⟩⟩
    refine ⟨_, rfl, rfl, _, congrArg V.bl dec_int, ?_⟩
    refine ⟨_, rfl, by show 2 ≤ sizeLine; decide, fun t2 s2 => ⟨t2, _, rfl, .inr (SqT.of upd_same), rfl, rfl, _, rfl, ?_⟩⟩
    refine ⟨_, rfl, rfl, _, congrArg V.bl dec_int, ?_⟩
    refine ⟨_, rfl, a, T.C_BadTerm, dx, _, _, rfl, T.E_BadTerm.xf, T.E_BadTerm.no _ List.mem_cons_self, (Same.trans (Same.trans (Same.trans (Same.refl _) (same_new s0)) (same_new s1)) (same_new s2)) _ _ h1, (Same.trans (Same.trans (Same.trans (Same.refl _) (same_new s0)) (same_new s1)) (same_new s2)) _ _ h2, rfl, ?_⟩
    exact ⟨by show 1 ≤ sizeLine; decide, fun p hp => q _ p (Same.trans (Same.trans (Same.trans (Same.trans (Same.refl _) (same_new s0)) (same_new s1)) (same_new s2)) (same_new hp)) upd_same⟩
  | 4, _, ex, q =>
    obtain ⟨dx, h1, h2⟩ := ex
    refine ⟨_, rfl, by show 2 ≤ sizeLine; decide, fun t0 s0 => ⟨t0, _, rfl, .inr (SqT.of upd_same), rfl, rfl, _, rfl, ?_⟩⟩
    refine ⟨_, rfl, by show 2 ≤ sizeLine; decide, fun t1 s1 => ⟨t1, _, rfl, .inr (SqT.of upd_same), rfl, rfl, _, rfl, ?_⟩⟩
    refine ⟨_, rfl, a, T.C_NoDefinition, dx, _, _, rfl, T.E_NoDefinition.xf, T.E_NoDefinition.no _ List.mem_cons_self, (Same.trans (Same.trans (Same.refl _) (same_new s0)) (same_new s1)) _ _ h1, (Same.trans (Same.trans (Same.refl _) (same_new s0)) (same_new s1)) _ _ h2, rfl, ?_⟩
    exact ⟨by show 1 ≤ sizeLine; decide, fun p hp => q _ p (Same.trans (Same.trans (Same.trans (Same.refl _) (same_new s0)) (same_new s1)) (same_new hp)) upd_same⟩
  | 5, _, ex, q =>
    obtain ⟨dx, h1, h2⟩ := ex
    refine ⟨_, rfl, by show 2 ≤ sizeLine; decide, fun t0 s0 => ⟨t0, _, rfl, .inr (SqT.of upd_same), rfl, rfl, _, rfl, ?_⟩⟩
    refine ⟨_, rfl, by show 2 ≤ sizeLine; decide, fun t1 s1 => ⟨t1, _, rfl, .inr (SqT.of upd_same), rfl, rfl, _, rfl, ?_⟩⟩
    refine ⟨_, rfl, rfl, _, congrArg V.bl dec_int, ?_⟩
    refine ⟨_, rfl, a, T.C_InUse, dx, _, _, rfl, T.E_InUse.xf, T.E_InUse.no _ List.mem_cons_self, (Same.trans (Same.trans (Same.refl _) (same_new s0)) (same_new s1)) _ _ h1, (Same.trans (Same.trans (Same.refl _) (same_new s0)) (same_new s1)) _ _ h2, rfl, ?_⟩
    refine ⟨_, rfl, a, T.C_InUse, dx, _, _, rfl, T.E_InUse.xf, T.E_InUse.no _ (List.mem_cons_of_mem _ List.mem_cons_self), (Same.trans (Same.trans (Same.refl _) (same_new s0)) (same_new s1)) _ _ h1, (Same.trans (Same.trans (Same.refl _) (same_new s0)) (same_new s1)) _ _ h2, rfl, ?_⟩
    exact ⟨by show 2 ≤ sizeLine; decide, fun p hp => q _ p (Same.trans (Same.trans (Same.trans (Same.refl _) (same_new s0)) (same_new s1)) (same_new hp)) upd_same⟩
  | 6, _, ex, q =>
    obtain ⟨dx, h1, h2⟩ := ex
    refine ⟨_, rfl, by show 2 ≤ sizeLine; decide, fun t0 s0 => ⟨t0, _, rfl, .inr (SqT.of upd_same), rfl, rfl, _, rfl, ?_⟩⟩
    refine ⟨_, rfl, by show 2 ≤ sizeLine; decide, fun t1 s1 => ⟨t1, _, rfl, .inr (SqT.of upd_same), rfl, rfl, _, rfl, ?_⟩⟩
    refine ⟨_, rfl, rfl, _, congrArg V.bl dec_int, ?_⟩
    refine ⟨_, rfl, by show 2 ≤ sizeLine; decide, fun t2 s2 => ⟨t2, _, rfl, .inr (SqT.of upd_same), rfl, rfl, _, rfl, ?_⟩⟩
    refine ⟨_, rfl, rfl, _, congrArg V.bl dec_int, ?_⟩
    refine ⟨_, rfl, rfl, _, congrArg V.bl dec_int, ?_⟩
    refine ⟨_, rfl, a, T.C_TooMany, dx, _, _, rfl, T.E_TooMany.xf, T.E_TooMany.no _ List.mem_cons_self, (Same.trans (Same.trans (Same.trans (Same.refl _) (same_new s0)) (same_new s1)) (same_new s2)) _ _ h1, (Same.trans (Same.trans (Same.trans (Same.refl _) (same_new s0)) (same_new s1)) (same_new s2)) _ _ h2, rfl, ?_⟩
    exact ⟨by show 1 ≤ sizeLine; decide, fun p hp => q _ p (Same.trans (Same.trans (Same.trans (Same.trans (Same.refl _) (same_new s0)) (same_new s1)) (same_new s2)) (same_new hp)) upd_same⟩
  | 7, _, ex, q =>
    refine ⟨_, rfl, by show 2 ≤ sizeLine; decide, fun t0 s0 => ⟨t0, _, rfl, .inr (SqT.of upd_same), rfl, rfl, _, rfl, ?_⟩⟩
    refine ⟨_, rfl, by show 2 ≤ sizeLine; decide, fun t1 s1 => ⟨t1, _, rfl, .inr (SqT.of upd_same), rfl, rfl, _, rfl, ?_⟩⟩
    refine ⟨_, rfl, rfl, _, congrArg V.bl dec_int, ?_⟩
    refine ⟨_, rfl, by show 2 ≤ sizeLine; decide, fun t2 s2 => ⟨t2, _, rfl, .inr (SqT.of upd_same), rfl, rfl, _, rfl, ?_⟩⟩
    refine ⟨_, rfl, rfl, _, congrArg V.bl dec_int, ?_⟩
    refine ⟨_, rfl, rfl, _, congrArg V.bl dec_int, ?_⟩
    refine ⟨_, rfl, rfl, _, congrArg V.bl dec_int, ?_⟩
    refine ⟨_, rfl, rfl, _, congrArg V.bl dec_int, ?_⟩
    refine ⟨_, rfl, rfl, _, congrArg V.bl dec_int, ?_⟩
    exact ⟨by show 0 ≤ sizeLine; decide, fun p hp => q _ p (Same.trans (Same.trans (Same.trans (Same.trans (Same.refl _) (same_new s0)) (same_new s1)) (same_new s2)) (same_new hp)) upd_same⟩
  | 8, _, ex, q =>
    refine ⟨_, rfl, by show 2 ≤ sizeLine; decide, fun t0 s0 => ⟨t0, _, rfl, .inr (SqT.of upd_same), rfl, rfl, _, rfl, ?_⟩⟩
    refine ⟨_, rfl, by show 2 ≤ sizeLine; decide, fun t1 s1 => ⟨t1, _, rfl, .inr (SqT.of upd_same), rfl, rfl, _, rfl, ?_⟩⟩
    refine ⟨_, rfl, rfl, _, congrArg V.bl dec_int, ?_⟩
    refine ⟨_, rfl, by show 2 ≤ sizeLine; decide, fun t2 s2 => ⟨t2, _, rfl, .inr (SqT.of upd_same), rfl, rfl, _, rfl, ?_⟩⟩
    refine ⟨_, rfl, rfl, _, congrArg V.bl dec_int, ?_⟩
    refine ⟨_, rfl, rfl, _, congrArg V.bl dec_int, ?_⟩
    refine ⟨_, rfl, rfl, _, congrArg V.bl dec_int, ?_⟩
    refine ⟨_, rfl, rfl, _, congrArg V.bl dec_int, ?_⟩
    refine ⟨_, rfl, rfl, _, congrArg V.bl dec_int, ?_⟩
    exact ⟨by show 0 ≤ sizeLine; decide, fun p hp => q _ p (Same.trans (Same.trans (Same.trans (Same.trans (Same.refl _) (same_new s0)) (same_new s1)) (same_new s2)) (same_new hp)) upd_same⟩
  | 9, _, ex, q =>
    obtain ⟨dx, h1, h2⟩ := ex
    refine ⟨_, rfl, by show 2 ≤ sizeLine; decide, fun t0 s0 => ⟨t0, _, rfl, .inr (SqT.of upd_same), rfl, rfl, _, rfl, ?_⟩⟩
    refine ⟨_, rfl, by show 2 ≤ sizeLine; decide, fun t1 s1 => ⟨t1, _, rfl, .inr (SqT.of upd_same), rfl, rfl, _, rfl, ?_⟩⟩
    refine ⟨_, rfl, rfl, _, congrArg V.bl dec_int, ?_⟩
    refine ⟨_, rfl, by show 2 ≤ sizeLine; decide, fun t2 s2 => ⟨t2, _, rfl, .inr (SqT.of upd_same), rfl, rfl, _, rfl, ?_⟩⟩
    refine ⟨_, rfl, rfl, _, congrArg V.bl dec_int, ?_⟩
    refine ⟨_, rfl, rfl, _, congrArg V.bl dec_int, ?_⟩
    refine ⟨_, rfl, rfl, _, congrArg V.bl dec_int, ?_⟩
    refine ⟨_, rfl, a, T.C_TooLong, dx, _, _, rfl, T.E_TooLong.xf, T.E_TooLong.no _ List.mem_cons_self, (Same.trans (Same.trans (Same.trans (Same.refl _) (same_new s0)) (same_new s1)) (same_new s2)) _ _ h1, (Same.trans (Same.trans (Same.trans (Same.refl _) (same_new s0)) (same_new s1)) (same_new s2)) _ _ h2, rfl, ?_⟩
    exact ⟨by show 1 ≤ sizeLine; decide, fun p hp => q _ p (Same.trans (Same.trans (Same.trans (Same.trans (Same.refl _) (same_new s0)) (same_new s1)) (same_new s2)) (same_new hp)) upd_same⟩
  | 10, _, ex, q =>
    refine ⟨_, rfl, by show 2 ≤ sizeLine; decide, fun t0 s0 => ⟨t0, _, rfl, .inr (SqT.of upd_same), rfl, rfl, _, rfl, ?_⟩⟩
    refine ⟨_, rfl, by show 2 ≤ sizeLine; decide, fun t1 s1 => ⟨t1, _, rfl, .inr (SqT.of upd_same), rfl, rfl, _, rfl, ?_⟩⟩
    refine ⟨_, rfl, rfl, _, congrArg V.bl dec_int, ?_⟩
    refine ⟨_, rfl, by show 2 ≤ sizeLine; decide, fun t2 s2 => ⟨t2, _, rfl, .inr (SqT.of upd_same), rfl, rfl, _, rfl, ?_⟩⟩
    refine ⟨_, rfl, rfl, _, congrArg V.bl dec_int, ?_⟩
    refine ⟨_, rfl, rfl, _, congrArg V.bl dec_int, ?_⟩
    refine ⟨_, rfl, rfl, _, congrArg V.bl dec_int, ?_⟩
    refine ⟨_, rfl, rfl, _, congrArg V.bl dec_int, ?_⟩
    refine ⟨_, rfl, rfl, _, congrArg V.bl dec_int, ?_⟩
    exact ⟨by show 0 ≤ sizeLine; decide, fun p hp => q _ p (Same.trans (Same.trans (Same.trans (Same.trans (Same.refl _) (same_new s0)) (same_new s1)) (same_new s2)) (same_new hp)) upd_same⟩
  | 11, _, ex, q =>
    refine ⟨_, rfl, by show 2 ≤ sizeLine; decide, fun t0 s0 => ⟨t0, _, rfl, .inr (SqT.of upd_same), rfl, rfl, _, rfl, ?_⟩⟩
    refine ⟨_, rfl, by show 2 ≤ sizeLine; decide, fun t1 s1 => ⟨t1, _, rfl, .inr (SqT.of upd_same), rfl, rfl, _, rfl, ?_⟩⟩
    refine ⟨_, rfl, rfl, _, congrArg V.bl dec_int, ?_⟩
    refine ⟨_, rfl, by show 2 ≤ sizeLine; decide, fun t2 s2 => ⟨t2, _, rfl, .inr (SqT.of upd_same), rfl, rfl, _, rfl, ?_⟩⟩
    refine ⟨_, rfl, rfl, _, congrArg V.bl dec_int, ?_⟩
    refine ⟨_, rfl, rfl, _, congrArg V.bl dec_int, ?_⟩
    refine ⟨_, rfl, rfl, _, congrArg V.bl dec_int, ?_⟩
    refine ⟨_, rfl, rfl, _, congrArg V.bl dec_int, ?_⟩
    refine ⟨_, rfl, rfl, _, congrArg V.bl dec_int, ?_⟩
    exact ⟨by show 0 ≤ sizeLine; decide, fun p hp => q _ p (Same.trans (Same.trans (Same.trans (Same.trans (Same.refl _) (same_new s0)) (same_new s1)) (same_new s2)) (same_new hp)) upd_same⟩
  | 12, _, ex, q =>
    obtain ⟨dx, h1, h2⟩ := ex
    refine ⟨_, rfl, by show 2 ≤ sizeLine; decide, fun t0 s0 => ⟨t0, _, rfl, .inr (SqT.of upd_same), rfl, rfl, _, rfl, ?_⟩⟩
    refine ⟨_, rfl, by show 2 ≤ sizeLine; decide, fun t1 s1 => ⟨t1, _, rfl, .inr (SqT.of upd_same), rfl, rfl, _, rfl, ?_⟩⟩
    refine ⟨_, rfl, rfl, _, congrArg V.bl dec_int, ?_⟩
    refine ⟨_, rfl, by show 2 ≤ sizeLine; decide, fun t2 s2 => ⟨t2, _, rfl, .inr (SqT.of upd_same), rfl, rfl, _, rfl, ?_⟩⟩
    refine ⟨_, rfl, rfl, _, congrArg V.bl dec_int, ?_⟩
    refine ⟨_, rfl, rfl, _, congrArg V.bl dec_int, ?_⟩
    refine ⟨_, rfl, rfl, _, congrArg V.bl dec_int, ?_⟩
    refine ⟨_, rfl, rfl, _, congrArg V.bl dec_int, ?_⟩
    refine ⟨_, rfl, a, T.C_NotPossible, dx, _, _, rfl, T.E_NotPossible.xf, T.E_NotPossible.no _ List.mem_cons_self, (Same.trans (Same.trans (Same.trans (Same.refl _) (same_new s0)) (same_new s1)) (same_new s2)) _ _ h1, (Same.trans (Same.trans (Same.trans (Same.refl _) (same_new s0)) (same_new s1)) (same_new s2)) _ _ h2, rfl, ?_⟩
    exact ⟨by show 1 ≤ sizeLine; decide, fun p hp => q _ p (Same.trans (Same.trans (Same.trans (Same.trans (Same.refl _) (same_new s0)) (same_new s1)) (same_new s2)) (same_new hp)) upd_same⟩
  | 13, _, ex, q =>
    obtain ⟨dx, h1, h2⟩ := ex
    refine ⟨_, rfl, by show 2 ≤ sizeLine; decide, fun t0 s0 => ⟨t0, _, rfl, .inr (SqT.of upd_same), rfl, rfl, _, rfl, ?_⟩⟩
    refine ⟨_, rfl, by show 2 ≤ sizeLine; decide, fun t1 s1 => ⟨t1, _, rfl, .inr (SqT.of upd_same), rfl, rfl, _, rfl, ?_⟩⟩
    refine ⟨_, rfl, rfl, _, congrArg V.bl dec_int, ?_⟩
    refine ⟨_, rfl, by show 2 ≤ sizeLine; decide, fun t2 s2 => ⟨t2, _, rfl, .inr (SqT.of upd_same), rfl, rfl, _, rfl, ?_⟩⟩
    refine ⟨_, rfl, rfl, _, congrArg V.bl dec_int, ?_⟩
    refine ⟨_, rfl, rfl, _, congrArg V.bl dec_int, ?_⟩
    refine ⟨_, rfl, rfl, _, congrArg V.bl dec_int, ?_⟩
    refine ⟨_, rfl, rfl, _, congrArg V.bl dec_int, ?_⟩
    refine ⟨_, rfl, rfl, _, congrArg V.bl dec_int, ?_⟩
    refine ⟨_, rfl, a, T.C_NoStep, dx, _, _, rfl, T.E_NoStep.xf, T.E_NoStep.no _ List.mem_cons_self, (Same.trans (Same.trans (Same.trans (Same.refl _) (same_new s0)) (same_new s1)) (same_new s2)) _ _ h1, (Same.trans (Same.trans (Same.trans (Same.refl _) (same_new s0)) (same_new s1)) (same_new s2)) _ _ h2, rfl, ?_⟩
    exact ⟨by show 1 ≤ sizeLine; decide, fun p hp => q _ p (Same.trans (Same.trans (Same.trans (Same.trans (Same.refl _) (same_new s0)) (same_new s1)) (same_new s2)) (same_new hp)) upd_same⟩
  | 14, _, ex, q =>
    obtain ⟨dx, h1, h2⟩ := ex
    refine ⟨_, rfl, by show 2 ≤ sizeLine; decide, fun t0 s0 => ⟨t0, _, rfl, .inr (SqT.of upd_same), rfl, rfl, _, rfl, ?_⟩⟩
    refine ⟨_, rfl, by show 2 ≤ sizeLine; decide, fun t1 s1 => ⟨t1, _, rfl, .inr (SqT.of upd_same), rfl, rfl, _, rfl, ?_⟩⟩
    refine ⟨_, rfl, rfl, _, congrArg V.bl dec_int, ?_⟩
    refine ⟨_, rfl, by show 2 ≤ sizeLine; decide, fun t2 s2 => ⟨t2, _, rfl, .inr (SqT.of upd_same), rfl, rfl, _, rfl, ?_⟩⟩
    refine ⟨_, rfl, a, T.C_InvalidText, dx, _, _, rfl, T.E_InvalidText.xf, T.E_InvalidText.no _ List.mem_cons_self, (Same.trans (Same.trans (Same.trans (Same.refl _) (same_new s0)) (same_new s1)) (same_new s2)) _ _ h1, (Same.trans (Same.trans (Same.trans (Same.refl _) (same_new s0)) (same_new s1)) (same_new s2)) _ _ h2, rfl, ?_⟩
    exact ⟨by show 1 ≤ sizeLine; decide, fun p hp => q _ p (Same.trans (Same.trans (Same.trans (Same.trans (Same.refl _) (same_new s0)) (same_new s1)) (same_new s2)) (same_new hp)) upd_same⟩
  | 15, _, ex, q =>
    obtain ⟨dx, h1, h2⟩ := ex
    refine ⟨_, rfl, by show 2 ≤ sizeLine; decide, fun t0 s0 => ⟨t0, _, rfl, .inr (SqT.of upd_same), rfl, rfl, _, rfl, ?_⟩⟩
    refine ⟨_, rfl, by show 2 ≤ sizeLine; decide, fun t1 s1 => ⟨t1, _, rfl, .inr (SqT.of upd_same), rfl, rfl, _, rfl, ?_⟩⟩
    refine ⟨_, rfl, rfl, _, congrArg V.bl dec_int, ?_⟩
    refine ⟨_, rfl, by show 2 ≤ sizeLine; decide, fun t2 s2 => ⟨t2, _, rfl, .inr (SqT.of upd_same), rfl, rfl, _, rfl, ?_⟩⟩
    refine ⟨_, rfl, a, T.C_InvalidCommand, dx, _, _, rfl, T.E_InvalidCommand.xf, T.E_InvalidCommand.no _ List.mem_cons_self, (Same.trans (Same.trans (Same.trans (Same.refl _) (same_new s0)) (same_new s1)) (same_new s2)) _ _ h1, (Same.trans (Same.trans (Same.trans (Same.refl _) (same_new s0)) (same_new s1)) (same_new s2)) _ _ h2, rfl, ?_⟩
    exact ⟨by show 1 ≤ sizeLine; decide, fun p hp => q _ p (Same.trans (Same.trans (Same.trans (Same.trans (Same.refl _) (same_new s0)) (same_new s1)) (same_new s2)) (same_new hp)) upd_same⟩
  | 16, _, ex, q =>
    refine ⟨_, rfl, by show 2 ≤ sizeLine; decide, fun t0 s0 => ⟨t0, _, rfl, .inr (SqT.of upd_same), rfl, rfl, _, rfl, ?_⟩⟩
    refine ⟨_, rfl, by show 2 ≤ sizeLine; decide, fun t1 s1 => ⟨t1, _, rfl, .inr (SqT.of upd_same), rfl, rfl, _, rfl, ?_⟩⟩
    refine ⟨_, rfl, rfl, _, congrArg V.bl dec_int, ?_⟩
    refine ⟨_, rfl, by show 2 ≤ sizeLine; decide, fun t2 s2 => ⟨t2, _, rfl, .inr (SqT.of upd_same), rfl, rfl, _, rfl, ?_⟩⟩
    refine ⟨_, rfl, rfl, _, congrArg V.bl dec_int, ?_⟩
    refine ⟨_, rfl, rfl, _, congrArg V.bl dec_int, ?_⟩
    refine ⟨_, rfl, rfl, _, congrArg V.bl dec_int, ?_⟩
    refine ⟨_, rfl, rfl, _, congrArg V.bl dec_int, ?_⟩
    refine ⟨_, rfl, rfl, _, congrArg V.bl dec_int, ?_⟩
    exact ⟨by show 0 ≤ sizeLine; decide, fun p hp => q _ p (Same.trans (Same.trans (Same.trans (Same.trans (Same.refl _) (same_new s0)) (same_new s1)) (same_new s2)) (same_new hp)) upd_same⟩
  | _ + 17, hi, _, _ => exact absurd hi (by omega)
theorem ok_due (T : Txt K mg) : FnOk P w K mg base CX0 1 T.a_due T.d_due P_due sp_due := by
  refine T.F_due.ok sc_due (fun vs H Q E h => by obtain ⟨i, u, v, rfl, _⟩ := h; rfl) (fun cdv A outer s H vs Q E hr h => ?_)
  refine ⟨_, (pss_cons (ps_if (pt_cmpR op_in_seq (pv 0) (pe_tup (pa_cons pe_int (pa_cons pe_int (pa_cons pe_int (pa_cons pe_int (pa_cons pe_int pa_nil)))))) (by rfl)) (pss_one (ps_ret (pe_lst pa_nil))) pss_nil)
    (pss_one (ps_ret (pe_ifExp (pt_cmpR op_eq (pv 0) pe_int (nomark _)) (pe_lst (pa_cons (pv 1) (pa_cons (pv 2) pa_nil))) (pe_lst (pa_cons (pv 1) pa_nil)))))), ?_⟩
  obtain ⟨i, u, v, rfl, hi, q⟩ := h
  match i, hi, q with
  | 0, _, q =>
    refine ⟨_, rfl, by show 5 ≤ sizeLine; decide, fun t0 s0 => ⟨t0, _, rfl, .inr (SqT.of upd_same), rfl, rfl, _, rfl, ?_⟩⟩
    refine ⟨_, rfl, rfl, _, congrArg V.bl dec_int, ?_⟩
    refine ⟨_, rfl, ?_⟩
    exact ⟨by show 1 ≤ sizeLine; decide, fun p hp => q _ p (Same.trans (Same.trans (Same.refl _) (same_new s0)) (same_new hp)) upd_same⟩
  | 1, _, q =>
    refine ⟨_, rfl, by show 5 ≤ sizeLine; decide, fun t0 s0 => ⟨t0, _, rfl, .inr (SqT.of upd_same), rfl, rfl, _, rfl, ?_⟩⟩
    refine ⟨_, rfl, rfl, _, congrArg V.bl dec_int, ?_⟩
    refine ⟨_, rfl, ?_⟩
    exact ⟨by show 1 ≤ sizeLine; decide, fun p hp => q _ p (Same.trans (Same.trans (Same.refl _) (same_new s0)) (same_new hp)) upd_same⟩
  | 2, _, q =>
    refine ⟨_, rfl, by show 5 ≤ sizeLine; decide, fun t0 s0 => ⟨t0, _, rfl, .inr (SqT.of upd_same), rfl, rfl, _, rfl, ?_⟩⟩
    refine ⟨_, rfl, rfl, _, congrArg V.bl dec_int, ?_⟩
    refine ⟨_, rfl, ?_⟩
    exact ⟨by show 1 ≤ sizeLine; decide, fun p hp => q _ p (Same.trans (Same.trans (Same.refl _) (same_new s0)) (same_new hp)) upd_same⟩
  | 3, _, q =>
    refine ⟨_, rfl, by show 5 ≤ sizeLine; decide, fun t0 s0 => ⟨t0, _, rfl, .inr (SqT.of upd_same), rfl, rfl, _, rfl, ?_⟩⟩
    refine ⟨_, rfl, rfl, _, congrArg V.bl dec_int, ?_⟩
    refine ⟨_, rfl, ?_⟩
    exact ⟨by show 1 ≤ sizeLine; decide, fun p hp => q _ p (Same.trans (Same.trans (Same.refl _) (same_new s0)) (same_new hp)) upd_same⟩
  | 4, _, q =>
    refine ⟨_, rfl, by show 5 ≤ sizeLine; decide, fun t0 s0 => ⟨t0, _, rfl, .inr (SqT.of upd_same), rfl, rfl, _, rfl, ?_⟩⟩
    refine ⟨_, rfl, rfl, _, congrArg V.bl dec_int, ?_⟩
    refine ⟨_, rfl, ?_⟩
    exact ⟨by show 1 ≤ sizeLine; decide, fun p hp => q _ p (Same.trans (Same.trans (Same.refl _) (same_new s0)) (same_new hp)) upd_same⟩
  | 5, _, q =>
    refine ⟨_, rfl, by show 5 ≤ sizeLine; decide, fun t0 s0 => ⟨t0, _, rfl, .inr (SqT.of upd_same), rfl, rfl, _, rfl, ?_⟩⟩
    refine ⟨_, rfl, rfl, _, congrArg V.bl dec_int, ?_⟩
    refine ⟨_, rfl, _, rfl, ?_⟩
    exact ⟨by show 2 ≤ sizeLine; decide, fun p hp => q _ p (Same.trans (Same.trans (Same.refl _) (same_new s0)) (same_new hp)) upd_same⟩
  | 6, _, q =>
    refine ⟨_, rfl, by show 5 ≤ sizeLine; decide, fun t0 s0 => ⟨t0, _, rfl, .inr (SqT.of upd_same), rfl, rfl, _, rfl, ?_⟩⟩
    refine ⟨_, rfl, rfl, _, congrArg V.bl dec_int, ?_⟩
    refine ⟨_, rfl, ?_⟩
    exact ⟨by show 1 ≤ sizeLine; decide, fun p hp => q _ p (Same.trans (Same.trans (Same.refl _) (same_new s0)) (same_new hp)) upd_same⟩
  | 7, _, q =>
    refine ⟨_, rfl, by show 5 ≤ sizeLine; decide, fun t0 s0 => ⟨t0, _, rfl, .inr (SqT.of upd_same), rfl, rfl, _, rfl, ?_⟩⟩
    exact ⟨by show 0 ≤ sizeLine; decide, fun p hp => q _ p (Same.trans (Same.trans (Same.refl _) (same_new s0)) (same_new hp)) upd_same⟩
  | 8, _, q =>
    refine ⟨_, rfl, by show 5 ≤ sizeLine; decide, fun t0 s0 => ⟨t0, _, rfl, .inr (SqT.of upd_same), rfl, rfl, _, rfl, ?_⟩⟩
    exact ⟨by show 0 ≤ sizeLine; decide, fun p hp => q _ p (Same.trans (Same.trans (Same.refl _) (same_new s0)) (same_new hp)) upd_same⟩
  | 9, _, q =>
    refine ⟨_, rfl, by show 5 ≤ sizeLine; decide, fun t0 s0 => ⟨t0, _, rfl, .inr (SqT.of upd_same), rfl, rfl, _, rfl, ?_⟩⟩
    refine ⟨_, rfl, rfl, _, congrArg V.bl dec_int, ?_⟩
    refine ⟨_, rfl, ?_⟩
    exact ⟨by show 1 ≤ sizeLine; decide, fun p hp => q _ p (Same.trans (Same.trans (Same.refl _) (same_new s0)) (same_new hp)) upd_same⟩
  | 10, _, q =>
    refine ⟨_, rfl, by show 5 ≤ sizeLine; decide, fun t0 s0 => ⟨t0, _, rfl, .inr (SqT.of upd_same), rfl, rfl, _, rfl, ?_⟩⟩
    exact ⟨by show 0 ≤ sizeLine; decide, fun p hp => q _ p (Same.trans (Same.trans (Same.refl _) (same_new s0)) (same_new hp)) upd_same⟩
  | 11, _, q =>
    refine ⟨_, rfl, by show 5 ≤ sizeLine; decide, fun t0 s0 => ⟨t0, _, rfl, .inr (SqT.of upd_same), rfl, rfl, _, rfl, ?_⟩⟩
    exact ⟨by show 0 ≤ sizeLine; decide, fun p hp => q _ p (Same.trans (Same.trans (Same.refl _) (same_new s0)) (same_new hp)) upd_same⟩
  | 12, _, q =>
    refine ⟨_, rfl, by show 5 ≤ sizeLine; decide, fun t0 s0 => ⟨t0, _, rfl, .inr (SqT.of upd_same), rfl, rfl, _, rfl, ?_⟩⟩
    refine ⟨_, rfl, rfl, _, congrArg V.bl dec_int, ?_⟩
    refine ⟨_, rfl, ?_⟩
    exact ⟨by show 1 ≤ sizeLine; decide, fun p hp => q _ p (Same.trans (Same.trans (Same.refl _) (same_new s0)) (same_new hp)) upd_same⟩
  | 13, _, q =>
    refine ⟨_, rfl, by show 5 ≤ sizeLine; decide, fun t0 s0 => ⟨t0, _, rfl, .inr (SqT.of upd_same), rfl, rfl, _, rfl, ?_⟩⟩
    refine ⟨_, rfl, rfl, _, congrArg V.bl dec_int, ?_⟩
    refine ⟨_, rfl, ?_⟩
    exact ⟨by show 1 ≤ sizeLine; decide, fun p hp => q _ p (Same.trans (Same.trans (Same.refl _) (same_new s0)) (same_new hp)) upd_same⟩
  | 14, _, q =>
    refine ⟨_, rfl, by show 5 ≤ sizeLine; decide, fun t0 s0 => ⟨t0, _, rfl, .inr (SqT.of upd_same), rfl, rfl, _, rfl, ?_⟩⟩
    refine ⟨_, rfl, rfl, _, congrArg V.bl dec_int, ?_⟩
    refine ⟨_, rfl, ?_⟩
    exact ⟨by show 1 ≤ sizeLine; decide, fun p hp => q _ p (Same.trans (Same.trans (Same.refl _) (same_new s0)) (same_new hp)) upd_same⟩
  | 15, _, q =>
    refine ⟨_, rfl, by show 5 ≤ sizeLine; decide, fun t0 s0 => ⟨t0, _, rfl, .inr (SqT.of upd_same), rfl, rfl, _, rfl, ?_⟩⟩
    refine ⟨_, rfl, rfl, _, congrArg V.bl dec_int, ?_⟩
    refine ⟨_, rfl, ?_⟩
    exact ⟨by show 1 ≤ sizeLine; decide, fun p hp => q _ p (Same.trans (Same.trans (Same.refl _) (same_new s0)) (same_new hp)) upd_same⟩
  | 16, _, q =>
    refine ⟨_, rfl, by show 5 ≤ sizeLine; decide, fun t0 s0 => ⟨t0, _, rfl, .inr (SqT.of upd_same), rfl, rfl, _, rfl, ?_⟩⟩
    exact ⟨by show 0 ≤ sizeLine; decide, fun p hp => q _ p (Same.trans (Same.trans (Same.refl _) (same_new s0)) (same_new hp)) upd_same⟩
  | _ + 17, hi, _ => exact absurd hi (by omega)
theorem ok_is_python (T : Txt K mg) : FnOk P w K mg base CX0 1 T.a_is_python T.d_is_python P_is_python (sp_python T) := by
  refine T.F_is_python.ok sc_is_python (fun vs H Q E h => by obtain ⟨a, i, u, v, rfl, _⟩ := h; rfl) (fun cdv A outer s H vs Q E hr h => ?_)
  refine ⟨_, (pss_one (ps_ret (pe_callB Xw.call_isXT (by rfl) T.n_isinstance (by decide +kernel) (pa_cons (pv 0) (pa_cons (pe_tup (pa_cons (pe_bltn (v := .ty "ValueError") (u := .type "ValueError") (by rfl) T.n_ValueError (by decide +kernel) rfl) (pa_cons (pe_bltn (v := .ty "LookupError") (u := .type "LookupError") (by rfl) T.n_LookupError (by decide +kernel) rfl) (pa_cons (pe_bltn (v := .ty "ArithmeticError") (u := .type "ArithmeticError") (by rfl) T.n_ArithmeticError (by decide +kernel) rfl) (pa_cons (pe_bltn (v := .ty "TypeError") (u := .type "TypeError") (by rfl) T.n_TypeError (by decide +kernel) rfl) (pa_cons (pe_bltn (v := .ty "AttributeError") (u := .type "AttributeError") (by rfl) T.n_AttributeError (by decide +kernel) rfl) (pa_cons (pe_bltn (v := .ty "RuntimeError") (u := .type "RuntimeError") (by rfl) T.n_RuntimeError (by decide +kernel) rfl) pa_nil))))))) pa_nil))))), ?_⟩
  obtain ⟨a, i, u, v, rfl, hi, ex, q⟩ := h
  have E := ec T i hi
  refine ⟨_, rfl, by show 6 ≤ sizeLine; decide, fun p hp => ?_⟩
  refine ⟨a, cat T i, p, _, _, false, rfl, E.xc, (ex.same (same_new hp)).has, upd_same, .cons (.ty _) (.cons (.ty _) (.cons (.ty _) (.cons (.ty _) (.cons (.ty _) (.cons (.ty _) .nil))))), ?_, q _ (same_new hp)⟩
  refine kitAny_cons (E.kitT (T := "ValueError") (by decide +kernel)) (fun _ => ?_) (fun z => nomatch z)
  refine kitAny_cons (E.kitT (T := "LookupError") (by decide +kernel)) (fun _ => ?_) (fun z => nomatch z)
  refine kitAny_cons (E.kitT (T := "ArithmeticError") (by decide +kernel)) (fun _ => ?_) (fun z => nomatch z)
  refine kitAny_cons (E.kitT (T := "TypeError") (by decide +kernel)) (fun _ => ?_) (fun z => nomatch z)
  refine kitAny_cons (E.kitT (T := "AttributeError") (by decide +kernel)) (fun _ => ?_) (fun z => nomatch z)
  exact kitAny_cons (E.kitT (T := "RuntimeError") (by decide +kernel)) (fun _ => rfl) (fun z => nomatch z)
end
end K01
set_option Elab.async false
set_option linter.all false
set_option maxRecDepth 100000
set_option maxHeartbeats 4000000
/-! k01: raised and caught. -/
namespace K01
open PySem PySem.Spec PyProof.Rows L2 Zg Zr Zd Zv Xu Xt
section
variable {P : Program} {w : World} {K : PySem.W.Frag} {mg : PySem.Str → Option Value} {base : Heap}
theorem kd_before {i : Nat} : ∀ (m : Nat) (z : V), m < i → ((kd i).map V.bl)[m]? = some z → eqV z (.bl true) = false := by
  intro m z hm e
  unfold kd at e
  rw [List.map_map, List.getElem?_map] at e
  cases e2 : (List.range 17)[m]? with
  | none => rw [e2] at e; cases e
  | some j =>
    rw [e2] at e
    obtain ⟨hl, e3⟩ := List.getElem?_eq_some_iff.mp e2
    rw [List.getElem_range] at e3
    subst e3
    have e4 : V.bl (i == m) = z := Option.some.inj e
    have e5 : (i == m) = false := beq_eq_false_iff_ne.mpr (by omega)
    rw [e5] at e4
    subst e4
    rfl
def sp_raised_more (T : Txt K mg) : Sp := fun vs H _ E => ∃ (i : Nat) (u : V), vs = [.int i, u] ∧ 8 ≤ i ∧ i < 17 ∧ ∀ d H', Same H H' → (d = none ∨ ∃ dd fs, d = some dd ∧ H' dd = some (.xd fs)) → E (.ref (cat T i)) d H'
def sp_raised (T : Txt K mg) : Sp := fun vs H _ E => ∃ (i : Nat) (u v : V), vs = [.int i, u, v] ∧ i < 17 ∧ ∀ d H', Same H H' → (d = none ∨ ∃ dd fs, d = some dd ∧ H' dd = some (.xd fs)) → E (.ref (cat T i)) d H'
def sp_caught : Sp := fun vs H Q _ => ∃ (i : Nat) (u v : V), vs = [.int i, u, v] ∧ i < 17 ∧ ∀ H', Same H H' → Q (.int i) H'
theorem ok_raised_more (T : Txt K mg) : FnOk P w K mg base (L2N.CX P w) 3 T.a_raised_more T.d_raised_more P_raised_more (sp_raised_more T) := by
  refine Xv.okXN T.F_raised_more sc_raised_more (fun vs H Q E h => by obtain ⟨i, u, rfl, _⟩ := h; rfl) (fun cdv A outer s H vs Q E hr h => ?_)
  refine ⟨_, (pss_cons (ps_if (pt_cmpR op_eq (pv 0) pe_int (nomark _)) (pss_one (L2N.ps_raise rfl (L2N.takes_of rfl rfl rfl rfl) (Xw.pmk_0 T.q_IsSafe T.E_IsSafe.ox.kC (raises_own T.E_IsSafe.ox.exC T.E_IsSafe.ox.tyC) rfl T.g_IsSafe))) pss_nil)
    (pss_cons (ps_if (pt_cmpR op_eq (pv 0) pe_int (nomark _)) (pss_one (L2N.ps_raise rfl (L2N.takes_of rfl rfl rfl rfl) (Xw.pmk_E T.E_TooLong.ox T.iC_TooLong T.tI_TooLong (ok_TooLong_init T) (hr.mono (by decide)) T.b_TooLong_init rfl pass0 rfl T.g_TooLong (pa_cons (pv 1) pa_nil)))) pss_nil)
    (pss_cons (ps_if (pt_cmpR op_eq (pv 0) pe_int (nomark _)) (pss_one (L2N.ps_raise rfl (L2N.takes_of rfl rfl rfl rfl) (Xw.pmk_0 T.q_NotComparable T.E_NotComparable.ox.kC (raises_own T.E_NotComparable.ox.exC T.E_NotComparable.ox.tyC) rfl T.g_NotComparable))) pss_nil)
    (pss_cons (ps_if (pt_cmpR op_eq (pv 0) pe_int (nomark _)) (pss_one (L2N.ps_raise rfl (L2N.takes_of rfl rfl rfl rfl) (Xw.pmk_0 T.q_IsWithin T.E_IsWithin.ox.kC (raises_own T.E_IsWithin.ox.exC T.E_IsWithin.ox.tyC) rfl T.g_IsWithin))) pss_nil)
    (pss_cons (ps_if (pt_cmpR op_eq (pv 0) pe_int (nomark _)) (pss_one (L2N.ps_raise rfl (L2N.takes_of rfl rfl rfl rfl) (Xw.pmk_E T.E_NotPossible.ox T.iC_NotPossible T.tI_NotPossible (ok_NotPossible_init T) (hr.mono (by decide)) T.b_NotPossible_init rfl pass0 rfl T.g_NotPossible (pa_cons (pv 1) pa_nil)))) pss_nil)
    (pss_cons (ps_if (pt_cmpR op_eq (pv 0) pe_int (nomark _)) (pss_one (L2N.ps_raise rfl (L2N.takes_of rfl rfl rfl rfl) (Xw.pmk_E T.E_NoStep.ox T.iC_NoStep T.tI_NoStep (ok_NoStep_init T) (hr.mono (by decide)) T.b_NoStep_init rfl pass0 rfl T.g_NoStep (pa_cons (pv 1) pa_nil)))) pss_nil)
    (pss_cons (ps_if (pt_cmpR op_eq (pv 0) pe_int (nomark _)) (pss_one (L2N.ps_raise rfl (L2N.takes_of rfl rfl rfl rfl) (Xw.pmk_E T.E_InvalidText.ox T.iC_InvalidText T.tI_InvalidText (ok_InvalidText_init T) (hr.mono (by decide)) T.b_InvalidText_init rfl pass0 rfl T.g_InvalidText (pa_cons (pv 1) pa_nil)))) pss_nil)
    (pss_cons (ps_if (pt_cmpR op_eq (pv 0) pe_int (nomark _)) (pss_one (L2N.ps_raise rfl (L2N.takes_of rfl rfl rfl rfl) (Xw.pmk_E T.E_InvalidCommand.ox T.iC_InvalidCommand T.tI_InvalidCommand (ok_InvalidCommand_init T) (hr.mono (by decide)) T.b_InvalidCommand_init rfl pass0 rfl T.g_InvalidCommand (pa_cons (pv 1) pa_nil)))) pss_nil)
    (pss_one (L2N.ps_raise rfl (L2N.takes_of rfl rfl rfl rfl) (Xw.pmk_0 T.q_NoProgram T.E_NoProgram.ox.kC (raises_own T.E_NoProgram.ox.exC T.E_NoProgram.ox.tyC) rfl T.g_NoProgram))))))))))), ?_⟩
  obtain ⟨i, u, rfl, h8, hi, q⟩ := h
  match i, h8, hi, q with
  | 0, h8, _, _ => exact absurd h8 (by decide)
  | 1, h8, _, _ => exact absurd h8 (by decide)
  | 2, h8, _, _ => exact absurd h8 (by decide)
  | 3, h8, _, _ => exact absurd h8 (by decide)
  | 4, h8, _, _ => exact absurd h8 (by decide)
  | 5, h8, _, _ => exact absurd h8 (by decide)
  | 6, h8, _, _ => exact absurd h8 (by decide)
  | 7, h8, _, _ => exact absurd h8 (by decide)
  | 8, _, _, q =>
    refine ⟨_, rfl, rfl, _, congrArg V.bl dec_int, ?_⟩
    exact q none H (Same.refl _) (.inl rfl)
  | 9, _, _, q =>
    refine ⟨_, rfl, rfl, _, congrArg V.bl dec_int, ?_⟩
    refine ⟨_, rfl, rfl, _, congrArg V.bl dec_int, ?_⟩
    exact ⟨_, rfl, rfl, fun d hd => q _ _ (same_new hd) (.inr ⟨d, _, rfl, upd_same⟩)⟩
  | 10, _, _, q =>
    refine ⟨_, rfl, rfl, _, congrArg V.bl dec_int, ?_⟩
    refine ⟨_, rfl, rfl, _, congrArg V.bl dec_int, ?_⟩
    refine ⟨_, rfl, rfl, _, congrArg V.bl dec_int, ?_⟩
    exact q none H (Same.refl _) (.inl rfl)
  | 11, _, _, q =>
    refine ⟨_, rfl, rfl, _, congrArg V.bl dec_int, ?_⟩
    refine ⟨_, rfl, rfl, _, congrArg V.bl dec_int, ?_⟩
    refine ⟨_, rfl, rfl, _, congrArg V.bl dec_int, ?_⟩
    refine ⟨_, rfl, rfl, _, congrArg V.bl dec_int, ?_⟩
    exact q none H (Same.refl _) (.inl rfl)
  | 12, _, _, q =>
    refine ⟨_, rfl, rfl, _, congrArg V.bl dec_int, ?_⟩
    refine ⟨_, rfl, rfl, _, congrArg V.bl dec_int, ?_⟩
    refine ⟨_, rfl, rfl, _, congrArg V.bl dec_int, ?_⟩
    refine ⟨_, rfl, rfl, _, congrArg V.bl dec_int, ?_⟩
    refine ⟨_, rfl, rfl, _, congrArg V.bl dec_int, ?_⟩
    exact ⟨_, rfl, rfl, fun d hd => q _ _ (same_new hd) (.inr ⟨d, _, rfl, upd_same⟩)⟩
  | 13, _, _, q =>
    refine ⟨_, rfl, rfl, _, congrArg V.bl dec_int, ?_⟩
    refine ⟨_, rfl, rfl, _, congrArg V.bl dec_int, ?_⟩
    refine ⟨_, rfl, rfl, _, congrArg V.bl dec_int, ?_⟩
    refine ⟨_, rfl, rfl, _, congrArg V.bl dec_int, ?_⟩
    refine ⟨_, rfl, rfl, _, congrArg V.bl dec_int, ?_⟩
    refine ⟨_, rfl, rfl, _, congrArg V.bl dec_int, ?_⟩
    exact ⟨_, rfl, rfl, fun d hd => q _ _ (same_new hd) (.inr ⟨d, _, rfl, upd_same⟩)⟩
  | 14, _, _, q =>
    refine ⟨_, rfl, rfl, _, congrArg V.bl dec_int, ?_⟩
    refine ⟨_, rfl, rfl, _, congrArg V.bl dec_int, ?_⟩
    refine ⟨_, rfl, rfl, _, congrArg V.bl dec_int, ?_⟩
    refine ⟨_, rfl, rfl, _, congrArg V.bl dec_int, ?_⟩
    refine ⟨_, rfl, rfl, _, congrArg V.bl dec_int, ?_⟩
    refine ⟨_, rfl, rfl, _, congrArg V.bl dec_int, ?_⟩
    refine ⟨_, rfl, rfl, _, congrArg V.bl dec_int, ?_⟩
    exact ⟨_, rfl, rfl, fun d hd => q _ _ (same_new hd) (.inr ⟨d, _, rfl, upd_same⟩)⟩
  | 15, _, _, q =>
    refine ⟨_, rfl, rfl, _, congrArg V.bl dec_int, ?_⟩
    refine ⟨_, rfl, rfl, _, congrArg V.bl dec_int, ?_⟩
    refine ⟨_, rfl, rfl, _, congrArg V.bl dec_int, ?_⟩
    refine ⟨_, rfl, rfl, _, congrArg V.bl dec_int, ?_⟩
    refine ⟨_, rfl, rfl, _, congrArg V.bl dec_int, ?_⟩
    refine ⟨_, rfl, rfl, _, congrArg V.bl dec_int, ?_⟩
    refine ⟨_, rfl, rfl, _, congrArg V.bl dec_int, ?_⟩
    refine ⟨_, rfl, rfl, _, congrArg V.bl dec_int, ?_⟩
    exact ⟨_, rfl, rfl, fun d hd => q _ _ (same_new hd) (.inr ⟨d, _, rfl, upd_same⟩)⟩
  | 16, _, _, q =>
    refine ⟨_, rfl, rfl, _, congrArg V.bl dec_int, ?_⟩
    refine ⟨_, rfl, rfl, _, congrArg V.bl dec_int, ?_⟩
    refine ⟨_, rfl, rfl, _, congrArg V.bl dec_int, ?_⟩
    refine ⟨_, rfl, rfl, _, congrArg V.bl dec_int, ?_⟩
    refine ⟨_, rfl, rfl, _, congrArg V.bl dec_int, ?_⟩
    refine ⟨_, rfl, rfl, _, congrArg V.bl dec_int, ?_⟩
    refine ⟨_, rfl, rfl, _, congrArg V.bl dec_int, ?_⟩
    refine ⟨_, rfl, rfl, _, congrArg V.bl dec_int, ?_⟩
    exact q none H (Same.refl _) (.inl rfl)
  | _ + 17, _, hi, _ => exact absurd hi (by omega)
theorem ok_raised (T : Txt K mg) : FnOk P w K mg base (L2N.CX P w) 4 T.a_raised T.d_raised P_raised (sp_raised T) := by
  refine Xv.okXN T.F_raised sc_raised (fun vs H Q E h => by obtain ⟨i, u, v, rfl, _⟩ := h; rfl) (fun cdv A outer s H vs Q E hr h => ?_)
  refine ⟨_, (pss_cons (ps_if (pt_cmpR op_eq (pv 0) pe_int (nomark _)) (pss_one (L2N.ps_raise rfl (L2N.takes_of rfl rfl rfl rfl) (Xw.pmk_E T.E_BadStore.ox T.iC_BadStore T.tI_BadStore (ok_BadStore_init T) (hr.mono (by decide)) T.b_BadStore_init rfl pass0 rfl T.g_BadStore (pa_cons (pv 1) pa_nil)))) pss_nil)
    (pss_cons (ps_if (pt_cmpR op_eq (pv 0) pe_int (nomark _)) (pss_one (L2N.ps_raise rfl (L2N.takes_of rfl rfl rfl rfl) (Xw.pmk_E T.E_BadProgram.ox T.iC_BadProgram T.tI_BadProgram (ok_BadProgram_init T) (hr.mono (by decide)) T.b_BadProgram_init rfl pass0 rfl T.g_BadProgram (pa_cons (pv 1) pa_nil)))) pss_nil)
    (pss_cons (ps_if (pt_cmpR op_eq (pv 0) pe_int (nomark _)) (pss_one (L2N.ps_raise rfl (L2N.takes_of rfl rfl rfl rfl) (Xw.pmk_E T.E_BadDefinition.ox T.iC_BadDefinition T.tI_BadDefinition (ok_BadDefinition_init T) (hr.mono (by decide)) T.b_BadDefinition_init rfl pass0 rfl T.g_BadDefinition (pa_cons (pv 1) pa_nil)))) pss_nil)
    (pss_cons (ps_if (pt_cmpR op_eq (pv 0) pe_int (nomark _)) (pss_one (L2N.ps_raise rfl (L2N.takes_of rfl rfl rfl rfl) (Xw.pmk_E T.E_BadTerm.ox T.iC_BadTerm T.tI_BadTerm (ok_BadTerm_init T) (hr.mono (by decide)) T.b_BadTerm_init rfl pass0 rfl T.g_BadTerm (pa_cons (pv 1) pa_nil)))) pss_nil)
    (pss_cons (ps_if (pt_cmpR op_eq (pv 0) pe_int (nomark _)) (pss_one (L2N.ps_raise rfl (L2N.takes_of rfl rfl rfl rfl) (Xw.pmk_E T.E_NoDefinition.ox T.iC_NoDefinition T.tI_NoDefinition (ok_NoDefinition_init T) (hr.mono (by decide)) T.b_NoDefinition_init rfl pass0 rfl T.g_NoDefinition (pa_cons (pv 1) pa_nil)))) pss_nil)
    (pss_cons (ps_if (pt_cmpR op_eq (pv 0) pe_int (nomark _)) (pss_one (L2N.ps_raise rfl (L2N.takes_of rfl rfl rfl rfl) (Xw.pmk_E T.E_InUse.ox T.iC_InUse T.tI_InUse (ok_InUse_init T) (hr.mono (by decide)) T.b_InUse_init rfl pass0 rfl T.g_InUse (pa_cons (pv 1) (pa_cons (pv 2) pa_nil))))) pss_nil)
    (pss_cons (ps_if (pt_cmpR op_eq (pv 0) pe_int (nomark _)) (pss_one (L2N.ps_raise rfl (L2N.takes_of rfl rfl rfl rfl) (Xw.pmk_E T.E_TooMany.ox T.iC_TooMany T.tI_TooMany (ok_TooMany_init T) (hr.mono (by decide)) T.b_TooMany_init rfl pass0 rfl T.g_TooMany (pa_cons (pv 1) pa_nil)))) pss_nil)
    (pss_cons (ps_if (pt_cmpR op_eq (pv 0) pe_int (nomark _)) (pss_one (L2N.ps_raise rfl (L2N.takes_of rfl rfl rfl rfl) (Xw.pmk_0 T.q_CanGoWrong T.E_CanGoWrong.ox.kC (raises_own T.E_CanGoWrong.ox.exC T.E_CanGoWrong.ox.tyC) rfl T.g_CanGoWrong))) pss_nil)
    (pss_one (ps_expr (pe_call (ok_raised_more T) (hr.mono (by omega)) (by rfl) T.g_raised_more T.F_raised_more.kp T.b_raised_more .nil (L2N.passes_call (L2N.takes_of rfl rfl rfl rfl) (fun _ _ _ _ h => h)) (pa_cons (pv 0) (pa_cons (pv 1) pa_nil))))))))))))), ?_⟩
  obtain ⟨i, u, v, rfl, hi, q⟩ := h
  match i, hi, q with
  | 0, hi, q =>
    refine ⟨_, rfl, rfl, _, congrArg V.bl dec_int, ?_⟩
    exact ⟨_, rfl, rfl, fun d hd => q _ _ (same_new hd) (.inr ⟨d, _, rfl, upd_same⟩)⟩
  | 1, hi, q =>
    refine ⟨_, rfl, rfl, _, congrArg V.bl dec_int, ?_⟩
    refine ⟨_, rfl, rfl, _, congrArg V.bl dec_int, ?_⟩
    exact ⟨_, rfl, rfl, fun d hd => q _ _ (same_new hd) (.inr ⟨d, _, rfl, upd_same⟩)⟩
  | 2, hi, q =>
    refine ⟨_, rfl, rfl, _, congrArg V.bl dec_int, ?_⟩
    refine ⟨_, rfl, rfl, _, congrArg V.bl dec_int, ?_⟩
    refine ⟨_, rfl, rfl, _, congrArg V.bl dec_int, ?_⟩
    exact ⟨_, rfl, rfl, fun d hd => q _ _ (same_new hd) (.inr ⟨d, _, rfl, upd_same⟩)⟩
  | 3, hi, q =>
    refine ⟨_, rfl, rfl, _, congrArg V.bl dec_int, ?_⟩
    refine ⟨_, rfl, rfl, _, congrArg V.bl dec_int, ?_⟩
    refine ⟨_, rfl, rfl, _, congrArg V.bl dec_int, ?_⟩
    refine ⟨_, rfl, rfl, _, congrArg V.bl dec_int, ?_⟩
    exact ⟨_, rfl, rfl, fun d hd => q _ _ (same_new hd) (.inr ⟨d, _, rfl, upd_same⟩)⟩
  | 4, hi, q =>
    refine ⟨_, rfl, rfl, _, congrArg V.bl dec_int, ?_⟩
    refine ⟨_, rfl, rfl, _, congrArg V.bl dec_int, ?_⟩
    refine ⟨_, rfl, rfl, _, congrArg V.bl dec_int, ?_⟩
    refine ⟨_, rfl, rfl, _, congrArg V.bl dec_int, ?_⟩
    refine ⟨_, rfl, rfl, _, congrArg V.bl dec_int, ?_⟩
    exact ⟨_, rfl, rfl, fun d hd => q _ _ (same_new hd) (.inr ⟨d, _, rfl, upd_same⟩)⟩
  | 5, hi, q =>
    refine ⟨_, rfl, rfl, _, congrArg V.bl dec_int, ?_⟩
    refine ⟨_, rfl, rfl, _, congrArg V.bl dec_int, ?_⟩
    refine ⟨_, rfl, rfl, _, congrArg V.bl dec_int, ?_⟩
    refine ⟨_, rfl, rfl, _, congrArg V.bl dec_int, ?_⟩
    refine ⟨_, rfl, rfl, _, congrArg V.bl dec_int, ?_⟩
    refine ⟨_, rfl, rfl, _, congrArg V.bl dec_int, ?_⟩
    exact ⟨_, rfl, ⟨_, rfl, rfl, fun d hd => q _ _ (same_new hd) (.inr ⟨d, _, rfl, upd_same⟩)⟩⟩
  | 6, hi, q =>
    refine ⟨_, rfl, rfl, _, congrArg V.bl dec_int, ?_⟩
    refine ⟨_, rfl, rfl, _, congrArg V.bl dec_int, ?_⟩
    refine ⟨_, rfl, rfl, _, congrArg V.bl dec_int, ?_⟩
    refine ⟨_, rfl, rfl, _, congrArg V.bl dec_int, ?_⟩
    refine ⟨_, rfl, rfl, _, congrArg V.bl dec_int, ?_⟩
    refine ⟨_, rfl, rfl, _, congrArg V.bl dec_int, ?_⟩
    refine ⟨_, rfl, rfl, _, congrArg V.bl dec_int, ?_⟩
    exact ⟨_, rfl, rfl, fun d hd => q _ _ (same_new hd) (.inr ⟨d, _, rfl, upd_same⟩)⟩
  | 7, hi, q =>
    refine ⟨_, rfl, rfl, _, congrArg V.bl dec_int, ?_⟩
    refine ⟨_, rfl, rfl, _, congrArg V.bl dec_int, ?_⟩
    refine ⟨_, rfl, rfl, _, congrArg V.bl dec_int, ?_⟩
    refine ⟨_, rfl, rfl, _, congrArg V.bl dec_int, ?_⟩
    refine ⟨_, rfl, rfl, _, congrArg V.bl dec_int, ?_⟩
    refine ⟨_, rfl, rfl, _, congrArg V.bl dec_int, ?_⟩
    refine ⟨_, rfl, rfl, _, congrArg V.bl dec_int, ?_⟩
    refine ⟨_, rfl, rfl, _, congrArg V.bl dec_int, ?_⟩
    exact q none H (Same.refl _) (.inl rfl)
  | 8, hi, q =>
    refine ⟨_, rfl, rfl, _, congrArg V.bl dec_int, ?_⟩
    refine ⟨_, rfl, rfl, _, congrArg V.bl dec_int, ?_⟩
    refine ⟨_, rfl, rfl, _, congrArg V.bl dec_int, ?_⟩
    refine ⟨_, rfl, rfl, _, congrArg V.bl dec_int, ?_⟩
    refine ⟨_, rfl, rfl, _, congrArg V.bl dec_int, ?_⟩
    refine ⟨_, rfl, rfl, _, congrArg V.bl dec_int, ?_⟩
    refine ⟨_, rfl, rfl, _, congrArg V.bl dec_int, ?_⟩
    refine ⟨_, rfl, rfl, _, congrArg V.bl dec_int, ?_⟩
    exact ⟨_, rfl, _, rfl, 8, u, rfl, by decide, by decide, fun d H2 k hd => q d H2 k hd⟩
  | 9, hi, q =>
    refine ⟨_, rfl, rfl, _, congrArg V.bl dec_int, ?_⟩
    refine ⟨_, rfl, rfl, _, congrArg V.bl dec_int, ?_⟩
    refine ⟨_, rfl, rfl, _, congrArg V.bl dec_int, ?_⟩
    refine ⟨_, rfl, rfl, _, congrArg V.bl dec_int, ?_⟩
    refine ⟨_, rfl, rfl, _, congrArg V.bl dec_int, ?_⟩
    refine ⟨_, rfl, rfl, _, congrArg V.bl dec_int, ?_⟩
    refine ⟨_, rfl, rfl, _, congrArg V.bl dec_int, ?_⟩
    refine ⟨_, rfl, rfl, _, congrArg V.bl dec_int, ?_⟩
    exact ⟨_, rfl, _, rfl, 9, u, rfl, by decide, by decide, fun d H2 k hd => q d H2 k hd⟩
  | 10, hi, q =>
    refine ⟨_, rfl, rfl, _, congrArg V.bl dec_int, ?_⟩
    refine ⟨_, rfl, rfl, _, congrArg V.bl dec_int, ?_⟩
    refine ⟨_, rfl, rfl, _, congrArg V.bl dec_int, ?_⟩
    refine ⟨_, rfl, rfl, _, congrArg V.bl dec_int, ?_⟩
    refine ⟨_, rfl, rfl, _, congrArg V.bl dec_int, ?_⟩
    refine ⟨_, rfl, rfl, _, congrArg V.bl dec_int, ?_⟩
    refine ⟨_, rfl, rfl, _, congrArg V.bl dec_int, ?_⟩
    refine ⟨_, rfl, rfl, _, congrArg V.bl dec_int, ?_⟩
    exact ⟨_, rfl, _, rfl, 10, u, rfl, by decide, by decide, fun d H2 k hd => q d H2 k hd⟩
  | 11, hi, q =>
    refine ⟨_, rfl, rfl, _, congrArg V.bl dec_int, ?_⟩
    refine ⟨_, rfl, rfl, _, congrArg V.bl dec_int, ?_⟩
    refine ⟨_, rfl, rfl, _, congrArg V.bl dec_int, ?_⟩
    refine ⟨_, rfl, rfl, _, congrArg V.bl dec_int, ?_⟩
    refine ⟨_, rfl, rfl, _, congrArg V.bl dec_int, ?_⟩
    refine ⟨_, rfl, rfl, _, congrArg V.bl dec_int, ?_⟩
    refine ⟨_, rfl, rfl, _, congrArg V.bl dec_int, ?_⟩
    refine ⟨_, rfl, rfl, _, congrArg V.bl dec_int, ?_⟩
    exact ⟨_, rfl, _, rfl, 11, u, rfl, by decide, by decide, fun d H2 k hd => q d H2 k hd⟩
  | 12, hi, q =>
    refine ⟨_, rfl, rfl, _, congrArg V.bl dec_int, ?_⟩
    refine ⟨_, rfl, rfl, _, congrArg V.bl dec_int, ?_⟩
    refine ⟨_, rfl, rfl, _, congrArg V.bl dec_int, ?_⟩
    refine ⟨_, rfl, rfl, _, congrArg V.bl dec_int, ?_⟩
    refine ⟨_, rfl, rfl, _, congrArg V.bl dec_int, ?_⟩
    refine ⟨_, rfl, rfl, _, congrArg V.bl dec_int, ?_⟩
    refine ⟨_, rfl, rfl, _, congrArg V.bl dec_int, ?_⟩
    refine ⟨_, rfl, rfl, _, congrArg V.bl dec_int, ?_⟩
    exact ⟨_, rfl, _, rfl, 12, u, rfl, by decide, by decide, fun d H2 k hd => q d H2 k hd⟩
  | 13, hi, q =>
    refine ⟨_, rfl, rfl, _, congrArg V.bl dec_int, ?_⟩
    refine ⟨_, rfl, rfl, _, congrArg V.bl dec_int, ?_⟩
    refine ⟨_, rfl, rfl, _, congrArg V.bl dec_int, ?_⟩
    refine ⟨_, rfl, rfl, _, congrArg V.bl dec_int, ?_⟩
    refine ⟨_, rfl, rfl, _, congrArg V.bl dec_int, ?_⟩
    refine ⟨_, rfl, rfl, _, congrArg V.bl dec_int, ?_⟩
    refine ⟨_, rfl, rfl, _, congrArg V.bl dec_int, ?_⟩
    refine ⟨_, rfl, rfl, _, congrArg V.bl dec_int, ?_⟩
    exact ⟨_, rfl, _, rfl, 13, u, rfl, by decide, by decide, fun d H2 k hd => q d H2 k hd⟩
  | 14, hi, q =>
    refine ⟨_, rfl, rfl, _, congrArg V.bl dec_int, ?_⟩
    refine ⟨_, rfl, rfl, _, congrArg V.bl dec_int, ?_⟩
    refine ⟨_, rfl, rfl, _, congrArg V.bl dec_int, ?_⟩
    refine ⟨_, rfl, rfl, _, congrArg V.bl dec_int, ?_⟩
    refine ⟨_, rfl, rfl, _, congrArg V.bl dec_int, ?_⟩
    refine ⟨_, rfl, rfl, _, congrArg V.bl dec_int, ?_⟩
    refine ⟨_, rfl, rfl, _, congrArg V.bl dec_int, ?_⟩
    refine ⟨_, rfl, rfl, _, congrArg V.bl dec_int, ?_⟩
    exact ⟨_, rfl, _, rfl, 14, u, rfl, by decide, by decide, fun d H2 k hd => q d H2 k hd⟩
  | 15, hi, q =>
    refine ⟨_, rfl, rfl, _, congrArg V.bl dec_int, ?_⟩
    refine ⟨_, rfl, rfl, _, congrArg V.bl dec_int, ?_⟩
    refine ⟨_, rfl, rfl, _, congrArg V.bl dec_int, ?_⟩
    refine ⟨_, rfl, rfl, _, congrArg V.bl dec_int, ?_⟩
    refine ⟨_, rfl, rfl, _, congrArg V.bl dec_int, ?_⟩
    refine ⟨_, rfl, rfl, _, congrArg V.bl dec_int, ?_⟩
    refine ⟨_, rfl, rfl, _, congrArg V.bl dec_int, ?_⟩
    refine ⟨_, rfl, rfl, _, congrArg V.bl dec_int, ?_⟩
    exact ⟨_, rfl, _, rfl, 15, u, rfl, by decide, by decide, fun d H2 k hd => q d H2 k hd⟩
  | 16, hi, q =>
    refine ⟨_, rfl, rfl, _, congrArg V.bl dec_int, ?_⟩
    refine ⟨_, rfl, rfl, _, congrArg V.bl dec_int, ?_⟩
    refine ⟨_, rfl, rfl, _, congrArg V.bl dec_int, ?_⟩
    refine ⟨_, rfl, rfl, _, congrArg V.bl dec_int, ?_⟩
    refine ⟨_, rfl, rfl, _, congrArg V.bl dec_int, ?_⟩
    refine ⟨_, rfl, rfl, _, congrArg V.bl dec_int, ?_⟩
    refine ⟨_, rfl, rfl, _, congrArg V.bl dec_int, ?_⟩
    refine ⟨_, rfl, rfl, _, congrArg V.bl dec_int, ?_⟩
    exact ⟨_, rfl, _, rfl, 16, u, rfl, by decide, by decide, fun d H2 k hd => q d H2 k hd⟩
  | _ + 17, hi, _ => exact absurd hi (by omega)
theorem ok_caught_early (T : Txt K mg) : FnOk P w K mg base CX0 5 T.a_caught_early T.d_caught_early P_caught_early (sp_caught) := by
  refine T.F_caught_early.ok sc_caught_early (fun vs H Q E h => by obtain ⟨i, u, v, rfl, _⟩ := h; rfl) (fun cdv A outer s H vs Q E hr h => ?_)
  refine ⟨_, (pss_cons (ps_set (i := 3) sc_caught_early.nd rfl (Or.inl rfl) (pe_un un_neg pe_int))
    (pss_cons (Xt.ps_try_mix rfl rfl sc_caught_early.nd Xt.takes0 (fun W pn xe tk pp => (pss_one (ps_expr (pe_callS (ok_raised T) (hr.mono (by omega)) (by rfl) T.g_raised T.F_raised.kp T.b_raised (fun σ => L2N.passAt tk σ) (pa_cons (pv 0) (pa_cons (pv 1) (pa_cons (pv 2) pa_nil)))))))
    (Xt.HdsX.bare ⟨rfl, by decide, (.inl T.g_BadStore)⟩ (fun a oe cls d pn hz hf => (pss_one (ps_set (i := 3) sc_caught_early.nd rfl (Or.inl rfl) pe_int)))
    (Xt.HdsX.bare ⟨rfl, by decide, (.inl T.g_BadProgram)⟩ (fun a oe cls d pn hz hf => (pss_one (ps_set (i := 3) sc_caught_early.nd rfl (Or.inl rfl) pe_int)))
    (Xt.HdsX.bare ⟨rfl, by decide, (.inl T.g_BadDefinition)⟩ (fun a oe cls d pn hz hf => (pss_one (ps_set (i := 3) sc_caught_early.nd rfl (Or.inl rfl) pe_int)))
    (Xt.HdsX.bare ⟨rfl, by decide, (.inl T.g_BadTerm)⟩ (fun a oe cls d pn hz hf => (pss_one (ps_set (i := 3) sc_caught_early.nd rfl (Or.inl rfl) pe_int)))
    (Xt.HdsX.bare ⟨rfl, by decide, (.inl T.g_NoDefinition)⟩ (fun a oe cls d pn hz hf => (pss_one (ps_set (i := 3) sc_caught_early.nd rfl (Or.inl rfl) pe_int)))
    (Xt.HdsX.bare ⟨rfl, by decide, (.inl T.g_InUse)⟩ (fun a oe cls d pn hz hf => (pss_one (ps_set (i := 3) sc_caught_early.nd rfl (Or.inl rfl) pe_int)))
    (Xt.HdsX.bare ⟨rfl, by decide, (.inl T.g_TooMany)⟩ (fun a oe cls d pn hz hf => (pss_one (ps_set (i := 3) sc_caught_early.nd rfl (Or.inl rfl) pe_int)))
    (Xt.HdsX.bare ⟨rfl, by decide, (.inl T.g_CanGoWrong)⟩ (fun a oe cls d pn hz hf => (pss_one (ps_set (i := 3) sc_caught_early.nd rfl (Or.inl rfl) pe_int)))
    (Xt.HdsX.bare ⟨rfl, by decide, (.inl T.g_IsSafe)⟩ (fun a oe cls d pn hz hf => (pss_one (ps_set (i := 3) sc_caught_early.nd rfl (Or.inl rfl) pe_int)))
    (Xt.HdsX.named (i := 4) ⟨rfl, by decide, (.inl T.g_FlowError)⟩ rfl rfl (fun a oe cls d pn hz hf => (pss_one (ps_set (i := 3) sc_caught_early.nd rfl (Or.inl rfl) (pe_ifExp (pt_cmpR (show OpR _ (compareOp .In) (rIn K false) from op_in_seq) pe_bl (Xt.pe_callP (okP_kinds T) (Xt.room_suite (k := 1) (hr.mono (by decide)) _) hz hf (by rfl) List.mem_cons_self (by rfl) T.g_kinds T.F_kinds.kp T.b_kinds (pa_cons (pv 4) pa_nil)) (by rfl)) (show PE _ _ (tBM K "list" (rIndex K) _ _) from (pe_bm PySem.F.plainAttrs_list PySem.F.slot_list_index PySem.F.type_list_index mt_index (Xt.pe_callP (okP_kinds T) (Xt.room_suite (k := 1) (hr.mono (by decide)) _) hz hf (by rfl) List.mem_cons_self (by rfl) T.g_kinds T.F_kinds.kp T.b_kinds (pa_cons (pv 4) pa_nil)) (pa_cons pe_bl pa_nil))) (pe_un un_neg pe_int)))))
    Xt.HdsX.nil)))))))))))
    (pss_one (ps_ret (pv 3))))), ?_⟩
  obtain ⟨i, u, v, rfl, hi, q⟩ := h
  match i, hi, q with
  | 0, hi, q =>
    refine ⟨_, rfl, _, rfl, _, rfl, _, rfl, 0, u, v, rfl, hi, fun d H1 k hd => ?_⟩
    exact ⟨true, exm_cat T (i := 0) (j := 0) (by decide) (by decide), fun _ a na => ⟨_, rfl, q H1 k⟩, fun z => nomatch z⟩
  | 1, hi, q =>
    refine ⟨_, rfl, _, rfl, _, rfl, _, rfl, 1, u, v, rfl, hi, fun d H1 k hd => ?_⟩
    refine ⟨false, exm_cat T (i := 1) (j := 0) (by decide) (by decide), (fun z => nomatch z), fun _ => ?_⟩
    exact ⟨true, exm_cat T (i := 1) (j := 1) (by decide) (by decide), fun _ a na => ⟨_, rfl, q H1 k⟩, fun z => nomatch z⟩
  | 2, hi, q =>
    refine ⟨_, rfl, _, rfl, _, rfl, _, rfl, 2, u, v, rfl, hi, fun d H1 k hd => ?_⟩
    refine ⟨false, exm_cat T (i := 2) (j := 0) (by decide) (by decide), (fun z => nomatch z), fun _ => ?_⟩
    refine ⟨false, exm_cat T (i := 2) (j := 1) (by decide) (by decide), (fun z => nomatch z), fun _ => ?_⟩
    exact ⟨true, exm_cat T (i := 2) (j := 2) (by decide) (by decide), fun _ a na => ⟨_, rfl, q H1 k⟩, fun z => nomatch z⟩
  | 3, hi, q =>
    refine ⟨_, rfl, _, rfl, _, rfl, _, rfl, 3, u, v, rfl, hi, fun d H1 k hd => ?_⟩
    refine ⟨false, exm_cat T (i := 3) (j := 0) (by decide) (by decide), (fun z => nomatch z), fun _ => ?_⟩
    refine ⟨false, exm_cat T (i := 3) (j := 1) (by decide) (by decide), (fun z => nomatch z), fun _ => ?_⟩
    refine ⟨false, exm_cat T (i := 3) (j := 2) (by decide) (by decide), (fun z => nomatch z), fun _ => ?_⟩
    exact ⟨true, exm_cat T (i := 3) (j := 3) (by decide) (by decide), fun _ a na => ⟨_, rfl, q H1 k⟩, fun z => nomatch z⟩
  | 4, hi, q =>
    refine ⟨_, rfl, _, rfl, _, rfl, _, rfl, 4, u, v, rfl, hi, fun d H1 k hd => ?_⟩
    refine ⟨false, exm_cat T (i := 4) (j := 0) (by decide) (by decide), (fun z => nomatch z), fun _ => ?_⟩
    refine ⟨false, exm_cat T (i := 4) (j := 1) (by decide) (by decide), (fun z => nomatch z), fun _ => ?_⟩
    refine ⟨false, exm_cat T (i := 4) (j := 2) (by decide) (by decide), (fun z => nomatch z), fun _ => ?_⟩
    refine ⟨false, exm_cat T (i := 4) (j := 3) (by decide) (by decide), (fun z => nomatch z), fun _ => ?_⟩
    exact ⟨true, exm_cat T (i := 4) (j := 4) (by decide) (by decide), fun _ a na => ⟨_, rfl, q H1 k⟩, fun z => nomatch z⟩
  | 5, hi, q =>
    refine ⟨_, rfl, _, rfl, _, rfl, _, rfl, 5, u, v, rfl, hi, fun d H1 k hd => ?_⟩
    refine ⟨false, exm_cat T (i := 5) (j := 0) (by decide) (by decide), (fun z => nomatch z), fun _ => ?_⟩
    refine ⟨false, exm_cat T (i := 5) (j := 1) (by decide) (by decide), (fun z => nomatch z), fun _ => ?_⟩
    refine ⟨false, exm_cat T (i := 5) (j := 2) (by decide) (by decide), (fun z => nomatch z), fun _ => ?_⟩
    refine ⟨false, exm_cat T (i := 5) (j := 3) (by decide) (by decide), (fun z => nomatch z), fun _ => ?_⟩
    refine ⟨false, exm_cat T (i := 5) (j := 4) (by decide) (by decide), (fun z => nomatch z), fun _ => ?_⟩
    exact ⟨true, exm_cat T (i := 5) (j := 5) (by decide) (by decide), fun _ a na => ⟨_, rfl, q H1 k⟩, fun z => nomatch z⟩
  | 6, hi, q =>
    refine ⟨_, rfl, _, rfl, _, rfl, _, rfl, 6, u, v, rfl, hi, fun d H1 k hd => ?_⟩
    refine ⟨false, exm_cat T (i := 6) (j := 0) (by decide) (by decide), (fun z => nomatch z), fun _ => ?_⟩
    refine ⟨false, exm_cat T (i := 6) (j := 1) (by decide) (by decide), (fun z => nomatch z), fun _ => ?_⟩
    refine ⟨false, exm_cat T (i := 6) (j := 2) (by decide) (by decide), (fun z => nomatch z), fun _ => ?_⟩
    refine ⟨false, exm_cat T (i := 6) (j := 3) (by decide) (by decide), (fun z => nomatch z), fun _ => ?_⟩
    refine ⟨false, exm_cat T (i := 6) (j := 4) (by decide) (by decide), (fun z => nomatch z), fun _ => ?_⟩
    refine ⟨false, exm_cat T (i := 6) (j := 5) (by decide) (by decide), (fun z => nomatch z), fun _ => ?_⟩
    exact ⟨true, exm_cat T (i := 6) (j := 6) (by decide) (by decide), fun _ a na => ⟨_, rfl, q H1 k⟩, fun z => nomatch z⟩
  | 7, hi, q =>
    refine ⟨_, rfl, _, rfl, _, rfl, _, rfl, 7, u, v, rfl, hi, fun d H1 k hd => ?_⟩
    refine ⟨false, exm_cat T (i := 7) (j := 0) (by decide) (by decide), (fun z => nomatch z), fun _ => ?_⟩
    refine ⟨false, exm_cat T (i := 7) (j := 1) (by decide) (by decide), (fun z => nomatch z), fun _ => ?_⟩
    refine ⟨false, exm_cat T (i := 7) (j := 2) (by decide) (by decide), (fun z => nomatch z), fun _ => ?_⟩
    refine ⟨false, exm_cat T (i := 7) (j := 3) (by decide) (by decide), (fun z => nomatch z), fun _ => ?_⟩
    refine ⟨false, exm_cat T (i := 7) (j := 4) (by decide) (by decide), (fun z => nomatch z), fun _ => ?_⟩
    refine ⟨false, exm_cat T (i := 7) (j := 5) (by decide) (by decide), (fun z => nomatch z), fun _ => ?_⟩
    refine ⟨false, exm_cat T (i := 7) (j := 6) (by decide) (by decide), (fun z => nomatch z), fun _ => ?_⟩
    exact ⟨true, exm_cat T (i := 7) (j := 7) (by decide) (by decide), fun _ a na => ⟨_, rfl, q H1 k⟩, fun z => nomatch z⟩
  | 8, hi, q =>
    refine ⟨_, rfl, _, rfl, _, rfl, _, rfl, 8, u, v, rfl, hi, fun d H1 k hd => ?_⟩
    refine ⟨false, exm_cat T (i := 8) (j := 0) (by decide) (by decide), (fun z => nomatch z), fun _ => ?_⟩
    refine ⟨false, exm_cat T (i := 8) (j := 1) (by decide) (by decide), (fun z => nomatch z), fun _ => ?_⟩
    refine ⟨false, exm_cat T (i := 8) (j := 2) (by decide) (by decide), (fun z => nomatch z), fun _ => ?_⟩
    refine ⟨false, exm_cat T (i := 8) (j := 3) (by decide) (by decide), (fun z => nomatch z), fun _ => ?_⟩
    refine ⟨false, exm_cat T (i := 8) (j := 4) (by decide) (by decide), (fun z => nomatch z), fun _ => ?_⟩
    refine ⟨false, exm_cat T (i := 8) (j := 5) (by decide) (by decide), (fun z => nomatch z), fun _ => ?_⟩
    refine ⟨false, exm_cat T (i := 8) (j := 6) (by decide) (by decide), (fun z => nomatch z), fun _ => ?_⟩
    refine ⟨false, exm_cat T (i := 8) (j := 7) (by decide) (by decide), (fun z => nomatch z), fun _ => ?_⟩
    exact ⟨true, exm_cat T (i := 8) (j := 8) (by decide) (by decide), fun _ a na => ⟨_, rfl, q H1 k⟩, fun z => nomatch z⟩
  | 9, hi, q =>
    refine ⟨_, rfl, _, rfl, _, rfl, _, rfl, 9, u, v, rfl, hi, fun d H1 k hd => ?_⟩
    refine ⟨false, exm_cat T (i := 9) (j := 0) (by decide) (by decide), (fun z => nomatch z), fun _ => ?_⟩
    refine ⟨false, exm_cat T (i := 9) (j := 1) (by decide) (by decide), (fun z => nomatch z), fun _ => ?_⟩
    refine ⟨false, exm_cat T (i := 9) (j := 2) (by decide) (by decide), (fun z => nomatch z), fun _ => ?_⟩
    refine ⟨false, exm_cat T (i := 9) (j := 3) (by decide) (by decide), (fun z => nomatch z), fun _ => ?_⟩
    refine ⟨false, exm_cat T (i := 9) (j := 4) (by decide) (by decide), (fun z => nomatch z), fun _ => ?_⟩
    refine ⟨false, exm_cat T (i := 9) (j := 5) (by decide) (by decide), (fun z => nomatch z), fun _ => ?_⟩
    refine ⟨false, exm_cat T (i := 9) (j := 6) (by decide) (by decide), (fun z => nomatch z), fun _ => ?_⟩
    refine ⟨false, exm_cat T (i := 9) (j := 7) (by decide) (by decide), (fun z => nomatch z), fun _ => ?_⟩
    refine ⟨false, exm_cat T (i := 9) (j := 8) (by decide) (by decide), (fun z => nomatch z), fun _ => ?_⟩
    refine ⟨true, (ec T 9 hi).exmF T.cf_FlowError, fun _ a na => ?_, fun z => nomatch z⟩
    refine ⟨_, rfl, 9, rfl, hi, rfl, hd, fun H2 p2 k2 h2 => ⟨p2, _, rfl, .inl (SqL.of h2), rfl, rfl, _, rfl, ?_⟩⟩
    refine ⟨_, rfl, 9, rfl, hi, rfl, hd.imp_right (fun ⟨dd, fs, e1, e2⟩ => ⟨dd, fs, e1, k2 _ _ e2⟩), fun H3 p3 k3 h3 => ⟨.inl ⟨rfl, _, SqL.of h3⟩, p3, _, .bl true, 9, .bl true, rfl, rfl, SqL.of h3, rfl, rfl, rfl, rfl, kd_before, ?_⟩⟩
    exact ⟨_, rfl, q H3 (k.trans (k2.trans k3))⟩
  | 10, hi, q =>
    refine ⟨_, rfl, _, rfl, _, rfl, _, rfl, 10, u, v, rfl, hi, fun d H1 k hd => ?_⟩
    refine ⟨false, exm_cat T (i := 10) (j := 0) (by decide) (by decide), (fun z => nomatch z), fun _ => ?_⟩
    refine ⟨false, exm_cat T (i := 10) (j := 1) (by decide) (by decide), (fun z => nomatch z), fun _ => ?_⟩
    refine ⟨false, exm_cat T (i := 10) (j := 2) (by decide) (by decide), (fun z => nomatch z), fun _ => ?_⟩
    refine ⟨false, exm_cat T (i := 10) (j := 3) (by decide) (by decide), (fun z => nomatch z), fun _ => ?_⟩
    refine ⟨false, exm_cat T (i := 10) (j := 4) (by decide) (by decide), (fun z => nomatch z), fun _ => ?_⟩
    refine ⟨false, exm_cat T (i := 10) (j := 5) (by decide) (by decide), (fun z => nomatch z), fun _ => ?_⟩
    refine ⟨false, exm_cat T (i := 10) (j := 6) (by decide) (by decide), (fun z => nomatch z), fun _ => ?_⟩
    refine ⟨false, exm_cat T (i := 10) (j := 7) (by decide) (by decide), (fun z => nomatch z), fun _ => ?_⟩
    refine ⟨false, exm_cat T (i := 10) (j := 8) (by decide) (by decide), (fun z => nomatch z), fun _ => ?_⟩
    refine ⟨true, (ec T 10 hi).exmF T.cf_FlowError, fun _ a na => ?_, fun z => nomatch z⟩
    refine ⟨_, rfl, 10, rfl, hi, rfl, hd, fun H2 p2 k2 h2 => ⟨p2, _, rfl, .inl (SqL.of h2), rfl, rfl, _, rfl, ?_⟩⟩
    refine ⟨_, rfl, 10, rfl, hi, rfl, hd.imp_right (fun ⟨dd, fs, e1, e2⟩ => ⟨dd, fs, e1, k2 _ _ e2⟩), fun H3 p3 k3 h3 => ⟨.inl ⟨rfl, _, SqL.of h3⟩, p3, _, .bl true, 10, .bl true, rfl, rfl, SqL.of h3, rfl, rfl, rfl, rfl, kd_before, ?_⟩⟩
    exact ⟨_, rfl, q H3 (k.trans (k2.trans k3))⟩
  | 11, hi, q =>
    refine ⟨_, rfl, _, rfl, _, rfl, _, rfl, 11, u, v, rfl, hi, fun d H1 k hd => ?_⟩
    refine ⟨false, exm_cat T (i := 11) (j := 0) (by decide) (by decide), (fun z => nomatch z), fun _ => ?_⟩
    refine ⟨false, exm_cat T (i := 11) (j := 1) (by decide) (by decide), (fun z => nomatch z), fun _ => ?_⟩
    refine ⟨false, exm_cat T (i := 11) (j := 2) (by decide) (by decide), (fun z => nomatch z), fun _ => ?_⟩
    refine ⟨false, exm_cat T (i := 11) (j := 3) (by decide) (by decide), (fun z => nomatch z), fun _ => ?_⟩
    refine ⟨false, exm_cat T (i := 11) (j := 4) (by decide) (by decide), (fun z => nomatch z), fun _ => ?_⟩
    refine ⟨false, exm_cat T (i := 11) (j := 5) (by decide) (by decide), (fun z => nomatch z), fun _ => ?_⟩
    refine ⟨false, exm_cat T (i := 11) (j := 6) (by decide) (by decide), (fun z => nomatch z), fun _ => ?_⟩
    refine ⟨false, exm_cat T (i := 11) (j := 7) (by decide) (by decide), (fun z => nomatch z), fun _ => ?_⟩
    refine ⟨false, exm_cat T (i := 11) (j := 8) (by decide) (by decide), (fun z => nomatch z), fun _ => ?_⟩
    refine ⟨true, (ec T 11 hi).exmF T.cf_FlowError, fun _ a na => ?_, fun z => nomatch z⟩
    refine ⟨_, rfl, 11, rfl, hi, rfl, hd, fun H2 p2 k2 h2 => ⟨p2, _, rfl, .inl (SqL.of h2), rfl, rfl, _, rfl, ?_⟩⟩
    refine ⟨_, rfl, 11, rfl, hi, rfl, hd.imp_right (fun ⟨dd, fs, e1, e2⟩ => ⟨dd, fs, e1, k2 _ _ e2⟩), fun H3 p3 k3 h3 => ⟨.inl ⟨rfl, _, SqL.of h3⟩, p3, _, .bl true, 11, .bl true, rfl, rfl, SqL.of h3, rfl, rfl, rfl, rfl, kd_before, ?_⟩⟩
    exact ⟨_, rfl, q H3 (k.trans (k2.trans k3))⟩
  | 12, hi, q =>
    refine ⟨_, rfl, _, rfl, _, rfl, _, rfl, 12, u, v, rfl, hi, fun d H1 k hd => ?_⟩
    refine ⟨false, exm_cat T (i := 12) (j := 0) (by decide) (by decide), (fun z => nomatch z), fun _ => ?_⟩
    refine ⟨false, exm_cat T (i := 12) (j := 1) (by decide) (by decide), (fun z => nomatch z), fun _ => ?_⟩
    refine ⟨false, exm_cat T (i := 12) (j := 2) (by decide) (by decide), (fun z => nomatch z), fun _ => ?_⟩
    refine ⟨false, exm_cat T (i := 12) (j := 3) (by decide) (by decide), (fun z => nomatch z), fun _ => ?_⟩
    refine ⟨false, exm_cat T (i := 12) (j := 4) (by decide) (by decide), (fun z => nomatch z), fun _ => ?_⟩
    refine ⟨false, exm_cat T (i := 12) (j := 5) (by decide) (by decide), (fun z => nomatch z), fun _ => ?_⟩
    refine ⟨false, exm_cat T (i := 12) (j := 6) (by decide) (by decide), (fun z => nomatch z), fun _ => ?_⟩
    refine ⟨false, exm_cat T (i := 12) (j := 7) (by decide) (by decide), (fun z => nomatch z), fun _ => ?_⟩
    refine ⟨false, exm_cat T (i := 12) (j := 8) (by decide) (by decide), (fun z => nomatch z), fun _ => ?_⟩
    refine ⟨true, (ec T 12 hi).exmF T.cf_FlowError, fun _ a na => ?_, fun z => nomatch z⟩
    refine ⟨_, rfl, 12, rfl, hi, rfl, hd, fun H2 p2 k2 h2 => ⟨p2, _, rfl, .inl (SqL.of h2), rfl, rfl, _, rfl, ?_⟩⟩
    refine ⟨_, rfl, 12, rfl, hi, rfl, hd.imp_right (fun ⟨dd, fs, e1, e2⟩ => ⟨dd, fs, e1, k2 _ _ e2⟩), fun H3 p3 k3 h3 => ⟨.inl ⟨rfl, _, SqL.of h3⟩, p3, _, .bl true, 12, .bl true, rfl, rfl, SqL.of h3, rfl, rfl, rfl, rfl, kd_before, ?_⟩⟩
    exact ⟨_, rfl, q H3 (k.trans (k2.trans k3))⟩
  | 13, hi, q =>
    refine ⟨_, rfl, _, rfl, _, rfl, _, rfl, 13, u, v, rfl, hi, fun d H1 k hd => ?_⟩
    refine ⟨false, exm_cat T (i := 13) (j := 0) (by decide) (by decide), (fun z => nomatch z), fun _ => ?_⟩
    refine ⟨false, exm_cat T (i := 13) (j := 1) (by decide) (by decide), (fun z => nomatch z), fun _ => ?_⟩
    refine ⟨false, exm_cat T (i := 13) (j := 2) (by decide) (by decide), (fun z => nomatch z), fun _ => ?_⟩
    refine ⟨false, exm_cat T (i := 13) (j := 3) (by decide) (by decide), (fun z => nomatch z), fun _ => ?_⟩
    refine ⟨false, exm_cat T (i := 13) (j := 4) (by decide) (by decide), (fun z => nomatch z), fun _ => ?_⟩
    refine ⟨false, exm_cat T (i := 13) (j := 5) (by decide) (by decide), (fun z => nomatch z), fun _ => ?_⟩
    refine ⟨false, exm_cat T (i := 13) (j := 6) (by decide) (by decide), (fun z => nomatch z), fun _ => ?_⟩
    refine ⟨false, exm_cat T (i := 13) (j := 7) (by decide) (by decide), (fun z => nomatch z), fun _ => ?_⟩
    refine ⟨false, exm_cat T (i := 13) (j := 8) (by decide) (by decide), (fun z => nomatch z), fun _ => ?_⟩
    refine ⟨true, (ec T 13 hi).exmF T.cf_FlowError, fun _ a na => ?_, fun z => nomatch z⟩
    refine ⟨_, rfl, 13, rfl, hi, rfl, hd, fun H2 p2 k2 h2 => ⟨p2, _, rfl, .inl (SqL.of h2), rfl, rfl, _, rfl, ?_⟩⟩
    refine ⟨_, rfl, 13, rfl, hi, rfl, hd.imp_right (fun ⟨dd, fs, e1, e2⟩ => ⟨dd, fs, e1, k2 _ _ e2⟩), fun H3 p3 k3 h3 => ⟨.inl ⟨rfl, _, SqL.of h3⟩, p3, _, .bl true, 13, .bl true, rfl, rfl, SqL.of h3, rfl, rfl, rfl, rfl, kd_before, ?_⟩⟩
    exact ⟨_, rfl, q H3 (k.trans (k2.trans k3))⟩
  | 14, hi, q =>
    refine ⟨_, rfl, _, rfl, _, rfl, _, rfl, 14, u, v, rfl, hi, fun d H1 k hd => ?_⟩
    refine ⟨false, exm_cat T (i := 14) (j := 0) (by decide) (by decide), (fun z => nomatch z), fun _ => ?_⟩
    refine ⟨false, exm_cat T (i := 14) (j := 1) (by decide) (by decide), (fun z => nomatch z), fun _ => ?_⟩
    refine ⟨false, exm_cat T (i := 14) (j := 2) (by decide) (by decide), (fun z => nomatch z), fun _ => ?_⟩
    refine ⟨false, exm_cat T (i := 14) (j := 3) (by decide) (by decide), (fun z => nomatch z), fun _ => ?_⟩
    refine ⟨false, exm_cat T (i := 14) (j := 4) (by decide) (by decide), (fun z => nomatch z), fun _ => ?_⟩
    refine ⟨false, exm_cat T (i := 14) (j := 5) (by decide) (by decide), (fun z => nomatch z), fun _ => ?_⟩
    refine ⟨false, exm_cat T (i := 14) (j := 6) (by decide) (by decide), (fun z => nomatch z), fun _ => ?_⟩
    refine ⟨false, exm_cat T (i := 14) (j := 7) (by decide) (by decide), (fun z => nomatch z), fun _ => ?_⟩
    refine ⟨false, exm_cat T (i := 14) (j := 8) (by decide) (by decide), (fun z => nomatch z), fun _ => ?_⟩
    refine ⟨true, (ec T 14 hi).exmF T.cf_FlowError, fun _ a na => ?_, fun z => nomatch z⟩
    refine ⟨_, rfl, 14, rfl, hi, rfl, hd, fun H2 p2 k2 h2 => ⟨p2, _, rfl, .inl (SqL.of h2), rfl, rfl, _, rfl, ?_⟩⟩
    refine ⟨_, rfl, 14, rfl, hi, rfl, hd.imp_right (fun ⟨dd, fs, e1, e2⟩ => ⟨dd, fs, e1, k2 _ _ e2⟩), fun H3 p3 k3 h3 => ⟨.inl ⟨rfl, _, SqL.of h3⟩, p3, _, .bl true, 14, .bl true, rfl, rfl, SqL.of h3, rfl, rfl, rfl, rfl, kd_before, ?_⟩⟩
    exact ⟨_, rfl, q H3 (k.trans (k2.trans k3))⟩
  | 15, hi, q =>
    refine ⟨_, rfl, _, rfl, _, rfl, _, rfl, 15, u, v, rfl, hi, fun d H1 k hd => ?_⟩
    refine ⟨false, exm_cat T (i := 15) (j := 0) (by decide) (by decide), (fun z => nomatch z), fun _ => ?_⟩
    refine ⟨false, exm_cat T (i := 15) (j := 1) (by decide) (by decide), (fun z => nomatch z), fun _ => ?_⟩
    refine ⟨false, exm_cat T (i := 15) (j := 2) (by decide) (by decide), (fun z => nomatch z), fun _ => ?_⟩
    refine ⟨false, exm_cat T (i := 15) (j := 3) (by decide) (by decide), (fun z => nomatch z), fun _ => ?_⟩
    refine ⟨false, exm_cat T (i := 15) (j := 4) (by decide) (by decide), (fun z => nomatch z), fun _ => ?_⟩
    refine ⟨false, exm_cat T (i := 15) (j := 5) (by decide) (by decide), (fun z => nomatch z), fun _ => ?_⟩
    refine ⟨false, exm_cat T (i := 15) (j := 6) (by decide) (by decide), (fun z => nomatch z), fun _ => ?_⟩
    refine ⟨false, exm_cat T (i := 15) (j := 7) (by decide) (by decide), (fun z => nomatch z), fun _ => ?_⟩
    refine ⟨false, exm_cat T (i := 15) (j := 8) (by decide) (by decide), (fun z => nomatch z), fun _ => ?_⟩
    refine ⟨true, (ec T 15 hi).exmF T.cf_FlowError, fun _ a na => ?_, fun z => nomatch z⟩
    refine ⟨_, rfl, 15, rfl, hi, rfl, hd, fun H2 p2 k2 h2 => ⟨p2, _, rfl, .inl (SqL.of h2), rfl, rfl, _, rfl, ?_⟩⟩
    refine ⟨_, rfl, 15, rfl, hi, rfl, hd.imp_right (fun ⟨dd, fs, e1, e2⟩ => ⟨dd, fs, e1, k2 _ _ e2⟩), fun H3 p3 k3 h3 => ⟨.inl ⟨rfl, _, SqL.of h3⟩, p3, _, .bl true, 15, .bl true, rfl, rfl, SqL.of h3, rfl, rfl, rfl, rfl, kd_before, ?_⟩⟩
    exact ⟨_, rfl, q H3 (k.trans (k2.trans k3))⟩
  | 16, hi, q =>
    refine ⟨_, rfl, _, rfl, _, rfl, _, rfl, 16, u, v, rfl, hi, fun d H1 k hd => ?_⟩
    refine ⟨false, exm_cat T (i := 16) (j := 0) (by decide) (by decide), (fun z => nomatch z), fun _ => ?_⟩
    refine ⟨false, exm_cat T (i := 16) (j := 1) (by decide) (by decide), (fun z => nomatch z), fun _ => ?_⟩
    refine ⟨false, exm_cat T (i := 16) (j := 2) (by decide) (by decide), (fun z => nomatch z), fun _ => ?_⟩
    refine ⟨false, exm_cat T (i := 16) (j := 3) (by decide) (by decide), (fun z => nomatch z), fun _ => ?_⟩
    refine ⟨false, exm_cat T (i := 16) (j := 4) (by decide) (by decide), (fun z => nomatch z), fun _ => ?_⟩
    refine ⟨false, exm_cat T (i := 16) (j := 5) (by decide) (by decide), (fun z => nomatch z), fun _ => ?_⟩
    refine ⟨false, exm_cat T (i := 16) (j := 6) (by decide) (by decide), (fun z => nomatch z), fun _ => ?_⟩
    refine ⟨false, exm_cat T (i := 16) (j := 7) (by decide) (by decide), (fun z => nomatch z), fun _ => ?_⟩
    refine ⟨false, exm_cat T (i := 16) (j := 8) (by decide) (by decide), (fun z => nomatch z), fun _ => ?_⟩
    refine ⟨true, (ec T 16 hi).exmF T.cf_FlowError, fun _ a na => ?_, fun z => nomatch z⟩
    refine ⟨_, rfl, 16, rfl, hi, rfl, hd, fun H2 p2 k2 h2 => ⟨p2, _, rfl, .inl (SqL.of h2), rfl, rfl, _, rfl, ?_⟩⟩
    refine ⟨_, rfl, 16, rfl, hi, rfl, hd.imp_right (fun ⟨dd, fs, e1, e2⟩ => ⟨dd, fs, e1, k2 _ _ e2⟩), fun H3 p3 k3 h3 => ⟨.inl ⟨rfl, _, SqL.of h3⟩, p3, _, .bl true, 16, .bl true, rfl, rfl, SqL.of h3, rfl, rfl, rfl, rfl, kd_before, ?_⟩⟩
    exact ⟨_, rfl, q H3 (k.trans (k2.trans k3))⟩
  | _ + 17, hi, _ => exact absurd hi (by omega)
theorem ok_caught_late (T : Txt K mg) : FnOk P w K mg base CX0 5 T.a_caught_late T.d_caught_late P_caught_late (sp_caught) := by
  refine T.F_caught_late.ok sc_caught_late (fun vs H Q E h => by obtain ⟨i, u, v, rfl, _⟩ := h; rfl) (fun cdv A outer s H vs Q E hr h => ?_)
  refine ⟨_, (pss_cons (ps_set (i := 3) sc_caught_late.nd rfl (Or.inl rfl) (pe_un un_neg pe_int))
    (pss_cons (Xt.ps_try_mix rfl rfl sc_caught_late.nd Xt.takes0 (fun W pn xe tk pp => (pss_one (ps_expr (pe_callS (ok_raised T) (hr.mono (by omega)) (by rfl) T.g_raised T.F_raised.kp T.b_raised (fun σ => L2N.passAt tk σ) (pa_cons (pv 0) (pa_cons (pv 1) (pa_cons (pv 2) pa_nil)))))))
    (Xt.HdsX.bare ⟨rfl, by decide, (.inl T.g_NoProgram)⟩ (fun a oe cls d pn hz hf => (pss_one (ps_set (i := 3) sc_caught_late.nd rfl (Or.inl rfl) pe_int)))
    (Xt.HdsX.bare ⟨rfl, by decide, (.inl T.g_InvalidCommand)⟩ (fun a oe cls d pn hz hf => (pss_one (ps_set (i := 3) sc_caught_late.nd rfl (Or.inl rfl) pe_int)))
    (Xt.HdsX.bare ⟨rfl, by decide, (.inl T.g_InvalidText)⟩ (fun a oe cls d pn hz hf => (pss_one (ps_set (i := 3) sc_caught_late.nd rfl (Or.inl rfl) pe_int)))
    (Xt.HdsX.bare ⟨rfl, by decide, (.inl T.g_NoStep)⟩ (fun a oe cls d pn hz hf => (pss_one (ps_set (i := 3) sc_caught_late.nd rfl (Or.inl rfl) pe_int)))
    (Xt.HdsX.bare ⟨rfl, by decide, (.inl T.g_NotPossible)⟩ (fun a oe cls d pn hz hf => (pss_one (ps_set (i := 3) sc_caught_late.nd rfl (Or.inl rfl) pe_int)))
    (Xt.HdsX.bare ⟨rfl, by decide, (.inl T.g_IsWithin)⟩ (fun a oe cls d pn hz hf => (pss_one (ps_set (i := 3) sc_caught_late.nd rfl (Or.inl rfl) pe_int)))
    (Xt.HdsX.bare ⟨rfl, by decide, (.inl T.g_NotComparable)⟩ (fun a oe cls d pn hz hf => (pss_one (ps_set (i := 3) sc_caught_late.nd rfl (Or.inl rfl) pe_int)))
    (Xt.HdsX.bare ⟨rfl, by decide, (.inl T.g_TooLong)⟩ (fun a oe cls d pn hz hf => (pss_one (ps_set (i := 3) sc_caught_late.nd rfl (Or.inl rfl) pe_int)))
    (Xt.HdsX.named (i := 4) ⟨rfl, by decide, (.inl T.g_FlowError)⟩ rfl rfl (fun a oe cls d pn hz hf => (pss_one (ps_set (i := 3) sc_caught_late.nd rfl (Or.inl rfl) (pe_ifExp (pt_cmpR (show OpR _ (compareOp .In) (rIn K false) from op_in_seq) pe_bl (Xt.pe_callP (okP_kinds T) (Xt.room_suite (k := 1) (hr.mono (by decide)) _) hz hf (by rfl) List.mem_cons_self (by rfl) T.g_kinds T.F_kinds.kp T.b_kinds (pa_cons (pv 4) pa_nil)) (by rfl)) (show PE _ _ (tBM K "list" (rIndex K) _ _) from (pe_bm PySem.F.plainAttrs_list PySem.F.slot_list_index PySem.F.type_list_index mt_index (Xt.pe_callP (okP_kinds T) (Xt.room_suite (k := 1) (hr.mono (by decide)) _) hz hf (by rfl) List.mem_cons_self (by rfl) T.g_kinds T.F_kinds.kp T.b_kinds (pa_cons (pv 4) pa_nil)) (pa_cons pe_bl pa_nil))) (pe_un un_neg pe_int)))))
    Xt.HdsX.nil))))))))))
    (pss_one (ps_ret (pv 3))))), ?_⟩
  obtain ⟨i, u, v, rfl, hi, q⟩ := h
  match i, hi, q with
  | 0, hi, q =>
    refine ⟨_, rfl, _, rfl, _, rfl, _, rfl, 0, u, v, rfl, hi, fun d H1 k hd => ?_⟩
    refine ⟨false, exm_cat T (i := 0) (j := 16) (by decide) (by decide), (fun z => nomatch z), fun _ => ?_⟩
    refine ⟨false, exm_cat T (i := 0) (j := 15) (by decide) (by decide), (fun z => nomatch z), fun _ => ?_⟩
    refine ⟨false, exm_cat T (i := 0) (j := 14) (by decide) (by decide), (fun z => nomatch z), fun _ => ?_⟩
    refine ⟨false, exm_cat T (i := 0) (j := 13) (by decide) (by decide), (fun z => nomatch z), fun _ => ?_⟩
    refine ⟨false, exm_cat T (i := 0) (j := 12) (by decide) (by decide), (fun z => nomatch z), fun _ => ?_⟩
    refine ⟨false, exm_cat T (i := 0) (j := 11) (by decide) (by decide), (fun z => nomatch z), fun _ => ?_⟩
    refine ⟨false, exm_cat T (i := 0) (j := 10) (by decide) (by decide), (fun z => nomatch z), fun _ => ?_⟩
    refine ⟨false, exm_cat T (i := 0) (j := 9) (by decide) (by decide), (fun z => nomatch z), fun _ => ?_⟩
    refine ⟨true, (ec T 0 hi).exmF T.cf_FlowError, fun _ a na => ?_, fun z => nomatch z⟩
    refine ⟨_, rfl, 0, rfl, hi, rfl, hd, fun H2 p2 k2 h2 => ⟨p2, _, rfl, .inl (SqL.of h2), rfl, rfl, _, rfl, ?_⟩⟩
    refine ⟨_, rfl, 0, rfl, hi, rfl, hd.imp_right (fun ⟨dd, fs, e1, e2⟩ => ⟨dd, fs, e1, k2 _ _ e2⟩), fun H3 p3 k3 h3 => ⟨.inl ⟨rfl, _, SqL.of h3⟩, p3, _, .bl true, 0, .bl true, rfl, rfl, SqL.of h3, rfl, rfl, rfl, rfl, kd_before, ?_⟩⟩
    exact ⟨_, rfl, q H3 (k.trans (k2.trans k3))⟩
  | 1, hi, q =>
    refine ⟨_, rfl, _, rfl, _, rfl, _, rfl, 1, u, v, rfl, hi, fun d H1 k hd => ?_⟩
    refine ⟨false, exm_cat T (i := 1) (j := 16) (by decide) (by decide), (fun z => nomatch z), fun _ => ?_⟩
    refine ⟨false, exm_cat T (i := 1) (j := 15) (by decide) (by decide), (fun z => nomatch z), fun _ => ?_⟩
    refine ⟨false, exm_cat T (i := 1) (j := 14) (by decide) (by decide), (fun z => nomatch z), fun _ => ?_⟩
    refine ⟨false, exm_cat T (i := 1) (j := 13) (by decide) (by decide), (fun z => nomatch z), fun _ => ?_⟩
    refine ⟨false, exm_cat T (i := 1) (j := 12) (by decide) (by decide), (fun z => nomatch z), fun _ => ?_⟩
    refine ⟨false, exm_cat T (i := 1) (j := 11) (by decide) (by decide), (fun z => nomatch z), fun _ => ?_⟩
    refine ⟨false, exm_cat T (i := 1) (j := 10) (by decide) (by decide), (fun z => nomatch z), fun _ => ?_⟩
    refine ⟨false, exm_cat T (i := 1) (j := 9) (by decide) (by decide), (fun z => nomatch z), fun _ => ?_⟩
    refine ⟨true, (ec T 1 hi).exmF T.cf_FlowError, fun _ a na => ?_, fun z => nomatch z⟩
    refine ⟨_, rfl, 1, rfl, hi, rfl, hd, fun H2 p2 k2 h2 => ⟨p2, _, rfl, .inl (SqL.of h2), rfl, rfl, _, rfl, ?_⟩⟩
    refine ⟨_, rfl, 1, rfl, hi, rfl, hd.imp_right (fun ⟨dd, fs, e1, e2⟩ => ⟨dd, fs, e1, k2 _ _ e2⟩), fun H3 p3 k3 h3 => ⟨.inl ⟨rfl, _, SqL.of h3⟩, p3, _, .bl true, 1, .bl true, rfl, rfl, SqL.of h3, rfl, rfl, rfl, rfl, kd_before, ?_⟩⟩
    exact ⟨_, rfl, q H3 (k.trans (k2.trans k3))⟩
  | 2, hi, q =>
    refine ⟨_, rfl, _, rfl, _, rfl, _, rfl, 2, u, v, rfl, hi, fun d H1 k hd => ?_⟩
    refine ⟨false, exm_cat T (i := 2) (j := 16) (by decide) (by decide), (fun z => nomatch z), fun _ => ?_⟩
    refine ⟨false, exm_cat T (i := 2) (j := 15) (by decide) (by decide), (fun z => nomatch z), fun _ => ?_⟩
    refine ⟨false, exm_cat T (i := 2) (j := 14) (by decide) (by decide), (fun z => nomatch z), fun _ => ?_⟩
    refine ⟨false, exm_cat T (i := 2) (j := 13) (by decide) (by decide), (fun z => nomatch z), fun _ => ?_⟩
    refine ⟨false, exm_cat T (i := 2) (j := 12) (by decide) (by decide), (fun z => nomatch z), fun _ => ?_⟩
    refine ⟨false, exm_cat T (i := 2) (j := 11) (by decide) (by decide), (fun z => nomatch z), fun _ => ?_⟩
    refine ⟨false, exm_cat T (i := 2) (j := 10) (by decide) (by decide), (fun z => nomatch z), fun _ => ?_⟩
    refine ⟨false, exm_cat T (i := 2) (j := 9) (by decide) (by decide), (fun z => nomatch z), fun _ => ?_⟩
    refine ⟨true, (ec T 2 hi).exmF T.cf_FlowError, fun _ a na => ?_, fun z => nomatch z⟩
    refine ⟨_, rfl, 2, rfl, hi, rfl, hd, fun H2 p2 k2 h2 => ⟨p2, _, rfl, .inl (SqL.of h2), rfl, rfl, _, rfl, ?_⟩⟩
    refine ⟨_, rfl, 2, rfl, hi, rfl, hd.imp_right (fun ⟨dd, fs, e1, e2⟩ => ⟨dd, fs, e1, k2 _ _ e2⟩), fun H3 p3 k3 h3 => ⟨.inl ⟨rfl, _, SqL.of h3⟩, p3, _, .bl true, 2, .bl true, rfl, rfl, SqL.of h3, rfl, rfl, rfl, rfl, kd_before, ?_⟩⟩
    exact ⟨_, rfl, q H3 (k.trans (k2.trans k3))⟩
  | 3, hi, q =>
    refine ⟨_, rfl, _, rfl, _, rfl, _, rfl, 3, u, v, rfl, hi, fun d H1 k hd => ?_⟩
    refine ⟨false, exm_cat T (i := 3) (j := 16) (by decide) (by decide), (fun z => nomatch z), fun _ => ?_⟩
    refine ⟨false, exm_cat T (i := 3) (j := 15) (by decide) (by decide), (fun z => nomatch z), fun _ => ?_⟩
    refine ⟨false, exm_cat T (i := 3) (j := 14) (by decide) (by decide), (fun z => nomatch z), fun _ => ?_⟩
    refine ⟨false, exm_cat T (i := 3) (j := 13) (by decide) (by decide), (fun z => nomatch z), fun _ => ?_⟩
    refine ⟨false, exm_cat T (i := 3) (j := 12) (by decide) (by decide), (fun z => nomatch z), fun _ => ?_⟩
    refine ⟨false, exm_cat T (i := 3) (j := 11) (by decide) (by decide), (fun z => nomatch z), fun _ => ?_⟩
    refine ⟨false, exm_cat T (i := 3) (j := 10) (by decide) (by decide), (fun z => nomatch z), fun _ => ?_⟩
    refine ⟨false, exm_cat T (i := 3) (j := 9) (by decide) (by decide), (fun z => nomatch z), fun _ => ?_⟩
    refine ⟨true, (ec T 3 hi).exmF T.cf_FlowError, fun _ a na => ?_, fun z => nomatch z⟩
    refine ⟨_, rfl, 3, rfl, hi, rfl, hd, fun H2 p2 k2 h2 => ⟨p2, _, rfl, .inl (SqL.of h2), rfl, rfl, _, rfl, ?_⟩⟩
    refine ⟨_, rfl, 3, rfl, hi, rfl, hd.imp_right (fun ⟨dd, fs, e1, e2⟩ => ⟨dd, fs, e1, k2 _ _ e2⟩), fun H3 p3 k3 h3 => ⟨.inl ⟨rfl, _, SqL.of h3⟩, p3, _, .bl true, 3, .bl true, rfl, rfl, SqL.of h3, rfl, rfl, rfl, rfl, kd_before, ?_⟩⟩
    exact ⟨_, rfl, q H3 (k.trans (k2.trans k3))⟩
  | 4, hi, q =>
    refine ⟨_, rfl, _, rfl, _, rfl, _, rfl, 4, u, v, rfl, hi, fun d H1 k hd => ?_⟩
    refine ⟨false, exm_cat T (i := 4) (j := 16) (by decide) (by decide), (fun z => nomatch z), fun _ => ?_⟩
    refine ⟨false, exm_cat T (i := 4) (j := 15) (by decide) (by decide), (fun z => nomatch z), fun _ => ?_⟩
    refine ⟨false, exm_cat T (i := 4) (j := 14) (by decide) (by decide), (fun z => nomatch z), fun _ => ?_⟩
    refine ⟨false, exm_cat T (i := 4) (j := 13) (by decide) (by decide), (fun z => nomatch z), fun _ => ?_⟩
    refine ⟨false, exm_cat T (i := 4) (j := 12) (by decide) (by decide), (fun z => nomatch z), fun _ => ?_⟩
    refine ⟨false, exm_cat T (i := 4) (j := 11) (by decide) (by decide), (fun z => nomatch z), fun _ => ?_⟩
    refine ⟨false, exm_cat T (i := 4) (j := 10) (by decide) (by decide), (fun z => nomatch z), fun _ => ?_⟩
    refine ⟨false, exm_cat T (i := 4) (j := 9) (by decide) (by decide), (fun z => nomatch z), fun _ => ?_⟩
    refine ⟨true, (ec T 4 hi).exmF T.cf_FlowError, fun _ a na => ?_, fun z => nomatch z⟩
    refine ⟨_, rfl, 4, rfl, hi, rfl, hd, fun H2 p2 k2 h2 => ⟨p2, _, rfl, .inl (SqL.of h2), rfl, rfl, _, rfl, ?_⟩⟩
    refine ⟨_, rfl, 4, rfl, hi, rfl, hd.imp_right (fun ⟨dd, fs, e1, e2⟩ => ⟨dd, fs, e1, k2 _ _ e2⟩), fun H3 p3 k3 h3 => ⟨.inl ⟨rfl, _, SqL.of h3⟩, p3, _, .bl true, 4, .bl true, rfl, rfl, SqL.of h3, rfl, rfl, rfl, rfl, kd_before, ?_⟩⟩
    exact ⟨_, rfl, q H3 (k.trans (k2.trans k3))⟩
  | 5, hi, q =>
    refine ⟨_, rfl, _, rfl, _, rfl, _, rfl, 5, u, v, rfl, hi, fun d H1 k hd => ?_⟩
    refine ⟨false, exm_cat T (i := 5) (j := 16) (by decide) (by decide), (fun z => nomatch z), fun _ => ?_⟩
    refine ⟨false, exm_cat T (i := 5) (j := 15) (by decide) (by decide), (fun z => nomatch z), fun _ => ?_⟩
    refine ⟨false, exm_cat T (i := 5) (j := 14) (by decide) (by decide), (fun z => nomatch z), fun _ => ?_⟩
    refine ⟨false, exm_cat T (i := 5) (j := 13) (by decide) (by decide), (fun z => nomatch z), fun _ => ?_⟩
    refine ⟨false, exm_cat T (i := 5) (j := 12) (by decide) (by decide), (fun z => nomatch z), fun _ => ?_⟩
    refine ⟨false, exm_cat T (i := 5) (j := 11) (by decide) (by decide), (fun z => nomatch z), fun _ => ?_⟩
    refine ⟨false, exm_cat T (i := 5) (j := 10) (by decide) (by decide), (fun z => nomatch z), fun _ => ?_⟩
    refine ⟨false, exm_cat T (i := 5) (j := 9) (by decide) (by decide), (fun z => nomatch z), fun _ => ?_⟩
    refine ⟨true, (ec T 5 hi).exmF T.cf_FlowError, fun _ a na => ?_, fun z => nomatch z⟩
    refine ⟨_, rfl, 5, rfl, hi, rfl, hd, fun H2 p2 k2 h2 => ⟨p2, _, rfl, .inl (SqL.of h2), rfl, rfl, _, rfl, ?_⟩⟩
    refine ⟨_, rfl, 5, rfl, hi, rfl, hd.imp_right (fun ⟨dd, fs, e1, e2⟩ => ⟨dd, fs, e1, k2 _ _ e2⟩), fun H3 p3 k3 h3 => ⟨.inl ⟨rfl, _, SqL.of h3⟩, p3, _, .bl true, 5, .bl true, rfl, rfl, SqL.of h3, rfl, rfl, rfl, rfl, kd_before, ?_⟩⟩
    exact ⟨_, rfl, q H3 (k.trans (k2.trans k3))⟩
  | 6, hi, q =>
    refine ⟨_, rfl, _, rfl, _, rfl, _, rfl, 6, u, v, rfl, hi, fun d H1 k hd => ?_⟩
    refine ⟨false, exm_cat T (i := 6) (j := 16) (by decide) (by decide), (fun z => nomatch z), fun _ => ?_⟩
    refine ⟨false, exm_cat T (i := 6) (j := 15) (by decide) (by decide), (fun z => nomatch z), fun _ => ?_⟩
    refine ⟨false, exm_cat T (i := 6) (j := 14) (by decide) (by decide), (fun z => nomatch z), fun _ => ?_⟩
    refine ⟨false, exm_cat T (i := 6) (j := 13) (by decide) (by decide), (fun z => nomatch z), fun _ => ?_⟩
    refine ⟨false, exm_cat T (i := 6) (j := 12) (by decide) (by decide), (fun z => nomatch z), fun _ => ?_⟩
    refine ⟨false, exm_cat T (i := 6) (j := 11) (by decide) (by decide), (fun z => nomatch z), fun _ => ?_⟩
    refine ⟨false, exm_cat T (i := 6) (j := 10) (by decide) (by decide), (fun z => nomatch z), fun _ => ?_⟩
    refine ⟨false, exm_cat T (i := 6) (j := 9) (by decide) (by decide), (fun z => nomatch z), fun _ => ?_⟩
    refine ⟨true, (ec T 6 hi).exmF T.cf_FlowError, fun _ a na => ?_, fun z => nomatch z⟩
    refine ⟨_, rfl, 6, rfl, hi, rfl, hd, fun H2 p2 k2 h2 => ⟨p2, _, rfl, .inl (SqL.of h2), rfl, rfl, _, rfl, ?_⟩⟩
    refine ⟨_, rfl, 6, rfl, hi, rfl, hd.imp_right (fun ⟨dd, fs, e1, e2⟩ => ⟨dd, fs, e1, k2 _ _ e2⟩), fun H3 p3 k3 h3 => ⟨.inl ⟨rfl, _, SqL.of h3⟩, p3, _, .bl true, 6, .bl true, rfl, rfl, SqL.of h3, rfl, rfl, rfl, rfl, kd_before, ?_⟩⟩
    exact ⟨_, rfl, q H3 (k.trans (k2.trans k3))⟩
  | 7, hi, q =>
    refine ⟨_, rfl, _, rfl, _, rfl, _, rfl, 7, u, v, rfl, hi, fun d H1 k hd => ?_⟩
    refine ⟨false, exm_cat T (i := 7) (j := 16) (by decide) (by decide), (fun z => nomatch z), fun _ => ?_⟩
    refine ⟨false, exm_cat T (i := 7) (j := 15) (by decide) (by decide), (fun z => nomatch z), fun _ => ?_⟩
    refine ⟨false, exm_cat T (i := 7) (j := 14) (by decide) (by decide), (fun z => nomatch z), fun _ => ?_⟩
    refine ⟨false, exm_cat T (i := 7) (j := 13) (by decide) (by decide), (fun z => nomatch z), fun _ => ?_⟩
    refine ⟨false, exm_cat T (i := 7) (j := 12) (by decide) (by decide), (fun z => nomatch z), fun _ => ?_⟩
    refine ⟨false, exm_cat T (i := 7) (j := 11) (by decide) (by decide), (fun z => nomatch z), fun _ => ?_⟩
    refine ⟨false, exm_cat T (i := 7) (j := 10) (by decide) (by decide), (fun z => nomatch z), fun _ => ?_⟩
    refine ⟨false, exm_cat T (i := 7) (j := 9) (by decide) (by decide), (fun z => nomatch z), fun _ => ?_⟩
    refine ⟨true, (ec T 7 hi).exmF T.cf_FlowError, fun _ a na => ?_, fun z => nomatch z⟩
    refine ⟨_, rfl, 7, rfl, hi, rfl, hd, fun H2 p2 k2 h2 => ⟨p2, _, rfl, .inl (SqL.of h2), rfl, rfl, _, rfl, ?_⟩⟩
    refine ⟨_, rfl, 7, rfl, hi, rfl, hd.imp_right (fun ⟨dd, fs, e1, e2⟩ => ⟨dd, fs, e1, k2 _ _ e2⟩), fun H3 p3 k3 h3 => ⟨.inl ⟨rfl, _, SqL.of h3⟩, p3, _, .bl true, 7, .bl true, rfl, rfl, SqL.of h3, rfl, rfl, rfl, rfl, kd_before, ?_⟩⟩
    exact ⟨_, rfl, q H3 (k.trans (k2.trans k3))⟩
  | 8, hi, q =>
    refine ⟨_, rfl, _, rfl, _, rfl, _, rfl, 8, u, v, rfl, hi, fun d H1 k hd => ?_⟩
    refine ⟨false, exm_cat T (i := 8) (j := 16) (by decide) (by decide), (fun z => nomatch z), fun _ => ?_⟩
    refine ⟨false, exm_cat T (i := 8) (j := 15) (by decide) (by decide), (fun z => nomatch z), fun _ => ?_⟩
    refine ⟨false, exm_cat T (i := 8) (j := 14) (by decide) (by decide), (fun z => nomatch z), fun _ => ?_⟩
    refine ⟨false, exm_cat T (i := 8) (j := 13) (by decide) (by decide), (fun z => nomatch z), fun _ => ?_⟩
    refine ⟨false, exm_cat T (i := 8) (j := 12) (by decide) (by decide), (fun z => nomatch z), fun _ => ?_⟩
    refine ⟨false, exm_cat T (i := 8) (j := 11) (by decide) (by decide), (fun z => nomatch z), fun _ => ?_⟩
    refine ⟨false, exm_cat T (i := 8) (j := 10) (by decide) (by decide), (fun z => nomatch z), fun _ => ?_⟩
    refine ⟨false, exm_cat T (i := 8) (j := 9) (by decide) (by decide), (fun z => nomatch z), fun _ => ?_⟩
    refine ⟨true, (ec T 8 hi).exmF T.cf_FlowError, fun _ a na => ?_, fun z => nomatch z⟩
    refine ⟨_, rfl, 8, rfl, hi, rfl, hd, fun H2 p2 k2 h2 => ⟨p2, _, rfl, .inl (SqL.of h2), rfl, rfl, _, rfl, ?_⟩⟩
    refine ⟨_, rfl, 8, rfl, hi, rfl, hd.imp_right (fun ⟨dd, fs, e1, e2⟩ => ⟨dd, fs, e1, k2 _ _ e2⟩), fun H3 p3 k3 h3 => ⟨.inl ⟨rfl, _, SqL.of h3⟩, p3, _, .bl true, 8, .bl true, rfl, rfl, SqL.of h3, rfl, rfl, rfl, rfl, kd_before, ?_⟩⟩
    exact ⟨_, rfl, q H3 (k.trans (k2.trans k3))⟩
  | 9, hi, q =>
    refine ⟨_, rfl, _, rfl, _, rfl, _, rfl, 9, u, v, rfl, hi, fun d H1 k hd => ?_⟩
    refine ⟨false, exm_cat T (i := 9) (j := 16) (by decide) (by decide), (fun z => nomatch z), fun _ => ?_⟩
    refine ⟨false, exm_cat T (i := 9) (j := 15) (by decide) (by decide), (fun z => nomatch z), fun _ => ?_⟩
    refine ⟨false, exm_cat T (i := 9) (j := 14) (by decide) (by decide), (fun z => nomatch z), fun _ => ?_⟩
    refine ⟨false, exm_cat T (i := 9) (j := 13) (by decide) (by decide), (fun z => nomatch z), fun _ => ?_⟩
    refine ⟨false, exm_cat T (i := 9) (j := 12) (by decide) (by decide), (fun z => nomatch z), fun _ => ?_⟩
    refine ⟨false, exm_cat T (i := 9) (j := 11) (by decide) (by decide), (fun z => nomatch z), fun _ => ?_⟩
    refine ⟨false, exm_cat T (i := 9) (j := 10) (by decide) (by decide), (fun z => nomatch z), fun _ => ?_⟩
    exact ⟨true, exm_cat T (i := 9) (j := 9) (by decide) (by decide), fun _ a na => ⟨_, rfl, q H1 k⟩, fun z => nomatch z⟩
  | 10, hi, q =>
    refine ⟨_, rfl, _, rfl, _, rfl, _, rfl, 10, u, v, rfl, hi, fun d H1 k hd => ?_⟩
    refine ⟨false, exm_cat T (i := 10) (j := 16) (by decide) (by decide), (fun z => nomatch z), fun _ => ?_⟩
    refine ⟨false, exm_cat T (i := 10) (j := 15) (by decide) (by decide), (fun z => nomatch z), fun _ => ?_⟩
    refine ⟨false, exm_cat T (i := 10) (j := 14) (by decide) (by decide), (fun z => nomatch z), fun _ => ?_⟩
    refine ⟨false, exm_cat T (i := 10) (j := 13) (by decide) (by decide), (fun z => nomatch z), fun _ => ?_⟩
    refine ⟨false, exm_cat T (i := 10) (j := 12) (by decide) (by decide), (fun z => nomatch z), fun _ => ?_⟩
    refine ⟨false, exm_cat T (i := 10) (j := 11) (by decide) (by decide), (fun z => nomatch z), fun _ => ?_⟩
    exact ⟨true, exm_cat T (i := 10) (j := 10) (by decide) (by decide), fun _ a na => ⟨_, rfl, q H1 k⟩, fun z => nomatch z⟩
  | 11, hi, q =>
    refine ⟨_, rfl, _, rfl, _, rfl, _, rfl, 11, u, v, rfl, hi, fun d H1 k hd => ?_⟩
    refine ⟨false, exm_cat T (i := 11) (j := 16) (by decide) (by decide), (fun z => nomatch z), fun _ => ?_⟩
    refine ⟨false, exm_cat T (i := 11) (j := 15) (by decide) (by decide), (fun z => nomatch z), fun _ => ?_⟩
    refine ⟨false, exm_cat T (i := 11) (j := 14) (by decide) (by decide), (fun z => nomatch z), fun _ => ?_⟩
    refine ⟨false, exm_cat T (i := 11) (j := 13) (by decide) (by decide), (fun z => nomatch z), fun _ => ?_⟩
    refine ⟨false, exm_cat T (i := 11) (j := 12) (by decide) (by decide), (fun z => nomatch z), fun _ => ?_⟩
    exact ⟨true, exm_cat T (i := 11) (j := 11) (by decide) (by decide), fun _ a na => ⟨_, rfl, q H1 k⟩, fun z => nomatch z⟩
  | 12, hi, q =>
    refine ⟨_, rfl, _, rfl, _, rfl, _, rfl, 12, u, v, rfl, hi, fun d H1 k hd => ?_⟩
    refine ⟨false, exm_cat T (i := 12) (j := 16) (by decide) (by decide), (fun z => nomatch z), fun _ => ?_⟩
    refine ⟨false, exm_cat T (i := 12) (j := 15) (by decide) (by decide), (fun z => nomatch z), fun _ => ?_⟩
    refine ⟨false, exm_cat T (i := 12) (j := 14) (by decide) (by decide), (fun z => nomatch z), fun _ => ?_⟩
    refine ⟨false, exm_cat T (i := 12) (j := 13) (by decide) (by decide), (fun z => nomatch z), fun _ => ?_⟩
    exact ⟨true, exm_cat T (i := 12) (j := 12) (by decide) (by decide), fun _ a na => ⟨_, rfl, q H1 k⟩, fun z => nomatch z⟩
  | 13, hi, q =>
    refine ⟨_, rfl, _, rfl, _, rfl, _, rfl, 13, u, v, rfl, hi, fun d H1 k hd => ?_⟩
    refine ⟨false, exm_cat T (i := 13) (j := 16) (by decide) (by decide), (fun z => nomatch z), fun _ => ?_⟩
    refine ⟨false, exm_cat T (i := 13) (j := 15) (by decide) (by decide), (fun z => nomatch z), fun _ => ?_⟩
    refine ⟨false, exm_cat T (i := 13) (j := 14) (by decide) (by decide), (fun z => nomatch z), fun _ => ?_⟩
    exact ⟨true, exm_cat T (i := 13) (j := 13) (by decide) (by decide), fun _ a na => ⟨_, rfl, q H1 k⟩, fun z => nomatch z⟩
  | 14, hi, q =>
    refine ⟨_, rfl, _, rfl, _, rfl, _, rfl, 14, u, v, rfl, hi, fun d H1 k hd => ?_⟩
    refine ⟨false, exm_cat T (i := 14) (j := 16) (by decide) (by decide), (fun z => nomatch z), fun _ => ?_⟩
    refine ⟨false, exm_cat T (i := 14) (j := 15) (by decide) (by decide), (fun z => nomatch z), fun _ => ?_⟩
    exact ⟨true, exm_cat T (i := 14) (j := 14) (by decide) (by decide), fun _ a na => ⟨_, rfl, q H1 k⟩, fun z => nomatch z⟩
  | 15, hi, q =>
    refine ⟨_, rfl, _, rfl, _, rfl, _, rfl, 15, u, v, rfl, hi, fun d H1 k hd => ?_⟩
    refine ⟨false, exm_cat T (i := 15) (j := 16) (by decide) (by decide), (fun z => nomatch z), fun _ => ?_⟩
    exact ⟨true, exm_cat T (i := 15) (j := 15) (by decide) (by decide), fun _ a na => ⟨_, rfl, q H1 k⟩, fun z => nomatch z⟩
  | 16, hi, q =>
    refine ⟨_, rfl, _, rfl, _, rfl, _, rfl, 16, u, v, rfl, hi, fun d H1 k hd => ?_⟩
    exact ⟨true, exm_cat T (i := 16) (j := 16) (by decide) (by decide), fun _ a na => ⟨_, rfl, q H1 k⟩, fun z => nomatch z⟩
  | _ + 17, hi, _ => exact absurd hi (by omega)
end
end K01
set_option Elab.async false
set_option linter.all false
set_option maxRecDepth 100000
set_option maxHeartbeats 4000000
/-! k01: values of any kind. -/
namespace K01
open PySem PySem.Spec PyProof.Rows L2 Zg Zr Zd Zv Zu
/-! ### how large -/
def Bz : Nat → Nat
  | 0 => 5
  | n + 1 => 3 * Bz n + 6
def Sz (n : Nat) (d : PyData) : Prop := d.leavesShort 44 = true ∧ d.showable = true ∧ d.depth ≤ n + 1 ∧ d.bulk ≤ Bz n
theorem szAll {n : Nat} : ∀ {ds : List PyData}, (∀ d ∈ ds, Sz n d) → PyData.leavesShortAll 44 ds = true ∧ PyData.showableAll ds = true ∧ PyData.depthAll ds ≤ n + 1 ∧ PyData.bulkAll ds ≤ ds.length * (Bz n + 1)
  | [], _ => ⟨rfl, rfl, Nat.zero_le _, Nat.zero_le _⟩
  | d :: ds, h => by
    obtain ⟨a1, a2, a3, a4⟩ := h d List.mem_cons_self
    obtain ⟨b1, b2, b3, b4⟩ := szAll (ds := ds) fun x hx => h x (List.mem_cons_of_mem _ hx)
    refine ⟨?_, ?_, ?_, ?_⟩
    · show (PyData.leavesShort 44 d && PyData.leavesShortAll 44 ds) = true
      rw [a1, b1]; rfl
    · show (PyData.showable d && PyData.showableAll ds) = true
      rw [a2, b2]; rfl
    · show max d.depth (PyData.depthAll ds) ≤ n + 1
      omega
    · show d.bulk + 1 + PyData.bulkAll ds ≤ (ds.length + 1) * (Bz n + 1)
      rw [Nat.add_mul]
      omega
theorem sz_lst {n : Nat} {ds : List PyData} (h : ∀ d ∈ ds, Sz n d) (hl : ds.length ≤ 3) : Sz (n + 1) (.list ds) ∧ Sz (n + 1) (.tuple ds) := by
  obtain ⟨b1, b2, b3, b4⟩ := szAll h
  have e : Bz (n + 1) = 3 * Bz n + 6 := rfl
  have m : ds.length * (Bz n + 1) ≤ 3 * (Bz n + 1) := Nat.mul_le_mul_right _ hl
  refine ⟨⟨b1, b2, ?_, ?_⟩, b1, b2, ?_, ?_⟩
  · show PyData.depthAll ds + 1 ≤ n + 1 + 1; omega
  · show PyData.bulkAll ds ≤ _; omega
  · show PyData.depthAll ds + 1 ≤ n + 1 + 1; omega
  · show PyData.bulkAll ds ≤ _; omega
theorem sz_dc {n : Nat} {d : PyData} (h : Sz n d) : Sz (n + 1) (.dict [(.str "part", d)]) := by
  obtain ⟨a1, a2, a3, a4⟩ := h
  have e : Bz (n + 1) = 3 * Bz n + 6 := rfl
  refine ⟨?_, ?_, ?_, ?_⟩
  · show (PyData.leavesShort 44 (.str "part") && PyData.leavesShort 44 d && true) = true
    rw [a1]
    have : PyData.leavesShort 44 (.str "part") = true := by decide +kernel
    rw [this]; rfl
  · show (PyData.showable (.str "part") && PyData.showable d && true) = true
    rw [a2]; rfl
  · show PyData.depthKv [(.str "part", d)] + 1 ≤ n + 1 + 1
    show max (max 0 d.depth) 0 + 1 ≤ _
    omega
  · show (PyData.bulk (.str "part") + d.bulk + 2 + 0) ≤ _
    have : PyData.bulk (.str "part") = 4 := by decide +kernel
    rw [this]
    omega
theorem Sz.fits {n : Nat} {d : PyData} (h : Sz n d) (hn : n ≤ 6) : d.showable = true ∧ d.depth ≤ 60 ∧ d.shown.length ≤ sizeLine := by
  obtain ⟨a1, a2, a3, a4⟩ := h
  have b : Bz n ≤ 10000 := by
    match n, hn with
    | 0, _ | 1, _ | 2, _ | 3, _ | 4, _ | 5, _ | 6, _ => decide
  have q := PyData.shown_le_bulk 44 (by decide) d a1
  refine ⟨a2, by omega, ?_⟩
  rw [sizeLine_eq]
  omega
section
variable {P : Program} {w : World} {K : PySem.W.Frag} {mg : PySem.Str → Option Value} {base : Heap}
def cost : Nat → Nat
  | 0 => 1
  | n + 1 => 2 + 3 * cost n
/-- what is tracked stands -/
def Trk (S : List Addr) (H : Hp) : Prop := ∀ a ∈ S, H a ≠ none
def sp_any (n : Nat) : Sp := fun vs H Q _ => ∃ (w l : Addr) (C : Nat) (S : List Addr), vs = [.ref w, .int n] ∧ Well H w l C ∧ C + cost n < LIM ∧ Trk S H ∧ w ∈ S ∧ l ∈ S ∧
  ∀ (H' : Hp) (v : V) (d : PyData), Kp [w, l] H H' → Well H' w l (C + cost n) → Dz S H' v d → Sz n d → Q v H'
theorem Trk.kp {S : List Addr} {H H' : Hp} {w l : Addr} {C : Nat} (h : Trk S H) (k : Kp [w, l] H H') (hW : Well H' w l C) : Trk S H' := fun a m e => by
  obtain ⟨_, b, c, ns, h1, h2, _⟩ := hW
  cases q : H a with
  | none => exact h a m q
  | some o =>
    by_cases ha : a ∈ [w, l]
    · simp only [List.mem_cons, List.not_mem_nil, or_false] at ha
      rcases ha with rfl | rfl
      · rw [h1] at e; cases e
      · rw [h2] at e; cases e
    · rw [k _ _ ha q] at e
      cases e
theorem bz0 : ∀ n, Bz 0 ≤ Bz n
  | 0 => Nat.le_refl _
  | n + 1 => by
    have := bz0 n
    show Bz 0 ≤ 3 * Bz n + 6
    omega
theorem Well.put {H : Hp} {w l D : Addr} {C : Nat} {o : HO} (h : Well H w l C) (nw : D ≠ w) (nl : D ≠ l) : Well (upd H D o) w l C := by
  obtain ⟨n, b, c, ns, h1, h2, r⟩ := h
  exact ⟨n, b, c, ns, by rw [upd_ne (Ne.symm nw)]; exact h1, by rw [upd_ne (Ne.symm nl)]; exact h2, r⟩
theorem Well.ne {H : Hp} {w l D : Addr} {C : Nat} (h : Well H w l C) (hD : H D = none) : D ≠ w ∧ D ≠ l := by
  obtain ⟨n, b, c, ns, h1, h2, r⟩ := h
  exact ⟨fun z => (by rw [z, h1] at hD; cases hD), fun z => (by rw [z, h2] at hD; cases hD)⟩
theorem not2 {w l D : Addr} (h : D ≠ w ∧ D ≠ l) : D ∉ [w, l] := by
  simp only [List.mem_cons, List.not_mem_nil, or_false]
  rintro (z | z)
  · exact h.1 z
  · exact h.2 z
abbrev L13 (p1 p2 p3 : Addr) : List V := [.non, .bl true, .bl false, .int 0, .int 1, (fun (i : Int) => V.int (-i)) 1, (fun (i j : Int) => V.int (i ^ j.toNat)) 10 39, .str "", .str "wrong", .str "a b", .ref p1, .ref p2, .ref p3]
/-- no promise at all -/
theorem fn_no {k : Nat} {f : Addr} {fd : FuncData} {ps : List PySem.Str} : FnOk P w K mg base CX0 k f fd ps (fun _ _ _ _ => False) := ⟨fun _ _ _ _ h => h.elim, fun _ _ _ _ _ _ _ _ _ _ _ _ _ h => h.elim⟩
theorem ok_any_of (T : Txt K mg) {n : Nat} {spR : Sp} (hF : FnOk P w K mg base CX0 (n + 2) T.a_any T.d_any P_any spR) (eR : ∀ m, n = m + 1 → spR = sp_any m) : FnOk P w K mg base CX0 (n + 3) T.a_any T.d_any P_any (sp_any n) := by
  refine T.F_any.ok sc_any (fun vs H Q E h => by obtain ⟨w, l, C, S, rfl, _⟩ := h; rfl) (fun cdv A outer s H vs Q E hr h => ?_)
  refine ⟨_, (pss_cons (ps_set (i := 2) sc_any.nd rfl (Or.inl rfl) (pe_lst (pa_cons pe_non (pa_cons pe_bl (pa_cons pe_bl (pa_cons pe_int (pa_cons pe_int (pa_cons (pe_un un_neg pe_int) (pa_cons (pe_op op_pow pe_int pe_int) (pa_cons pe_str (pa_cons pe_str (pa_cons pe_str (pa_cons (pe_tup pa_nil) (pa_cons (pe_lst pa_nil) (pa_cons pe_dnewK pa_nil)))))))))))))))
    (pss_cons (ps_set (i := 3) sc_any.nd rfl (Or.inl rfl) (pe_call (ok_drawn T) (hr.mono (by omega)) (by rfl) T.g_drawn T.F_drawn.kp T.b_drawn .nil pass0 (pa_cons (pv 0) (pa_cons (pe_ifExp (pt_cmpR op_gt (pv 1) pe_int (nomark _)) pe_int pe_int) pa_nil))))
    (pss_cons (ps_if (pt_cmpR op_lt (pv 3) pe_int (nomark _)) (pss_one (ps_ret (pe_ix ix_list (pv 2) (pv 3) (fun _ _ => rfl)))) pss_nil)
    (pss_cons (ps_setLc (i := 4) (own := [("k", 5)]) rfl sc_any.nd rfl rfl (sw_true rfl rfl rfl (by decide +kernel)) (pi_range1 (by rfl) T.n_range (pa_cons (pe_op op_add pe_int (pe_call (ok_drawn T) (hr.mono (by omega)) (by rfl) T.g_drawn T.F_drawn.kp T.b_drawn .nil pass0 (pa_cons (pv 0) (pa_cons pe_int pa_nil)))) pa_nil)) (blkOk_by (own := [("k", 5)]) (N := N_any) (sc := defScope s_any) (by decide +kernel)) (fun _ _ _ _ _ => (pg_name (i := 5) sc_any.nd rfl (Or.inl rfl))) (fun _ _ _ _ _ => pts_nil) (fun _ _ _ _ _ => (pe_call hF (hr.mono (by omega)) (by rfl) T.g_any T.F_any.kp T.b_any .nil pass0 (pa_cons (pv 0) (pa_cons (pe_op op_sub (pv 1) pe_int) pa_nil)))))
    (pss_cons (ps_if (pt_cmpR op_eq (pv 3) pe_int (nomark _)) (pss_one (ps_ret (pv 4))) pss_nil)
    (pss_one (ps_ret (pe_ifExp (pt_cmpR op_eq (pv 3) pe_int (nomark _)) (pe_disp (pps_cons pe_str (pe_ix ix_list (pv 4) pe_int (fun _ _ => rfl)) pps_nil) (by rfl) (by rfl) (fun z => by cases z) (by decide)) (pe_callTy call_tuple_of (by rfl) T.n_tuple (by decide +kernel) (pa_cons (pv 4) pa_nil)))))))))), ?_⟩
  obtain ⟨w, l, C, S, rfl, hW, hC, hS, wS, lS, q⟩ := h
  have sub : ∀ a ∈ [w, l], a ∈ S := fun a m => by
    simp only [List.mem_cons, List.not_mem_nil, or_false] at m
    rcases m with rfl | rfl <;> assumption
  -- plain
  refine ⟨_, rfl, _, _, rfl, rfl, ⟨by decide, by decide, by decide⟩, ?_⟩
  refine ⟨by show 0 ≤ sizeLine; decide, fun p1 n1 => ⟨by show 0 ≤ sizeLine; decide, fun p2 n2 p3 n3 => ⟨by show 13 ≤ sizeLine; decide, fun p4 n4 => ?_⟩⟩⟩
  have k4 : Same H (upd (upd (upd (upd H p1 (.tup [])) p2 (.lst [])) p3 (.dK [])) p4 (.lst (L13 p1 p2 p3))) := (((same_new n1).trans (same_new n2)).trans (same_new n3)).trans (same_new n4)
  have s1 : p1 ∉ S := fun m => hS _ m n1
  have s2 : p2 ∉ S := fun m => hS _ m (Same.free (same_new n1) n2)
  have s3 : p3 ∉ S := fun m => hS _ m (Same.free ((same_new n1).trans (same_new n2)) n3)
  have x1 := hW.ne n1
  have x2 := (hW.same (same_new n1)).ne n2
  have x3 := ((hW.same (same_new n1)).same (same_new n2)).ne n3
  have x4 := (((hW.same (same_new n1)).same (same_new n2)).same (same_new n3)).ne n4
  have e1 := (((same_new (o := .lst []) n2).trans (same_new (o := .dK []) n3)).trans (same_new (o := .lst (L13 p1 p2 p3)) n4)) p1 _ upd_same
  have e2 := ((same_new (o := .dK []) n3).trans (same_new (o := .lst (L13 p1 p2 p3)) n4)) p2 _ upd_same
  have e3 := (same_new (o := .lst (L13 p1 p2 p3)) n4) p3 _ upd_same
  have e4 : (upd (upd (upd (upd H p1 (.tup [])) p2 (.lst [])) p3 (.dK [])) p4 (.lst (L13 p1 p2 p3))) p4 = some (.lst (L13 p1 p2 p3)) := upd_same
  generalize hH4 : (upd (upd (upd (upd H p1 (.tup [])) p2 (.lst [])) p3 (.dK [])) p4 (.lst (L13 p1 p2 p3))) = H4 at k4 e1 e2 e3 e4 ⊢
  have hW4 := hW.same k4
  have c1 : 1 ≤ cost n := by cases n <;> simp only [cost] <;> omega
  -- one of the plain ones
  have pl : ∀ (H5 : Hp) (r : Int), Kp [w, l] H4 H5 → Well H5 w l (C + 1) → 0 ≤ r → r < 13 → (tRet (tOp (rIxL K) (tVar 2) (tVar 3)) : TS) { nx := fun _ H' => Q .non H', rt := Q } [some (.ref w), some (.int n), some (.ref p4), some (.int r), none, none] H5 := by
    intro H5 r k5 hW5 r0 r1
    have f1 : H5 p1 = some (.tup []) := k5 _ _ (not2 x1) e1
    have f2 : H5 p2 = some (.lst []) := k5 _ _ (not2 x2) e2
    have f3 : H5 p3 = some (.dK []) := k5 _ _ (not2 x3) e3
    have f4 := k5 _ _ (not2 x4) e4
    have go : ∀ (v : V) (d : PyData), Dz S H5 v d → Sz 0 d → Q v H5 := fun v d hd hs => q H5 v d ((Kp.of k4).trans k5) (hW5.mono (by omega)) hd ⟨hs.1, hs.2.1, by have := hs.2.2.1; omega, Nat.le_trans hs.2.2.2 (bz0 n)⟩
    obtain ⟨k, rfl⟩ := Int.eq_ofNat_of_zero_le r0
    have hk : k < 13 := by omega
    match k, hk with
    | 0, _ => exact ⟨_, rfl, _, rfl, p4, _, _, _, rfl, rfl, SqL.of f4, rfl, go _ _ .non ⟨rfl, rfl, Nat.zero_le _, Nat.zero_le _⟩⟩
    | 1, _ => exact ⟨_, rfl, _, rfl, p4, _, _, _, rfl, rfl, SqL.of f4, rfl, go _ _ (.bl _) ⟨rfl, rfl, Nat.zero_le _, Nat.zero_le _⟩⟩
    | 2, _ => exact ⟨_, rfl, _, rfl, p4, _, _, _, rfl, rfl, SqL.of f4, rfl, go _ _ (.bl _) ⟨rfl, rfl, Nat.zero_le _, Nat.zero_le _⟩⟩
    | 3, _ => exact ⟨_, rfl, _, rfl, p4, _, _, _, rfl, rfl, SqL.of f4, rfl, go _ _ (.int _) ⟨by decide +kernel, by decide +kernel, Nat.zero_le _, Nat.zero_le _⟩⟩
    | 4, _ => exact ⟨_, rfl, _, rfl, p4, _, _, _, rfl, rfl, SqL.of f4, rfl, go _ _ (.int _) ⟨by decide +kernel, by decide +kernel, Nat.zero_le _, Nat.zero_le _⟩⟩
    | 5, _ => exact ⟨_, rfl, _, rfl, p4, _, _, _, rfl, rfl, SqL.of f4, rfl, go _ _ (.int _) ⟨by decide +kernel, by decide +kernel, Nat.zero_le _, Nat.zero_le _⟩⟩
    | 6, _ => exact ⟨_, rfl, _, rfl, p4, _, _, _, rfl, rfl, SqL.of f4, rfl, go _ _ (.int _) ⟨by decide +kernel, by decide +kernel, Nat.zero_le _, Nat.zero_le _⟩⟩
    | 7, _ => exact ⟨_, rfl, _, rfl, p4, _, _, _, rfl, rfl, SqL.of f4, rfl, go _ _ (.str _) ⟨by decide +kernel, by decide +kernel, Nat.zero_le _, by decide +kernel⟩⟩
    | 8, _ => exact ⟨_, rfl, _, rfl, p4, _, _, _, rfl, rfl, SqL.of f4, rfl, go _ _ (.str _) ⟨by decide +kernel, by decide +kernel, Nat.zero_le _, by decide +kernel⟩⟩
    | 9, _ => exact ⟨_, rfl, _, rfl, p4, _, _, _, rfl, rfl, SqL.of f4, rfl, go _ _ (.str _) ⟨by decide +kernel, by decide +kernel, Nat.zero_le _, by decide +kernel⟩⟩
    | 10, _ => exact ⟨_, rfl, _, rfl, p4, _, _, _, rfl, rfl, SqL.of f4, rfl, go _ _ (.tup f1 s1 .nil) ⟨rfl, rfl, Nat.le_refl _, Nat.zero_le _⟩⟩
    | 11, _ => exact ⟨_, rfl, _, rfl, p4, _, _, _, rfl, rfl, SqL.of f4, rfl, go _ _ (.lst f2 s2 .nil) ⟨rfl, rfl, Nat.le_refl _, Nat.zero_le _⟩⟩
    | 12, _ => exact ⟨_, rfl, _, rfl, p4, _, _, _, rfl, rfl, SqL.of f4, rfl, go _ _ (.dic f3 s3) ⟨rfl, rfl, Nat.le_refl _, Nat.zero_le _⟩⟩
    | _ + 13, hk => exact absurd hk (by omega)
  refine ⟨_, rfl, _, rfl, _, _, rfl, rfl, _, rfl, ite2 (fun e => ?_) (fun e => ?_)⟩
  · -- deep > 0
    have e := of_decide_eq_true e
    obtain ⟨m, rfl⟩ : ∃ m, n = m + 1 := ⟨n - 1, by omega⟩
    obtain rfl := eR m rfl
    have hcost : cost (m + 1) = 2 + 3 * cost m := rfl
    refine ⟨w, l, 17, C, rfl, hW4, by omega, by decide, by decide, fun H5 r k5 hW5 r0 r1 => ?_⟩
    refine ⟨_, rfl, _, _, rfl, rfl, _, rfl, ite2 (fun e => ?_) (fun e => ?_)⟩
    · exact pl H5 r k5 hW5 r0 (of_decide_eq_true e)
    · have e : ¬ (r < 13) := fun z => e (decide_eq_true z)
      refine ⟨_, rfl, w, l, 3, C + 1, rfl, hW5, by omega, by decide, by decide, fun H6 r6 k6 hW6 r60 r61 => ?_⟩
      refine ⟨_, _, rfl, rfl, _, rfl, by omega, by omega, fun D hD => ?_⟩
      have k06 : Kp [w, l] H H6 := ((Kp.of k4).trans k5).trans k6
      have hS6 : Trk S H6 := hS.kp k06 hW6
      have xD := hW6.ne hD
      have sD : D ∉ S := fun m => hS6 _ m hD
      refine lc_range (lo := 0) (n := (1 + r6).toNat) (fun i H' => ∃ (vs : List V) (ds : List PyData), vs.length = i ∧ ds.length = i ∧ H' D = some (.lst vs) ∧ Kp [w, l] H6 H' ∧ Well H' w l (C + 2 + i * cost m) ∧ DzAll (D :: S) H' vs ds ∧ ∀ d ∈ ds, Sz m d)
        ⟨[], [], rfl, rfl, upd_same, Kp.new hD, (hW6.mono (by omega)).put xD.1 xD.2, .nil, fun d h => nomatch h⟩ ?_ ?_
      · rintro i H' hi ⟨vs, ds, hl, hdl, hHD, k', hW', g', hs⟩
        have hi3 : i < 3 := by omega
        have hic : i * cost m ≤ 2 * cost m := Nat.mul_le_mul_right _ (by omega)
        have ea : [V.ref w, V.int (((m + 1 : Nat) : Int) - 1)] = [V.ref w, V.int (m : Nat)] := by
          have : ((m + 1 : Nat) : Int) - 1 = (m : Nat) := by omega
          rw [this]
        have hS' : Trk (D :: S) H' := fun a ma => by
          rcases List.mem_cons.mp ma with rfl | ma
          · rw [hHD]; exact fun z => nomatch z
          · exact (hS6.kp k' hW') a ma
        refine ⟨rfl, _, rfl, _, rfl, _, _, rfl, rfl, w, l, C + 2 + i * cost m, D :: S, ea, hW', by omega, hS', List.mem_cons_of_mem _ wS, List.mem_cons_of_mem _ lS, fun H7 v d k7 hW7 dz sz => ?_⟩
        have kf : Kp (D :: S) H7 (upd H7 D (.lst (vs ++ [v]))) := (Kp.refl _ _).wr (.inl List.mem_cons_self)
        have kD : Kp (D :: S) H' H7 := k7.sub fun a ma => List.mem_cons_of_mem _ (sub a ma)
        refine ⟨vs, k7 _ _ (not2 xD) hHD, by rw [sizeLine_eq]; omega, vs ++ [v], ds ++ [d], by rw [List.length_append, List.length_singleton, hl], by rw [List.length_append, List.length_singleton, hdl], upd_same, (k'.trans k7).wr (.inr hD), ?_, ?_, ?_⟩
        · have e3 : C + 2 + (i + 1) * cost m = C + 2 + i * cost m + cost m := by rw [Nat.add_mul]; omega
          rw [e3]
          exact hW7.put xD.1 xD.2
        · exact ((g'.kp kD).append (.cons dz .nil)).kp kf
        · intro x hx
          rcases List.mem_append.mp hx with hx | hx
          · exact hs x hx
          · rw [List.mem_singleton] at hx
            rw [hx]
            exact sz
      · rintro H' ⟨vs, ds, hl, hdl, hHD, k', hW', g', hs⟩
        have hn3 : (1 + r6).toNat ≤ 3 := by omega
        have hn1 : 1 ≤ (1 + r6).toNat := by omega
        have hic : (1 + r6).toNat * cost m ≤ 3 * cost m := Nat.mul_le_mul_right _ hn3
        have hWf : ∀ {H8 : Hp}, Same H' H8 → Well H8 w l (C + cost (m + 1)) := fun k => (hW'.same k).mono (by omega)
        have k8 : Kp [w, l] H H' := k06.trans k'
        have gS : DzAll S H' vs ds := g'.sub fun a ma => List.mem_cons_of_mem _ ma
        refine ⟨_, rfl, rfl, _, congrArg V.bl dec_int, ite2 (fun e2 => ?_) (fun e2 => ?_)⟩
        · exact ⟨_, rfl, q H' _ _ k8 (hWf (Same.refl _)) (.lst hHD sD gS) (sz_lst hs (by omega)).1⟩
        · refine ⟨_, rfl, rfl, _, congrArg V.bl dec_int, ite2 (fun e3 => ?_) (fun e3 => ?_)⟩
          · -- a dict
            refine fun p hp => ?_
            match vs, ds, gS, hl with
            | v0 :: vs, d0 :: ds, .cons dz0 _, _ =>
              refine ⟨_, rfl, D, _, 0, v0, rfl, rfl, SqL.of ((same_new hp) _ _ hHD), atI_nat (j := 0) rfl, upd_same, [(.inr "part", v0)], rfl, (by show 1 ≤ 15; decide), ?_⟩
              have sp : p ∉ S := fun ma => hS6.kp k' hW' p ma hp
              have ku : Same H' (upd (upd H' p (.dK [])) p (.dK (mergeK [] [(.inr "part", v0)]))) := fun b o eb => by
                have nb := ne_of_none eb hp
                rw [upd_ne nb, upd_ne nb]
                exact eb
              refine q _ (.ref p) (.dict [(.str "part", d0)]) (k8.trans (Kp.of ku)) (hWf ku) (.dc upd_same sp (dz0.kp (Kp.of ku))) (sz_dc (hs _ List.mem_cons_self))
            | [], _, _, hl => exact absurd hl (by simp only [List.length_nil]; omega)
          · -- a tuple
            refine ⟨_, rfl, D, vs, rfl, .inl ⟨SqL.of hHD, fun p hp => ?_⟩⟩
            have sp : p ∉ S := fun ma => hS6.kp k' hW' p ma hp
            exact q _ (.ref p) (.tuple ds) (k8.trans (Kp.new hp)) (hWf (same_new hp)) (.tup upd_same sp (gS.kp (Kp.new hp))) (sz_lst hs (by omega)).2
  · -- deep = 0
    have e : ¬ ((0 : Int) < ((n : Nat) : Int)) := fun z => e (decide_eq_true z)
    obtain rfl : n = 0 := by omega
    refine ⟨w, l, 13, C, rfl, hW4, by show C < LIM; omega, by decide, by decide, fun H5 r k5 hW5 r0 r1 => ?_⟩
    exact ⟨_, rfl, _, _, rfl, rfl, _, rfl, ite2 (fun e => pl H5 r k5 hW5 r0 r1) (fun e => absurd (decide_eq_true r1) e)⟩
theorem ok_any (T : Txt K mg) : ∀ n : Nat, FnOk P w K mg base CX0 (n + 3) T.a_any T.d_any P_any (sp_any n)
  | 0 => ok_any_of T fn_no (fun m e => nomatch e)
  | n + 1 => ok_any_of T (ok_any T n) (fun m e => by
    have e : n = m := by omega
    rw [e])
end
end K01
set_option Elab.async false
set_option linter.all false
set_option maxRecDepth 100000
set_option maxHeartbeats 4000000
/-! k01: the law. -/
namespace K01
open PySem PySem.Spec PyProof.Rows L2 Zg Zr Zd Zv Zu Xu
section
variable {P : Program} {w : World} {K : PySem.W.Frag} {mg : PySem.Str → Option Value} {base : Heap}
def argsD (i : Nat) (d e : PyData) : List PyData := match flds i with
  | [] => []
  | [_] => [d]
  | _ => [d, e]
theorem args_dz {S : List Addr} {H : Hp} {i : Nat} {u v : V} {d e : PyData} (hu : Dz S H u d) (hv : Dz S H v e) : DzAll S H (args i u v) (argsD i d e) := by
  unfold args argsD
  cases flds i with
  | nil => exact .nil
  | cons f fs =>
    cases fs with
    | nil => exact .cons hu .nil
    | cons _ _ => exact .cons hu (.cons hv .nil)
theorem args_fits {i : Nat} {d e : PyData} (hd : Sz 3 d) (he : Sz 3 e) : (PyData.list (argsD i d e)).showable = true ∧ (PyData.list (argsD i d e)).depth ≤ 60 ∧ (PyData.list (argsD i d e)).shown.length ≤ sizeLine := by
  refine Sz.fits (n := 4) (sz_lst ?_ ?_).1 (by decide)
  · unfold argsD
    cases flds i with
    | nil => exact fun x hx => nomatch hx
    | cons f fs =>
      cases fs with
      | nil => intro x hx; rw [List.mem_singleton.mp hx]; exact hd
      | cons _ _ =>
        intro x hx
        rcases List.mem_cons.mp hx with rfl | hx
        · exact hd
        · rw [List.mem_singleton.mp hx]; exact he
  · unfold argsD
    cases flds i with
    | nil => exact Nat.zero_le _
    | cons f fs =>
      cases fs with
      | nil => show 1 ≤ 3; decide
      | cons _ _ => show 2 ≤ 3; decide
theorem shp_kd : ∀ i, i < 17 → SeqAt.shaped (.list ((kd i).map .bool)) = true := by decide +kernel
theorem eqv_kd : ∀ i, i < 17 → (!PyData.eqv (.list ((kd i).map .bool)) (.list ((kd i).map .bool))) = false := by decide +kernel
theorem eqv_two : ∀ i, i < 17 → PyData.eqv (.list [.int (i : Nat), .int (i : Nat)]) (.list [.int (i : Nat), .int (i : Nat)]) = true := by decide +kernel
theorem ne_same {x : PySem.Str} : (!decide (V.str x = V.str x)) = false := by simp
theorem dp_bools {H : Hp} (bs : List Bool) : DpAll K H (bs.map V.bl) (bs.map PyData.bool) := dpAll_of V.bl PyData.bool fun x _ => .bl x
theorem kd_len (i : Nat) : (kd i).length = 17 := by
  unfold kd
  rw [List.length_map, List.length_range]
theorem kd_at {i j : Nat} (hj : j < 17) : (kd i)[j]? = some (i == j) := by
  unfold kd
  rw [List.getElem?_map, List.getElem?_range hj]
  rfl
def sp_right : Sp := fun vs H Q _ => ∃ (i : Nat) (u v : V) (d e : PyData), vs = [.int i, u, v] ∧ i < 17 ∧ Dz [] H u d ∧ Dz [] H v e ∧ Sz 3 d ∧ Sz 3 e ∧ ∀ H', Same H H' → Q (.bl true) H'
theorem ok_right (T : Txt K mg) : FnG P w K mg base 6 T.a_right T.d_right P_right sp_right := by
  refine okG T.F_right sc_right (fun vs H Q E h => by obtain ⟨i, u, v, d, e, rfl, _⟩ := h; rfl) (fun cdv A outer s H vs Q hgd hr h => ?_)
  refine ⟨_, (pss_cons (ps_setLc (i := 3) (own := [("at", 4)]) rfl sc_right.nd rfl rfl (sw_true rfl rfl rfl (by decide +kernel)) (pi_range1 (by rfl) T.n_range (pa_cons pe_int pa_nil)) (blkOk_by (own := [("at", 4)]) (N := N_right) (sc := defScope s_right) (by decide +kernel)) (fun _ _ _ _ _ => (pg_name (i := 4) sc_right.nd rfl (Or.inl rfl))) (fun _ _ _ _ _ => pts_nil) (fun _ _ _ _ _ => (pe_cmpR op_eq (pv 4) (pv 0) (nomark _))))
    (pss_cons (ps_for PassesOwn.never rfl (pi_tup (pe_tup (pa_cons (pe_call (ok_by_place T) (hr.mono (by omega)) (by rfl) T.g_by_place T.F_by_place.kp T.b_by_place .nil pass0 (pa_cons (pv 0) (pa_cons (pv 1) (pa_cons (pv 2) pa_nil)))) (pa_cons (pe_call (ok_by_name T) (hr.mono (by omega)) (by rfl) T.g_by_name T.F_by_name.kp T.b_by_name .nil pass0 (pa_cons (pv 0) (pa_cons (pv 1) (pa_cons (pv 2) pa_nil)))) pa_nil)))) (pg_name (i := 5) sc_right.nd rfl (Or.inl rfl)) (pss_cons (ps_set (i := 6) sc_right.nd rfl (Or.inl rfl) (pe_call (ok_by_place T) (hr.mono (by omega)) (by rfl) T.g_by_place T.F_by_place.kp T.b_by_place .nil pass0 (pa_cons (pv 0) (pa_cons (pv 2) (pa_cons (pv 1) pa_nil)))))
    (pss_cons (ps_if (PW.pt (pw_or (pt_not (pt_val (pe_callB Xw.call_isX (by rfl) T.n_isinstance (by decide +kernel) (pa_cons (pv 5) (pa_cons (pe_glob (v := .ref T.C_FlowError) rfl T.g_FlowError rfl) pa_nil))))) (pw_or (pt_not (pt_val (pe_callB Xw.call_isX (by rfl) T.n_isinstance (by decide +kernel) (pa_cons (pv 5) (pa_cons (pe_bltn (v := .ty "Exception") (u := .type "Exception") (by rfl) T.n_Exception (by decide +kernel) rfl) pa_nil))))) (pw_or1 (pt_val (pe_call (ok_is_python T) (hr.mono (by omega)) (by rfl) T.g_is_python T.F_is_python.kp T.b_is_python .nil pass0 (pa_cons (pv 5) pa_nil))))))) (pss_one (ps_ret pe_bl)) pss_nil)
    (pss_cons (ps_if (PW.pt (pw_or (pt_cmpR (op_neD hr.units) (pe_call (ok_kinds T) (hr.mono (by omega)) (by rfl) T.g_kinds T.F_kinds.kp T.b_kinds .nil pass0 (pa_cons (pv 5) pa_nil)) (pv 3) (nomark _)) (pw_or1 (pt_cmpR op_ne (pe_callB (Zu.cr_reprZ (S := []) hgd hr) (by rfl) T.n_repr (by decide +kernel) (pa_cons (pe_call (ok_told T) (hr.mono (by omega)) (by rfl) T.g_told T.F_told.kp T.b_told .nil pass0 (pa_cons (pv 0) (pa_cons (pv 5) pa_nil))) pa_nil)) (pe_callB (Zu.cr_reprZ (S := []) hgd hr) (by rfl) T.n_repr (by decide +kernel) (pa_cons (pe_call (ok_due T) (hr.mono (by omega)) (by rfl) T.g_due T.F_due.kp T.b_due .nil pass0 (pa_cons (pv 0) (pa_cons (pv 1) (pa_cons (pv 2) pa_nil)))) pa_nil)) (nomark _))))) (pss_one (ps_ret pe_bl)) pss_nil)
    (pss_one (ps_if (pt_cmpR op_ne (pe_callB (Zu.cr_reprZ (S := []) hgd hr) (by rfl) T.n_repr (by decide +kernel) (pa_cons (pe_call (ok_told T) (hr.mono (by omega)) (by rfl) T.g_told T.F_told.kp T.b_told .nil pass0 (pa_cons (pv 0) (pa_cons (pv 6) pa_nil))) pa_nil)) (pe_callB (Zu.cr_reprZ (S := []) hgd hr) (by rfl) T.n_repr (by decide +kernel) (pa_cons (pe_call (ok_due T) (hr.mono (by omega)) (by rfl) T.g_due T.F_due.kp T.b_due .nil pass0 (pa_cons (pv 0) (pa_cons (pv 2) (pa_cons (pv 1) pa_nil)))) pa_nil)) (nomark _)) (pss_one (ps_ret pe_bl)) pss_nil))))))
    (pss_one (ps_ret (pe_cmpR (op_eqD hr.units) (pe_lst (pa_cons (pe_call (ok_caught_early T) (hr.mono (by omega)) (by rfl) T.g_caught_early T.F_caught_early.kp T.b_caught_early .nil pass0 (pa_cons (pv 0) (pa_cons (pv 1) (pa_cons (pv 2) pa_nil)))) (pa_cons (pe_call (ok_caught_late T) (hr.mono (by omega)) (by rfl) T.g_caught_late T.F_caught_late.kp T.b_caught_late .nil pass0 (pa_cons (pv 0) (pa_cons (pv 1) (pa_cons (pv 2) pa_nil)))) pa_nil))) (pe_lst (pa_cons (pv 0) (pa_cons (pv 0) pa_nil))) (nomark _)))))), ?_⟩
  obtain ⟨i, u, v, d, e, rfl, hi, hu, hv, su, sv, q⟩ := h
  refine ⟨_, rfl, by decide, by decide, fun D hD => ?_⟩
  have wrD : ∀ {H' : Hp} {o : HO}, Same H H' → Same H (upd H' D o) := fun k b o eb => by
    rw [upd_ne (ne_of_none eb hD)]
    exact k b o eb
  refine lc_range (lo := 0) (n := 17) (fun j H' => H' D = some (.lst (((kd i).take j).map V.bl)) ∧ Same H H') ⟨upd_same, same_new hD⟩ ?_ ?_
  · rintro j H' hj ⟨hHD, k'⟩
    refine ⟨rfl, _, rfl, _, rfl, rfl, _, hHD, by rw [List.length_map, List.length_take]; exact Nat.lt_of_le_of_lt (Nat.le_trans (Nat.min_le_right _ _) (Nat.le_of_eq (kd_len i))) (by rw [sizeLine_eq]; omega), ?_, wrD k'⟩
    have eb : decide (V.int (0 + (j : Int)) = V.int (i : Nat)) = (i == j) := by
      rw [dec_int, Bool.eq_iff_iff, beq_iff_eq, beq_iff_eq]
      omega
    rw [upd_same, List.take_succ, kd_at hj, List.map_append, eb]
    rfl
  · rintro H' ⟨hHD, k'⟩
    rw [List.take_of_length_le (Nat.le_of_eq (kd_len i))] at hHD
    refine ⟨_, rfl, _, rfl, _, rfl, i, u, v, rfl, hi, fun H1 a1 k1 z1 x1 => ⟨_, rfl, _, rfl, _, rfl, i, u, v, rfl, hi, fun H2 a2 k2 z2 x2 => ⟨by show 2 ≤ sizeLine; decide, fun tp htp => ?_⟩⟩⟩
    have kt := same_new (o := .tup [.ref a1, .ref a2]) htp
    have ht : (upd H2 tp (.tup [.ref a1, .ref a2])) tp = some (.tup [.ref a1, .ref a2]) := upd_same
    have k4 : Same H (upd H2 tp (.tup [.ref a1, .ref a2])) := ((k'.trans k1).trans k2).trans kt
    have hD4 := kt _ _ (k2 _ _ (k1 _ _ hHD))
    have y1 := (x1.same k2).same kt
    have y2 := x2.same kt
    generalize upd H2 tp (.tup [.ref a1, .ref a2]) = H4 at kt ht k4 hD4 y1 y2 ⊢
    refine ⟨tp, rfl, ⟨_, SqT.of ht⟩, for_tup (K := K) (a := tp) (xs := [.ref a1, .ref a2]) (fun j σ H3 => ∃ (y4 y5 y6 : Option V), σ = [some (.int i), some u, some v, some (.ref D), y4, y5, y6] ∧ Same H4 H3) ⟨_, _, _, rfl, Same.refl _⟩ (fun j σ H3 _ ⟨_, _, _, _, k⟩ => SqT.of (k _ _ ht)) ?_ ?_⟩
    · rintro j x σ H3 hx ⟨y4, y5, y6, rfl, k3⟩
      obtain ⟨a, rfl, ex⟩ : ∃ a, x = V.ref a ∧ EX T H3 a i u v := by
        rcases List.mem_cons.mp (List.mem_of_getElem? hx) with rfl | hm
        · exact ⟨a1, rfl, y1.same k3⟩
        · exact ⟨a2, List.mem_singleton.mp hm, y2.same k3⟩
      refine ⟨_, rfl, _, rfl, _, rfl, i, v, u, rfl, hi, fun H5 b k5 z5 x5 => ?_⟩
      have ex5 := ex.same k5
      refine ⟨_, rfl, a, cat T i, .ref T.C_FlowError, .ref T.C_FlowError, true, rfl, (ec T i hi).xc, ex5.has, .own _, (ec T i hi).kitOneF T.cf_FlowError, _, rfl, ?_⟩
      refine ⟨_, rfl, a, cat T i, .ty "Exception", .type "Exception", true, rfl, (ec T i hi).xc, ex5.has, .ty _, (ec T i hi).kitT (by decide +kernel), _, rfl, ?_⟩
      refine ⟨_, rfl, a, i, u, v, rfl, hi, ex5, fun H6 k6 => ⟨_, rfl, ?_⟩⟩
      have ex6 := ex5.same k6
      refine ⟨_, rfl, a, i, u, v, rfl, hi, ex6, fun H7 p7 k7 h7 => ?_⟩
      have k47 : Same H4 H7 := ((k3.trans k5).trans k6).trans k7
      refine ⟨_, rfl, .list ((kd i).map .bool), .list ((kd i).map .bool), .lst (SqL.of h7) (dp_bools _), .lst (SqL.of (k47 _ _ hD4)) (dp_bools _), shp_kd i hi, shp_kd i hi, false, congrArg V.bl (eqv_kd i hi), ?_⟩
      have dz : ∀ {S : List Addr} {H8 : Hp}, Same H4 H8 → Dz [] H8 u d ∧ Dz [] H8 v e := fun k => ⟨hu.kp (Kp.of (k4.trans k)), hv.kp (Kp.of (k4.trans k))⟩
      obtain ⟨f1, f2, f3⟩ := args_fits (i := i) su sv
      obtain ⟨g1, g2, g3⟩ := args_fits (i := i) sv su
      refine ⟨_, rfl, _, rfl, i, a, u, v, rfl, hi, ex6.same k7, fun H8 p8 k8 h8 => ?_⟩
      have k48 := k47.trans k8
      refine ⟨.ref p8, .list (argsD i d e), rfl, .lst h8 (fun z => nomatch z) (args_dz (dz (S := []) k48).1 (dz (S := []) k48).2), f1, f2, f3, ?_⟩
      refine ⟨_, rfl, _, rfl, _, rfl, i, u, v, rfl, hi, fun H9 p9 k9 h9 => ?_⟩
      have k49 := k48.trans k9
      refine ⟨.ref p9, .list (argsD i d e), rfl, .lst h9 (fun z => nomatch z) (args_dz (dz (S := []) k49).1 (dz (S := []) k49).2), f1, f2, f3, rfl, false, congrArg V.bl ne_same, ?_⟩
      refine ⟨_, rfl, _, rfl, i, b, v, u, rfl, hi, (((x5.same k6).same k7).same k8).same k9, fun H10 p10 k10 h10 => ?_⟩
      have k410 := k49.trans k10
      refine ⟨.ref p10, .list (argsD i e d), rfl, .lst h10 (fun z => nomatch z) (args_dz (dz (S := []) k410).2 (dz (S := []) k410).1), g1, g2, g3, ?_⟩
      refine ⟨_, rfl, _, rfl, _, rfl, i, v, u, rfl, hi, fun H11 p11 k11 h11 => ?_⟩
      have k411 := k410.trans k11
      refine ⟨.ref p11, .list (argsD i e d), rfl, .lst h11 (fun z => nomatch z) (args_dz (dz (S := []) k411).2 (dz (S := []) k411).1), g1, g2, g3, rfl, false, congrArg V.bl ne_same, ?_⟩
      exact ⟨_, _, _, rfl, k411⟩
    · rintro σ H3 ⟨y4, y5, y6, rfl, k3⟩
      refine ⟨_, rfl, _, rfl, _, rfl, i, u, v, rfl, hi, fun H5 k5 => ⟨_, rfl, _, rfl, _, rfl, i, u, v, rfl, hi, fun H6 k6 => ⟨by show 2 ≤ sizeLine; decide, fun l1 n1 => ⟨_, rfl, _, rfl, by show 2 ≤ sizeLine; decide, fun l2 n2 => ?_⟩⟩⟩⟩
      refine ⟨.list [.int (i : Nat), .int (i : Nat)], .list [.int (i : Nat), .int (i : Nat)], .lst (SqL.of ((same_new n2) _ _ upd_same)) (.cons (.int _) (.cons (.int _) .nil)), .lst (SqL.of upd_same) (.cons (.int _) (.cons (.int _) .nil)), rfl, rfl, ?_⟩
      rw [eqv_two i hi]
      exact q _ ((k4.trans (k3.trans (k5.trans k6))).trans ((same_new n1).trans (same_new n2)))
theorem ok_law (T : Txt K mg) : FnG P w K mg base 9 T.a_law T.d_law P_law (sp_law K) := by
  refine okG T.F_law sc_law (fun vs H Q E h => by obtain ⟨a, ns, rfl, _⟩ := h; rfl) (fun cdv A outer s H vs Q hgd hr h => ?_)
  refine ⟨_, (pss_cons (ps_set (i := 1) sc_law.nd rfl (Or.inl rfl) (pe_call (ok_well T) (hr.mono (by omega)) (by rfl) T.g_well T.F_well.kp T.b_well .nil pass0 (pa_cons (pv 0) pa_nil)))
    (pss_cons (ps_for PassesOwn.never rfl (pi_range1 (by rfl) T.n_range (pa_cons pe_int pa_nil)) (pg_name (i := 2) sc_law.nd rfl (Or.inl rfl)) (pss_one (ps_for PassesOwn.never rfl (pi_range1 (by rfl) T.n_range (pa_cons pe_int pa_nil)) (pg_name (i := 3) sc_law.nd rfl (Or.inl rfl)) (pss_cons (ps_par (i := 4) (j := 5) (by rfl) sc_law.nd rfl rfl (by decide) rfl rfl (pa_cons (pe_call (ok_any T 3) (hr.mono (by omega)) (by rfl) T.g_any T.F_any.kp T.b_any .nil pass0 (pa_cons (pv 1) (pa_cons pe_int pa_nil))) (pa_cons (pe_call (ok_any T 3) (hr.mono (by omega)) (by rfl) T.g_any T.F_any.kp T.b_any .nil pass0 (pa_cons (pv 1) (pa_cons pe_int pa_nil))) pa_nil)) (by rfl))
    (pss_cons (ps_set (i := 6) sc_law.nd rfl (Or.inl rfl) (pe_callB (Zu.cr_reprZ (S := []) hgd hr) (by rfl) T.n_repr (by decide +kernel) (pa_cons (pe_lst (pa_cons (pv 4) (pa_cons (pv 5) pa_nil))) pa_nil)))
    (pss_one (ps_if (PW.pt (pw_or (pt_not (pt_val (pe_callG (ok_right T) hgd (hr.mono (by omega)) (by rfl) T.g_right T.F_right.kp T.b_right .nil (pa_cons (pv 3) (pa_cons (pv 4) (pa_cons (pv 5) pa_nil)))))) (pw_or1 (pt_cmpR op_ne (pe_callB (Zu.cr_reprZ (S := []) hgd hr) (by rfl) T.n_repr (by decide +kernel) (pa_cons (pe_lst (pa_cons (pv 4) (pa_cons (pv 5) pa_nil))) pa_nil)) (pv 6) (nomark _))))) (pss_one (ps_ret pe_bl)) pss_nil)))))))
    (pss_one (ps_ret pe_bl)))), ?_⟩
  obtain ⟨a, ns, rfl, hS, hl, q⟩ := h
  refine ⟨_, rfl, a, ns, rfl, hS, hl, fun H1 w l s1 hw0 hl0 hW => ?_⟩
  have c3 : cost 3 = 53 := rfl
  refine ⟨2, rfl, by decide, by decide, for_range (lo := 0) (n := 2) (fun i σ H' => ∃ (y2 y3 y4 y5 y6 : Option V), σ = [some (.ref a), some (.ref w), y2, y3, y4, y5, y6] ∧ Well H' w l (2000 * i)) ⟨_, _, _, _, _, rfl, hW⟩ ?_ ?_⟩
  · rintro k σ H' hk ⟨y2, y3, y4, y5, y6, rfl, hW⟩
    refine ⟨17, rfl, by decide, by decide, for_range (lo := 0) (n := 17) (fun j σ H' => ∃ (y3 y4 y5 y6 : Option V), σ = [some (.ref a), some (.ref w), some (.int (0 + (k : Int))), y3, y4, y5, y6] ∧ Well H' w l (2000 * k + 106 * j)) ⟨_, _, _, _, rfl, hW⟩ ?_ ?_⟩
    · rintro j σ H2 hj ⟨y3, y4, y5, y6, rfl, hW2⟩
      have hT : ∀ {H : Hp} {C : Nat}, Well H w l C → Trk [w, l] H := fun ⟨_, b, c, ns, h1, h2, _⟩ z m => by
        simp only [List.mem_cons, List.not_mem_nil, or_false] at m
        rcases m with rfl | rfl
        · rw [h1]; exact fun z => nomatch z
        · rw [h2]; exact fun z => nomatch z
      rw [Int.zero_add]
      refine ⟨_, rfl, w, l, 2000 * k + 106 * j, [w, l], rfl, hW2, (by show _ < 1000000000; omega), hT hW2, List.mem_cons_self, List.mem_cons_of_mem _ List.mem_cons_self, fun H3 u d k3 hW3 hu su => ?_⟩
      refine ⟨_, rfl, w, l, 2000 * k + 106 * j + cost 3, [w, l], rfl, hW3, (by show _ < 1000000000; omega), hT hW3, List.mem_cons_self, List.mem_cons_of_mem _ List.mem_cons_self, fun H4 v e k4 hW4 hv sv => ?_⟩
      have hu4 : Dz [] H4 u d := (hu.kp k4).sub (by intro _ z; cases z)
      have hv4 : Dz [] H4 v e := hv.sub (by intro _ z; cases z)
      have fit : Sz 4 (.list [d, e]) := (sz_lst (n := 3) (ds := [d, e]) (fun x hx => by
        rcases List.mem_cons.mp hx with rfl | hx
        · exact su
        · rw [List.mem_singleton.mp hx]; exact sv) (by show 2 ≤ 3; decide)).1
      obtain ⟨f1, f2, f3⟩ := fit.fits (by decide)
      refine ⟨_, _, rfl, _, rfl, _, rfl, by show 2 ≤ sizeLine; decide, fun p hp => ?_⟩
      have k5 := same_new (o := .lst [u, v]) hp
      refine ⟨.ref p, .list [d, e], rfl, .lst upd_same (fun z => nomatch z) (.cons (hu4.kp (Kp.of k5)) (.cons (hv4.kp (Kp.of k5)) .nil)), f1, f2, f3, ?_⟩
      refine ⟨_, rfl, _, rfl, _, rfl, j, u, v, d, e, rfl, hj, hu4.kp (Kp.of k5), hv4.kp (Kp.of k5), su, sv, fun H6 k6 => ⟨_, rfl, ?_⟩⟩
      have k46 := k5.trans k6
      refine ⟨_, rfl, _, rfl, by show 2 ≤ sizeLine; decide, fun p7 hp7 => ?_⟩
      have k47 := k46.trans (same_new (o := .lst [u, v]) hp7)
      refine ⟨.ref p7, .list [d, e], rfl, .lst upd_same (fun z => nomatch z) (.cons (hu4.kp (Kp.of k47)) (.cons (hv4.kp (Kp.of k47)) .nil)), f1, f2, f3, ?_⟩
      refine ⟨_, rfl, rfl, false, congrArg V.bl ne_same, ?_⟩
      refine ⟨_, _, _, _, rfl, ?_⟩
      have eC : 2000 * k + 106 * (j + 1) = 2000 * k + 106 * j + cost 3 + cost 3 := by rw [c3]; omega
      rw [eC]
      exact hW4.same k47
    · rintro σ H2 ⟨y3, y4, y5, y6, rfl, hW2⟩
      exact ⟨_, _, _, _, _, rfl, hW2.mono (by omega)⟩
  · rintro σ H' ⟨y2, y3, y4, y5, y6, rfl, hW⟩
    exact q H'
end
end K01
set_option Elab.async false
set_option linter.all false
set_option maxRecDepth 100000
set_option maxHeartbeats 4000000
/-! k01: the end. -/
namespace K01
open PySem PySem.Spec PyProof.Rows L2 Zg Zr Zd Zv
theorem all_mk {l : PySem.W.OpenLaw} {w : World} {K : PySem.W.Frag} {h : Heap} {mg : PySem.Str → Option Value} {fa f0 f1 f2 f3 f4 f5 f6 f7 f8 f9 f10 f11 f12 f13 f14 f15 f16 f17 f18 f19 f20 f21 f22 f23 f24 f25 f26 : Addr} (X : K.In h) (G : h.Ns mainGlobals mg) (hfa : mg "law" = some (.ref fa))
    {od0 an0 od1 an1 od2 an2 od3 an3 od4 an4 od5 an5 od6 an6 od7 an7 od8 an8 od9 an9 od10 an10 od11 an11 od12 an12 od13 an13 od14 an14 od15 an15 od16 an16 od17 an17 od18 an18 od19 an19 od20 an20 od21 an21 od22 an22 od23 an23 od24 an24 od25 an25 od26 an26 : Option Addr} {sl0 sl1 sl2 sl3 sl4 sl5 sl6 sl7 sl8 sl9 sl10 sl11 sl12 sl13 sl14 sl15 sl16 sl17 sl18 sl19 sl20 sl21 sl22 sl23 sl24 sl25 sl26 : Array (Option Value)} {oc0 kV0 dc0 pm0 cd0 ct0 oc1 kV1 dc1 pm1 cd1 ct1 oc2 kV2 dc2 pm2 cd2 ct2 oc3 kV3 dc3 pm3 cd3 ct3 oc4 kV4 dc4 pm4 cd4 ct4 oc5 kV5 dc5 pm5 cd5 ct5 oc6 kV6 dc6 pm6 cd6 ct6 oc7 kV7 dc7 pm7 cd7 ct7 oc8 kV8 dc8 pm8 cd8 ct8 oc9 kV9 dc9 pm9 cd9 ct9 oc10 kV10 dc10 pm10 cd10 ct10 oc11 kV11 dc11 pm11 cd11 ct11 oc12 kV12 dc12 pm12 cd12 ct12 oc13 kV13 dc13 pm13 cd13 ct13 oc14 kV14 dc14 pm14 cd14 ct14 oc15 kV15 dc15 pm15 cd15 ct15 oc16 kV16 dc16 pm16 cd16 ct16 oc17 kV17 dc17 pm17 cd17 ct17 oc18 kV18 dc18 pm18 cd18 ct18 oc19 kV19 dc19 pm19 cd19 ct19 oc20 kV20 dc20 pm20 cd20 ct20 oc21 kV21 dc21 pm21 cd21 ct21 oc22 kV22 dc22 pm22 cd22 ct22 oc23 kV23 dc23 pm23 cd23 ct23 oc24 kV24 dc24 pm24 cd24 ct24 oc25 kV25 dc25 pm25 cd25 ct25 oc26 kV26 dc26 pm26 cd26 ct26 : Value}
    {aCBadStore : Addr} (a0 : PySem.W.nsIn K mainGlobals "BadStore" = some (some (.ref aCBadStore))) (i0 : PySem.W.findIn K (.ref aCBadStore) "__init__" = some (some (.ref f0))) (t0 : PySem.W.typeIn K (.ref f0) = some (.type "function"))
    (l0 : K.lookup f0 = some ⟨oc0, od0, .func (PySem.W.fnOf "__init__" "BadStore.__init__" (defArgs s_BadStore_init) (defBody s_BadStore_init) (defScope s_BadStore_init) .none kV0 dc0 pm0 an0 cd0 ct0), sl0⟩) (c0 : PySem.W.codeIn K cd0 "BadStore.__init__" = true) (k0 : PySem.W.keepIn K (.ref f0) = true)
    {aCBadProgram : Addr} (a1 : PySem.W.nsIn K mainGlobals "BadProgram" = some (some (.ref aCBadProgram))) (i1 : PySem.W.findIn K (.ref aCBadProgram) "__init__" = some (some (.ref f1))) (t1 : PySem.W.typeIn K (.ref f1) = some (.type "function"))
    (l1 : K.lookup f1 = some ⟨oc1, od1, .func (PySem.W.fnOf "__init__" "BadProgram.__init__" (defArgs s_BadProgram_init) (defBody s_BadProgram_init) (defScope s_BadProgram_init) .none kV1 dc1 pm1 an1 cd1 ct1), sl1⟩) (c1 : PySem.W.codeIn K cd1 "BadProgram.__init__" = true) (k1 : PySem.W.keepIn K (.ref f1) = true)
    {aCBadDefinition : Addr} (a2 : PySem.W.nsIn K mainGlobals "BadDefinition" = some (some (.ref aCBadDefinition))) (i2 : PySem.W.findIn K (.ref aCBadDefinition) "__init__" = some (some (.ref f2))) (t2 : PySem.W.typeIn K (.ref f2) = some (.type "function"))
    (l2 : K.lookup f2 = some ⟨oc2, od2, .func (PySem.W.fnOf "__init__" "BadDefinition.__init__" (defArgs s_BadDefinition_init) (defBody s_BadDefinition_init) (defScope s_BadDefinition_init) .none kV2 dc2 pm2 an2 cd2 ct2), sl2⟩) (c2 : PySem.W.codeIn K cd2 "BadDefinition.__init__" = true) (k2 : PySem.W.keepIn K (.ref f2) = true)
    {aCBadTerm : Addr} (a3 : PySem.W.nsIn K mainGlobals "BadTerm" = some (some (.ref aCBadTerm))) (i3 : PySem.W.findIn K (.ref aCBadTerm) "__init__" = some (some (.ref f3))) (t3 : PySem.W.typeIn K (.ref f3) = some (.type "function"))
    (l3 : K.lookup f3 = some ⟨oc3, od3, .func (PySem.W.fnOf "__init__" "BadTerm.__init__" (defArgs s_BadTerm_init) (defBody s_BadTerm_init) (defScope s_BadTerm_init) .none kV3 dc3 pm3 an3 cd3 ct3), sl3⟩) (c3 : PySem.W.codeIn K cd3 "BadTerm.__init__" = true) (k3 : PySem.W.keepIn K (.ref f3) = true)
    {aCNoDefinition : Addr} (a4 : PySem.W.nsIn K mainGlobals "NoDefinition" = some (some (.ref aCNoDefinition))) (i4 : PySem.W.findIn K (.ref aCNoDefinition) "__init__" = some (some (.ref f4))) (t4 : PySem.W.typeIn K (.ref f4) = some (.type "function"))
    (l4 : K.lookup f4 = some ⟨oc4, od4, .func (PySem.W.fnOf "__init__" "NoDefinition.__init__" (defArgs s_NoDefinition_init) (defBody s_NoDefinition_init) (defScope s_NoDefinition_init) .none kV4 dc4 pm4 an4 cd4 ct4), sl4⟩) (c4 : PySem.W.codeIn K cd4 "NoDefinition.__init__" = true) (k4 : PySem.W.keepIn K (.ref f4) = true)
    {aCInUse : Addr} (a5 : PySem.W.nsIn K mainGlobals "InUse" = some (some (.ref aCInUse))) (i5 : PySem.W.findIn K (.ref aCInUse) "__init__" = some (some (.ref f5))) (t5 : PySem.W.typeIn K (.ref f5) = some (.type "function"))
    (l5 : K.lookup f5 = some ⟨oc5, od5, .func (PySem.W.fnOf "__init__" "InUse.__init__" (defArgs s_InUse_init) (defBody s_InUse_init) (defScope s_InUse_init) .none kV5 dc5 pm5 an5 cd5 ct5), sl5⟩) (c5 : PySem.W.codeIn K cd5 "InUse.__init__" = true) (k5 : PySem.W.keepIn K (.ref f5) = true)
    {aCTooMany : Addr} (a6 : PySem.W.nsIn K mainGlobals "TooMany" = some (some (.ref aCTooMany))) (i6 : PySem.W.findIn K (.ref aCTooMany) "__init__" = some (some (.ref f6))) (t6 : PySem.W.typeIn K (.ref f6) = some (.type "function"))
    (l6 : K.lookup f6 = some ⟨oc6, od6, .func (PySem.W.fnOf "__init__" "TooMany.__init__" (defArgs s_TooMany_init) (defBody s_TooMany_init) (defScope s_TooMany_init) .none kV6 dc6 pm6 an6 cd6 ct6), sl6⟩) (c6 : PySem.W.codeIn K cd6 "TooMany.__init__" = true) (k6 : PySem.W.keepIn K (.ref f6) = true)
    {aCTooLong : Addr} (a7 : PySem.W.nsIn K mainGlobals "TooLong" = some (some (.ref aCTooLong))) (i7 : PySem.W.findIn K (.ref aCTooLong) "__init__" = some (some (.ref f7))) (t7 : PySem.W.typeIn K (.ref f7) = some (.type "function"))
    (l7 : K.lookup f7 = some ⟨oc7, od7, .func (PySem.W.fnOf "__init__" "TooLong.__init__" (defArgs s_TooLong_init) (defBody s_TooLong_init) (defScope s_TooLong_init) .none kV7 dc7 pm7 an7 cd7 ct7), sl7⟩) (c7 : PySem.W.codeIn K cd7 "TooLong.__init__" = true) (k7 : PySem.W.keepIn K (.ref f7) = true)
    {aCNotPossible : Addr} (a8 : PySem.W.nsIn K mainGlobals "NotPossible" = some (some (.ref aCNotPossible))) (i8 : PySem.W.findIn K (.ref aCNotPossible) "__init__" = some (some (.ref f8))) (t8 : PySem.W.typeIn K (.ref f8) = some (.type "function"))
    (l8 : K.lookup f8 = some ⟨oc8, od8, .func (PySem.W.fnOf "__init__" "NotPossible.__init__" (defArgs s_NotPossible_init) (defBody s_NotPossible_init) (defScope s_NotPossible_init) .none kV8 dc8 pm8 an8 cd8 ct8), sl8⟩) (c8 : PySem.W.codeIn K cd8 "NotPossible.__init__" = true) (k8 : PySem.W.keepIn K (.ref f8) = true)
    {aCNoStep : Addr} (a9 : PySem.W.nsIn K mainGlobals "NoStep" = some (some (.ref aCNoStep))) (i9 : PySem.W.findIn K (.ref aCNoStep) "__init__" = some (some (.ref f9))) (t9 : PySem.W.typeIn K (.ref f9) = some (.type "function"))
    (l9 : K.lookup f9 = some ⟨oc9, od9, .func (PySem.W.fnOf "__init__" "NoStep.__init__" (defArgs s_NoStep_init) (defBody s_NoStep_init) (defScope s_NoStep_init) .none kV9 dc9 pm9 an9 cd9 ct9), sl9⟩) (c9 : PySem.W.codeIn K cd9 "NoStep.__init__" = true) (k9 : PySem.W.keepIn K (.ref f9) = true)
    {aCInvalidText : Addr} (a10 : PySem.W.nsIn K mainGlobals "InvalidText" = some (some (.ref aCInvalidText))) (i10 : PySem.W.findIn K (.ref aCInvalidText) "__init__" = some (some (.ref f10))) (t10 : PySem.W.typeIn K (.ref f10) = some (.type "function"))
    (l10 : K.lookup f10 = some ⟨oc10, od10, .func (PySem.W.fnOf "__init__" "InvalidText.__init__" (defArgs s_InvalidText_init) (defBody s_InvalidText_init) (defScope s_InvalidText_init) .none kV10 dc10 pm10 an10 cd10 ct10), sl10⟩) (c10 : PySem.W.codeIn K cd10 "InvalidText.__init__" = true) (k10 : PySem.W.keepIn K (.ref f10) = true)
    {aCInvalidCommand : Addr} (a11 : PySem.W.nsIn K mainGlobals "InvalidCommand" = some (some (.ref aCInvalidCommand))) (i11 : PySem.W.findIn K (.ref aCInvalidCommand) "__init__" = some (some (.ref f11))) (t11 : PySem.W.typeIn K (.ref f11) = some (.type "function"))
    (l11 : K.lookup f11 = some ⟨oc11, od11, .func (PySem.W.fnOf "__init__" "InvalidCommand.__init__" (defArgs s_InvalidCommand_init) (defBody s_InvalidCommand_init) (defScope s_InvalidCommand_init) .none kV11 dc11 pm11 an11 cd11 ct11), sl11⟩) (c11 : PySem.W.codeIn K cd11 "InvalidCommand.__init__" = true) (k11 : PySem.W.keepIn K (.ref f11) = true)
    (a12 : PySem.W.nsIn K mainGlobals "_law_well" = some (some (.ref f12))) (l12 : K.lookup f12 = some ⟨oc12, od12, .func (PySem.W.fnOf "_law_well" "_law_well" (defArgs s_well) (defBody s_well) (defScope s_well) .none kV12 dc12 pm12 an12 cd12 ct12), sl12⟩) (c12 : PySem.W.codeIn K cd12 "_law_well" = true) (k12 : PySem.W.keepIn K (.ref f12) = true)
    (a13 : PySem.W.nsIn K mainGlobals "_law_drawn" = some (some (.ref f13))) (l13 : K.lookup f13 = some ⟨oc13, od13, .func (PySem.W.fnOf "_law_drawn" "_law_drawn" (defArgs s_drawn) (defBody s_drawn) (defScope s_drawn) .none kV13 dc13 pm13 an13 cd13 ct13), sl13⟩) (c13 : PySem.W.codeIn K cd13 "_law_drawn" = true) (k13 : PySem.W.keepIn K (.ref f13) = true)
    (a14 : PySem.W.nsIn K mainGlobals "_law_any" = some (some (.ref f14))) (l14 : K.lookup f14 = some ⟨oc14, od14, .func (PySem.W.fnOf "_law_any" "_law_any" (defArgs s_any) (defBody s_any) (defScope s_any) .none kV14 dc14 pm14 an14 cd14 ct14), sl14⟩) (c14 : PySem.W.codeIn K cd14 "_law_any" = true) (k14 : PySem.W.keepIn K (.ref f14) = true)
    (a15 : PySem.W.nsIn K mainGlobals "_law_by_place" = some (some (.ref f15))) (l15 : K.lookup f15 = some ⟨oc15, od15, .func (PySem.W.fnOf "_law_by_place" "_law_by_place" (defArgs s_by_place) (defBody s_by_place) (defScope s_by_place) .none kV15 dc15 pm15 an15 cd15 ct15), sl15⟩) (c15 : PySem.W.codeIn K cd15 "_law_by_place" = true) (k15 : PySem.W.keepIn K (.ref f15) = true)
    (a16 : PySem.W.nsIn K mainGlobals "_law_by_name" = some (some (.ref f16))) (l16 : K.lookup f16 = some ⟨oc16, od16, .func (PySem.W.fnOf "_law_by_name" "_law_by_name" (defArgs s_by_name) (defBody s_by_name) (defScope s_by_name) .none kV16 dc16 pm16 an16 cd16 ct16), sl16⟩) (c16 : PySem.W.codeIn K cd16 "_law_by_name" = true) (k16 : PySem.W.keepIn K (.ref f16) = true)
    (a17 : PySem.W.nsIn K mainGlobals "_law_kinds" = some (some (.ref f17))) (l17 : K.lookup f17 = some ⟨oc17, od17, .func (PySem.W.fnOf "_law_kinds" "_law_kinds" (defArgs s_kinds) (defBody s_kinds) (defScope s_kinds) .none kV17 dc17 pm17 an17 cd17 ct17), sl17⟩) (c17 : PySem.W.codeIn K cd17 "_law_kinds" = true) (k17 : PySem.W.keepIn K (.ref f17) = true)
    (a18 : PySem.W.nsIn K mainGlobals "_law_told" = some (some (.ref f18))) (l18 : K.lookup f18 = some ⟨oc18, od18, .func (PySem.W.fnOf "_law_told" "_law_told" (defArgs s_told) (defBody s_told) (defScope s_told) .none kV18 dc18 pm18 an18 cd18 ct18), sl18⟩) (c18 : PySem.W.codeIn K cd18 "_law_told" = true) (k18 : PySem.W.keepIn K (.ref f18) = true)
    (a19 : PySem.W.nsIn K mainGlobals "_law_due" = some (some (.ref f19))) (l19 : K.lookup f19 = some ⟨oc19, od19, .func (PySem.W.fnOf "_law_due" "_law_due" (defArgs s_due) (defBody s_due) (defScope s_due) .none kV19 dc19 pm19 an19 cd19 ct19), sl19⟩) (c19 : PySem.W.codeIn K cd19 "_law_due" = true) (k19 : PySem.W.keepIn K (.ref f19) = true)
    (a20 : PySem.W.nsIn K mainGlobals "_law_raised" = some (some (.ref f20))) (l20 : K.lookup f20 = some ⟨oc20, od20, .func (PySem.W.fnOf "_law_raised" "_law_raised" (defArgs s_raised) (defBody s_raised) (defScope s_raised) .none kV20 dc20 pm20 an20 cd20 ct20), sl20⟩) (c20 : PySem.W.codeIn K cd20 "_law_raised" = true) (k20 : PySem.W.keepIn K (.ref f20) = true)
    (a21 : PySem.W.nsIn K mainGlobals "_law_raised_more" = some (some (.ref f21))) (l21 : K.lookup f21 = some ⟨oc21, od21, .func (PySem.W.fnOf "_law_raised_more" "_law_raised_more" (defArgs s_raised_more) (defBody s_raised_more) (defScope s_raised_more) .none kV21 dc21 pm21 an21 cd21 ct21), sl21⟩) (c21 : PySem.W.codeIn K cd21 "_law_raised_more" = true) (k21 : PySem.W.keepIn K (.ref f21) = true)
    (a22 : PySem.W.nsIn K mainGlobals "_law_caught_early" = some (some (.ref f22))) (l22 : K.lookup f22 = some ⟨oc22, od22, .func (PySem.W.fnOf "_law_caught_early" "_law_caught_early" (defArgs s_caught_early) (defBody s_caught_early) (defScope s_caught_early) .none kV22 dc22 pm22 an22 cd22 ct22), sl22⟩) (c22 : PySem.W.codeIn K cd22 "_law_caught_early" = true) (k22 : PySem.W.keepIn K (.ref f22) = true)
    (a23 : PySem.W.nsIn K mainGlobals "_law_caught_late" = some (some (.ref f23))) (l23 : K.lookup f23 = some ⟨oc23, od23, .func (PySem.W.fnOf "_law_caught_late" "_law_caught_late" (defArgs s_caught_late) (defBody s_caught_late) (defScope s_caught_late) .none kV23 dc23 pm23 an23 cd23 ct23), sl23⟩) (c23 : PySem.W.codeIn K cd23 "_law_caught_late" = true) (k23 : PySem.W.keepIn K (.ref f23) = true)
    (a24 : PySem.W.nsIn K mainGlobals "_law_is_python" = some (some (.ref f24))) (l24 : K.lookup f24 = some ⟨oc24, od24, .func (PySem.W.fnOf "_law_is_python" "_law_is_python" (defArgs s_is_python) (defBody s_is_python) (defScope s_is_python) .none kV24 dc24 pm24 an24 cd24 ct24), sl24⟩) (c24 : PySem.W.codeIn K cd24 "_law_is_python" = true) (k24 : PySem.W.keepIn K (.ref f24) = true)
    (a25 : PySem.W.nsIn K mainGlobals "_law_right" = some (some (.ref f25))) (l25 : K.lookup f25 = some ⟨oc25, od25, .func (PySem.W.fnOf "_law_right" "_law_right" (defArgs s_right) (defBody s_right) (defScope s_right) .none kV25 dc25 pm25 an25 cd25 ct25), sl25⟩) (c25 : PySem.W.codeIn K cd25 "_law_right" = true) (k25 : PySem.W.keepIn K (.ref f25) = true)
    (a26 : PySem.W.nsIn K mainGlobals "law" = some (some (.ref f26))) (l26 : K.lookup f26 = some ⟨oc26, od26, .func (PySem.W.fnOf "law" "law" (defArgs s_law) (defBody s_law) (defScope s_law) .none kV26 dc26 pm26 an26 cd26 ct26), sl26⟩) (c26 : PySem.W.codeIn K cd26 "law" = true) (k26 : PySem.W.keepIn K (.ref f26) = true)
    {aCFlowError : Addr} (xFlowError : PySem.W.nsIn K mainGlobals "FlowError" = some (some (.ref aCFlowError))) (yFlowError : Xv.cfB K aCFlowError = true)
    (yBadStore : Xv.ecB K aCBadStore aCFlowError ["part"] = true)
    (yBadProgram : Xv.ecB K aCBadProgram aCFlowError ["part"] = true)
    (yBadDefinition : Xv.ecB K aCBadDefinition aCFlowError ["name"] = true)
    (yBadTerm : Xv.ecB K aCBadTerm aCFlowError ["thing"] = true)
    (yNoDefinition : Xv.ecB K aCNoDefinition aCFlowError ["name"] = true)
    (yInUse : Xv.ecB K aCInUse aCFlowError ["name", "by"] = true)
    (yTooMany : Xv.ecB K aCTooMany aCFlowError ["most"] = true)
    {aCCanGoWrong : Addr} (xCanGoWrong : PySem.W.nsIn K mainGlobals "CanGoWrong" = some (some (.ref aCCanGoWrong))) (qCanGoWrong : PySem.W.excIn K aCCanGoWrong PySem.XeP.tailE "Exception.__new__" = true)
    (yCanGoWrong : Xv.ecB K aCCanGoWrong aCFlowError [] = true)
    {aCIsSafe : Addr} (xIsSafe : PySem.W.nsIn K mainGlobals "IsSafe" = some (some (.ref aCIsSafe))) (qIsSafe : PySem.W.excIn K aCIsSafe PySem.XeP.tailE "Exception.__new__" = true)
    (yIsSafe : Xv.ecB K aCIsSafe aCFlowError [] = true)
    (yTooLong : Xv.ecB K aCTooLong aCFlowError ["length"] = true)
    {aCNotComparable : Addr} (xNotComparable : PySem.W.nsIn K mainGlobals "NotComparable" = some (some (.ref aCNotComparable))) (qNotComparable : PySem.W.excIn K aCNotComparable PySem.XeP.tailE "Exception.__new__" = true)
    (yNotComparable : Xv.ecB K aCNotComparable aCFlowError [] = true)
    {aCIsWithin : Addr} (xIsWithin : PySem.W.nsIn K mainGlobals "IsWithin" = some (some (.ref aCIsWithin))) (qIsWithin : PySem.W.excIn K aCIsWithin PySem.XeP.tailE "Exception.__new__" = true)
    (yIsWithin : Xv.ecB K aCIsWithin aCFlowError [] = true)
    (yNotPossible : Xv.ecB K aCNotPossible aCFlowError ["entry"] = true)
    (yNoStep : Xv.ecB K aCNoStep aCFlowError ["choice"] = true)
    (yInvalidText : Xv.ecB K aCInvalidText aCFlowError ["line"] = true)
    (yInvalidCommand : Xv.ecB K aCInvalidCommand aCFlowError ["line"] = true)
    {aCNoProgram : Addr} (xNoProgram : PySem.W.nsIn K mainGlobals "NoProgram" = some (some (.ref aCNoProgram))) (qNoProgram : PySem.W.excIn K aCNoProgram PySem.XeP.tailE "Exception.__new__" = true)
    (yNoProgram : Xv.ecB K aCNoProgram aCFlowError [] = true)
    (nd : [aCBadStore, aCBadProgram, aCBadDefinition, aCBadTerm, aCNoDefinition, aCInUse, aCTooMany, aCCanGoWrong, aCIsSafe, aCTooLong, aCNotComparable, aCIsWithin, aCNotPossible, aCNoStep, aCInvalidText, aCInvalidCommand, aCNoProgram, aCFlowError].Nodup)
    (z_ArithmeticError : PySem.W.nsIn K mainGlobals "ArithmeticError" = some none)
    (z_AttributeError : PySem.W.nsIn K mainGlobals "AttributeError" = some none)
    (z_Exception : PySem.W.nsIn K mainGlobals "Exception" = some none)
    (z_LookupError : PySem.W.nsIn K mainGlobals "LookupError" = some none)
    (z_RuntimeError : PySem.W.nsIn K mainGlobals "RuntimeError" = some none)
    (z_TypeError : PySem.W.nsIn K mainGlobals "TypeError" = some none)
    (z_ValueError : PySem.W.nsIn K mainGlobals "ValueError" = some none)
    (z_int : PySem.W.nsIn K mainGlobals "int" = some none)
    (z_isinstance : PySem.W.nsIn K mainGlobals "isinstance" = some none)
    (z_list : PySem.W.nsIn K mainGlobals "list" = some none)
    (z_range : PySem.W.nsIn K mainGlobals "range" = some none)
    (z_repr : PySem.W.nsIn K mainGlobals "repr" = some none)
    (z_tuple : PySem.W.nsIn K mainGlobals "tuple" = some none)
    : ∃ fd : FuncData, (∀ (s : Shared) (v : Value), BindsTo s fd ⟨[v], []⟩ [("script", v)]) ∧ ∀ base : Heap, K.In base → base.Ns mainGlobals mg → FnG l.prog w K mg base 9 fa fd ["script"] (sp_law K) := by
  have e := hfa.symm.trans (PySem.W.mg_of X G a26)
  cases e
  have F0 := fun_mk (st := s_BadStore_init) l0 c0 k0
  have b0 := F0.binds (ps := P_BadStore_init) fun _ _ _ _ _ _ us hl => match us, hl with | [_, _], _ => rfl
  have F1 := fun_mk (st := s_BadProgram_init) l1 c1 k1
  have b1 := F1.binds (ps := P_BadProgram_init) fun _ _ _ _ _ _ us hl => match us, hl with | [_, _], _ => rfl
  have F2 := fun_mk (st := s_BadDefinition_init) l2 c2 k2
  have b2 := F2.binds (ps := P_BadDefinition_init) fun _ _ _ _ _ _ us hl => match us, hl with | [_, _], _ => rfl
  have F3 := fun_mk (st := s_BadTerm_init) l3 c3 k3
  have b3 := F3.binds (ps := P_BadTerm_init) fun _ _ _ _ _ _ us hl => match us, hl with | [_, _], _ => rfl
  have F4 := fun_mk (st := s_NoDefinition_init) l4 c4 k4
  have b4 := F4.binds (ps := P_NoDefinition_init) fun _ _ _ _ _ _ us hl => match us, hl with | [_, _], _ => rfl
  have F5 := fun_mk (st := s_InUse_init) l5 c5 k5
  have b5 := F5.binds (ps := P_InUse_init) fun _ _ _ _ _ _ us hl => match us, hl with | [_, _, _], _ => rfl
  have F6 := fun_mk (st := s_TooMany_init) l6 c6 k6
  have b6 := F6.binds (ps := P_TooMany_init) fun _ _ _ _ _ _ us hl => match us, hl with | [_, _], _ => rfl
  have F7 := fun_mk (st := s_TooLong_init) l7 c7 k7
  have b7 := F7.binds (ps := P_TooLong_init) fun _ _ _ _ _ _ us hl => match us, hl with | [_, _], _ => rfl
  have F8 := fun_mk (st := s_NotPossible_init) l8 c8 k8
  have b8 := F8.binds (ps := P_NotPossible_init) fun _ _ _ _ _ _ us hl => match us, hl with | [_, _], _ => rfl
  have F9 := fun_mk (st := s_NoStep_init) l9 c9 k9
  have b9 := F9.binds (ps := P_NoStep_init) fun _ _ _ _ _ _ us hl => match us, hl with | [_, _], _ => rfl
  have F10 := fun_mk (st := s_InvalidText_init) l10 c10 k10
  have b10 := F10.binds (ps := P_InvalidText_init) fun _ _ _ _ _ _ us hl => match us, hl with | [_, _], _ => rfl
  have F11 := fun_mk (st := s_InvalidCommand_init) l11 c11 k11
  have b11 := F11.binds (ps := P_InvalidCommand_init) fun _ _ _ _ _ _ us hl => match us, hl with | [_, _], _ => rfl
  have F12 := fun_mk (st := s_well) l12 c12 k12
  have b12 := F12.binds (ps := P_well) fun _ _ _ _ _ _ us hl => match us, hl with | [_], _ => rfl
  have F13 := fun_mk (st := s_drawn) l13 c13 k13
  have b13 := F13.binds (ps := P_drawn) fun _ _ _ _ _ _ us hl => match us, hl with | [_, _], _ => rfl
  have F14 := fun_mk (st := s_any) l14 c14 k14
  have b14 := F14.binds (ps := P_any) fun _ _ _ _ _ _ us hl => match us, hl with | [_, _], _ => rfl
  have F15 := fun_mk (st := s_by_place) l15 c15 k15
  have b15 := F15.binds (ps := P_by_place) fun _ _ _ _ _ _ us hl => match us, hl with | [_, _, _], _ => rfl
  have F16 := fun_mk (st := s_by_name) l16 c16 k16
  have b16 := F16.binds (ps := P_by_name) fun _ _ _ _ _ _ us hl => match us, hl with | [_, _, _], _ => rfl
  have F17 := fun_mk (st := s_kinds) l17 c17 k17
  have b17 := F17.binds (ps := P_kinds) fun _ _ _ _ _ _ us hl => match us, hl with | [_], _ => rfl
  have F18 := fun_mk (st := s_told) l18 c18 k18
  have b18 := F18.binds (ps := P_told) fun _ _ _ _ _ _ us hl => match us, hl with | [_, _], _ => rfl
  have F19 := fun_mk (st := s_due) l19 c19 k19
  have b19 := F19.binds (ps := P_due) fun _ _ _ _ _ _ us hl => match us, hl with | [_, _, _], _ => rfl
  have F20 := fun_mk (st := s_raised) l20 c20 k20
  have b20 := F20.binds (ps := P_raised) fun _ _ _ _ _ _ us hl => match us, hl with | [_, _, _], _ => rfl
  have F21 := fun_mk (st := s_raised_more) l21 c21 k21
  have b21 := F21.binds (ps := P_raised_more) fun _ _ _ _ _ _ us hl => match us, hl with | [_, _], _ => rfl
  have F22 := fun_mk (st := s_caught_early) l22 c22 k22
  have b22 := F22.binds (ps := P_caught_early) fun _ _ _ _ _ _ us hl => match us, hl with | [_, _, _], _ => rfl
  have F23 := fun_mk (st := s_caught_late) l23 c23 k23
  have b23 := F23.binds (ps := P_caught_late) fun _ _ _ _ _ _ us hl => match us, hl with | [_, _, _], _ => rfl
  have F24 := fun_mk (st := s_is_python) l24 c24 k24
  have b24 := F24.binds (ps := P_is_python) fun _ _ _ _ _ _ us hl => match us, hl with | [_], _ => rfl
  have F25 := fun_mk (st := s_right) l25 c25 k25
  have b25 := F25.binds (ps := P_right) fun _ _ _ _ _ _ us hl => match us, hl with | [_, _, _], _ => rfl
  have F26 := fun_mk (st := s_law) l26 c26 k26
  have b26 := F26.binds (ps := P_law) fun _ _ _ _ _ _ us hl => match us, hl with | [_], _ => rfl
  exact ⟨_, fun s v => .of_eq rfl, fun base _ _ => ok_law { a_BadStore_init := f0, d_BadStore_init := _, F_BadStore_init := F0, b_BadStore_init := b0, C_BadStore := aCBadStore, g_BadStore := PySem.W.mg_of X G a0, iC_BadStore := i0, tI_BadStore := t0, a_BadProgram_init := f1, d_BadProgram_init := _, F_BadProgram_init := F1, b_BadProgram_init := b1, C_BadProgram := aCBadProgram, g_BadProgram := PySem.W.mg_of X G a1, iC_BadProgram := i1, tI_BadProgram := t1, a_BadDefinition_init := f2, d_BadDefinition_init := _, F_BadDefinition_init := F2, b_BadDefinition_init := b2, C_BadDefinition := aCBadDefinition, g_BadDefinition := PySem.W.mg_of X G a2, iC_BadDefinition := i2, tI_BadDefinition := t2, a_BadTerm_init := f3, d_BadTerm_init := _, F_BadTerm_init := F3, b_BadTerm_init := b3, C_BadTerm := aCBadTerm, g_BadTerm := PySem.W.mg_of X G a3, iC_BadTerm := i3, tI_BadTerm := t3, a_NoDefinition_init := f4, d_NoDefinition_init := _, F_NoDefinition_init := F4, b_NoDefinition_init := b4, C_NoDefinition := aCNoDefinition, g_NoDefinition := PySem.W.mg_of X G a4, iC_NoDefinition := i4, tI_NoDefinition := t4, a_InUse_init := f5, d_InUse_init := _, F_InUse_init := F5, b_InUse_init := b5, C_InUse := aCInUse, g_InUse := PySem.W.mg_of X G a5, iC_InUse := i5, tI_InUse := t5, a_TooMany_init := f6, d_TooMany_init := _, F_TooMany_init := F6, b_TooMany_init := b6, C_TooMany := aCTooMany, g_TooMany := PySem.W.mg_of X G a6, iC_TooMany := i6, tI_TooMany := t6, a_TooLong_init := f7, d_TooLong_init := _, F_TooLong_init := F7, b_TooLong_init := b7, C_TooLong := aCTooLong, g_TooLong := PySem.W.mg_of X G a7, iC_TooLong := i7, tI_TooLong := t7, a_NotPossible_init := f8, d_NotPossible_init := _, F_NotPossible_init := F8, b_NotPossible_init := b8, C_NotPossible := aCNotPossible, g_NotPossible := PySem.W.mg_of X G a8, iC_NotPossible := i8, tI_NotPossible := t8, a_NoStep_init := f9, d_NoStep_init := _, F_NoStep_init := F9, b_NoStep_init := b9, C_NoStep := aCNoStep, g_NoStep := PySem.W.mg_of X G a9, iC_NoStep := i9, tI_NoStep := t9, a_InvalidText_init := f10, d_InvalidText_init := _, F_InvalidText_init := F10, b_InvalidText_init := b10, C_InvalidText := aCInvalidText, g_InvalidText := PySem.W.mg_of X G a10, iC_InvalidText := i10, tI_InvalidText := t10, a_InvalidCommand_init := f11, d_InvalidCommand_init := _, F_InvalidCommand_init := F11, b_InvalidCommand_init := b11, C_InvalidCommand := aCInvalidCommand, g_InvalidCommand := PySem.W.mg_of X G a11, iC_InvalidCommand := i11, tI_InvalidCommand := t11, a_well := f12, d_well := _, F_well := F12, g_well := PySem.W.mg_of X G a12, b_well := b12, a_drawn := f13, d_drawn := _, F_drawn := F13, g_drawn := PySem.W.mg_of X G a13, b_drawn := b13, a_any := f14, d_any := _, F_any := F14, g_any := PySem.W.mg_of X G a14, b_any := b14, a_by_place := f15, d_by_place := _, F_by_place := F15, g_by_place := PySem.W.mg_of X G a15, b_by_place := b15, a_by_name := f16, d_by_name := _, F_by_name := F16, g_by_name := PySem.W.mg_of X G a16, b_by_name := b16, a_kinds := f17, d_kinds := _, F_kinds := F17, g_kinds := PySem.W.mg_of X G a17, b_kinds := b17, a_told := f18, d_told := _, F_told := F18, g_told := PySem.W.mg_of X G a18, b_told := b18, a_due := f19, d_due := _, F_due := F19, g_due := PySem.W.mg_of X G a19, b_due := b19, a_raised := f20, d_raised := _, F_raised := F20, g_raised := PySem.W.mg_of X G a20, b_raised := b20, a_raised_more := f21, d_raised_more := _, F_raised_more := F21, g_raised_more := PySem.W.mg_of X G a21, b_raised_more := b21, a_caught_early := f22, d_caught_early := _, F_caught_early := F22, g_caught_early := PySem.W.mg_of X G a22, b_caught_early := b22, a_caught_late := f23, d_caught_late := _, F_caught_late := F23, g_caught_late := PySem.W.mg_of X G a23, b_caught_late := b23, a_is_python := f24, d_is_python := _, F_is_python := F24, g_is_python := PySem.W.mg_of X G a24, b_is_python := b24, a_right := f25, d_right := _, F_right := F25, g_right := PySem.W.mg_of X G a25, b_right := b25, a_law := fa, d_law := _, F_law := F26, g_law := PySem.W.mg_of X G a26, b_law := b26, C_FlowError := aCFlowError, g_FlowError := PySem.W.mg_of X G xFlowError, cf_FlowError := yFlowError, nd := nd, E_BadStore := Xv.ec_of yBadStore, E_BadProgram := Xv.ec_of yBadProgram, E_BadDefinition := Xv.ec_of yBadDefinition, E_BadTerm := Xv.ec_of yBadTerm, E_NoDefinition := Xv.ec_of yNoDefinition, E_InUse := Xv.ec_of yInUse, E_TooMany := Xv.ec_of yTooMany, E_CanGoWrong := Xv.ec_of yCanGoWrong, C_CanGoWrong := aCCanGoWrong, g_CanGoWrong := PySem.W.mg_of X G xCanGoWrong, q_CanGoWrong := qCanGoWrong, E_IsSafe := Xv.ec_of yIsSafe, C_IsSafe := aCIsSafe, g_IsSafe := PySem.W.mg_of X G xIsSafe, q_IsSafe := qIsSafe, E_TooLong := Xv.ec_of yTooLong, E_NotComparable := Xv.ec_of yNotComparable, C_NotComparable := aCNotComparable, g_NotComparable := PySem.W.mg_of X G xNotComparable, q_NotComparable := qNotComparable, E_IsWithin := Xv.ec_of yIsWithin, C_IsWithin := aCIsWithin, g_IsWithin := PySem.W.mg_of X G xIsWithin, q_IsWithin := qIsWithin, E_NotPossible := Xv.ec_of yNotPossible, E_NoStep := Xv.ec_of yNoStep, E_InvalidText := Xv.ec_of yInvalidText, E_InvalidCommand := Xv.ec_of yInvalidCommand, E_NoProgram := Xv.ec_of yNoProgram, C_NoProgram := aCNoProgram, g_NoProgram := PySem.W.mg_of X G xNoProgram, q_NoProgram := qNoProgram, kbe_NoDefinition_name := Xw.kbE F4 (fun _ _ _ _ _ _ _ ws hl => match ws, hl with | [_], _ => rfl) pm0_rel (pm0_len _), kbe_InUse_by_name := Xw.kbE F5 (fun _ _ _ _ _ _ _ ws hl => match ws, hl with | [_, _], _ => rfl) pm10_rel (pm10_len _), kbe_TooMany_most := Xw.kbE F6 (fun _ _ _ _ _ _ _ ws hl => match ws, hl with | [_], _ => rfl) pm0_rel (pm0_len _), kbe_NoStep_choice := Xw.kbE F9 (fun _ _ _ _ _ _ _ ws hl => match ws, hl with | [_], _ => rfl) pm0_rel (pm0_len _), kbe_InvalidText_line := Xw.kbE F10 (fun _ _ _ _ _ _ _ ws hl => match ws, hl with | [_], _ => rfl) pm0_rel (pm0_len _), kbe_InvalidCommand_line := Xw.kbE F11 (fun _ _ _ _ _ _ _ ws hl => match ws, hl with | [_], _ => rfl) pm0_rel (pm0_len _), kbe_BadStore_part := Xw.kbE F0 (fun _ _ _ _ _ _ _ ws hl => match ws, hl with | [_], _ => rfl) pm0_rel (pm0_len _), kbe_BadProgram_part := Xw.kbE F1 (fun _ _ _ _ _ _ _ ws hl => match ws, hl with | [_], _ => rfl) pm0_rel (pm0_len _), kbe_BadDefinition_name := Xw.kbE F2 (fun _ _ _ _ _ _ _ ws hl => match ws, hl with | [_], _ => rfl) pm0_rel (pm0_len _), kbe_BadTerm_thing := Xw.kbE F3 (fun _ _ _ _ _ _ _ ws hl => match ws, hl with | [_], _ => rfl) pm0_rel (pm0_len _), kbe_TooLong_length := Xw.kbE F7 (fun _ _ _ _ _ _ _ ws hl => match ws, hl with | [_], _ => rfl) pm0_rel (pm0_len _), kbe_NotPossible_entry := Xw.kbE F8 (fun _ _ _ _ _ _ _ ws hl => match ws, hl with | [_], _ => rfl) pm0_rel (pm0_len _), n_ArithmeticError := PySem.W.mg_none_of X G z_ArithmeticError, n_AttributeError := PySem.W.mg_none_of X G z_AttributeError, n_Exception := PySem.W.mg_none_of X G z_Exception, n_LookupError := PySem.W.mg_none_of X G z_LookupError, n_RuntimeError := PySem.W.mg_none_of X G z_RuntimeError, n_TypeError := PySem.W.mg_none_of X G z_TypeError, n_ValueError := PySem.W.mg_none_of X G z_ValueError, n_int := PySem.W.mg_none_of X G z_int, n_isinstance := PySem.W.mg_none_of X G z_isinstance, n_list := PySem.W.mg_none_of X G z_list, n_range := PySem.W.mg_none_of X G z_range, n_repr := PySem.W.mg_none_of X G z_repr, n_tuple := PySem.W.mg_none_of X G z_tuple }⟩
end K01
open PySem PySem.W PyProof.Rows
set_option maxHeartbeats 0 in
theorem PySem.Challenge.cw_plugcaller_k01_errors_holds : PySem.Challenge.rw_plugcaller_k01_errors.Holds := by
  w_on; o_law; k_head; (case hw => w_witness2)
  k_fill
  refine Zg.walkG (l := PySem.Challenge.rw_plugcaller_k01_errors) (n := 63) (k := 9) (x := "script") (sp := K01.sp_law) rfl (by decide) rfl ⟨rfl, by decide, by decide⟩ (fun w h Y => PySem.W.kIn_of Y) ?F (fun K H a ns hl _ hS => ⟨a, ns, rfl, hS, hl, fun _ => rfl⟩)
  case F =>
    intro w mg fa h KX G hmg
    refine' K01.all_mk KX G hmg ?a0 ?i0 ?t0 ?l0 ?c0 ?k0 ?a1 ?i1 ?t1 ?l1 ?c1 ?k1 ?a2 ?i2 ?t2 ?l2 ?c2 ?k2 ?a3 ?i3 ?t3 ?l3 ?c3 ?k3 ?a4 ?i4 ?t4 ?l4 ?c4 ?k4 ?a5 ?i5 ?t5 ?l5 ?c5 ?k5 ?a6 ?i6 ?t6 ?l6 ?c6 ?k6 ?a7 ?i7 ?t7 ?l7 ?c7 ?k7 ?a8 ?i8 ?t8 ?l8 ?c8 ?k8 ?a9 ?i9 ?t9 ?l9 ?c9 ?k9 ?a10 ?i10 ?t10 ?l10 ?c10 ?k10 ?a11 ?i11 ?t11 ?l11 ?c11 ?k11 ?a12 ?l12 ?c12 ?k12 ?a13 ?l13 ?c13 ?k13 ?a14 ?l14 ?c14 ?k14 ?a15 ?l15 ?c15 ?k15 ?a16 ?l16 ?c16 ?k16 ?a17 ?l17 ?c17 ?k17 ?a18 ?l18 ?c18 ?k18 ?a19 ?l19 ?c19 ?k19 ?a20 ?l20 ?c20 ?k20 ?a21 ?l21 ?c21 ?k21 ?a22 ?l22 ?c22 ?k22 ?a23 ?l23 ?c23 ?k23 ?a24 ?l24 ?c24 ?k24 ?a25 ?l25 ?c25 ?k25 ?a26 ?l26 ?c26 ?k26 ?xFlowError ?yFlowError ?yBadStore ?yBadProgram ?yBadDefinition ?yBadTerm ?yNoDefinition ?yInUse ?yTooMany ?xCanGoWrong ?qCanGoWrong ?yCanGoWrong ?xIsSafe ?qIsSafe ?yIsSafe ?yTooLong ?xNotComparable ?qNotComparable ?yNotComparable ?xIsWithin ?qIsWithin ?yIsWithin ?yNotPossible ?yNoStep ?yInvalidText ?yInvalidCommand ?xNoProgram ?qNoProgram ?yNoProgram ?nd ?z_ArithmeticError ?z_AttributeError ?z_Exception ?z_LookupError ?z_RuntimeError ?z_TypeError ?z_ValueError ?z_int ?z_isinstance ?z_list ?z_range ?z_repr ?z_tuple
    (case a0 => k_is)
    (case i0 => k_is)
    (case t0 => k_is)
    (case l0 => k_is)
    (case c0 => k_is)
    (case k0 => k_is)
    (case a1 => k_is)
    (case i1 => k_is)
    (case t1 => k_is)
    (case l1 => k_is)
    (case c1 => k_is)
    (case k1 => k_is)
    (case a2 => k_is)
    (case i2 => k_is)
    (case t2 => k_is)
    (case l2 => k_is)
    (case c2 => k_is)
    (case k2 => k_is)
    (case a3 => k_is)
    (case i3 => k_is)
    (case t3 => k_is)
    (case l3 => k_is)
    (case c3 => k_is)
    (case k3 => k_is)
    (case a4 => k_is)
    (case i4 => k_is)
    (case t4 => k_is)
    (case l4 => k_is)
    (case c4 => k_is)
    (case k4 => k_is)
    (case a5 => k_is)
    (case i5 => k_is)
    (case t5 => k_is)
    (case l5 => k_is)
    (case c5 => k_is)
    (case k5 => k_is)
    (case a6 => k_is)
    (case i6 => k_is)
    (case t6 => k_is)
    (case l6 => k_is)
    (case c6 => k_is)
    (case k6 => k_is)
    (case a7 => k_is)
    (case i7 => k_is)
    (case t7 => k_is)
    (case l7 => k_is)
    (case c7 => k_is)
    (case k7 => k_is)
    (case a8 => k_is)
    (case i8 => k_is)
    (case t8 => k_is)
    (case l8 => k_is)
    (case c8 => k_is)
    (case k8 => k_is)
    (case a9 => k_is)
    (case i9 => k_is)
    (case t9 => k_is)
    (case l9 => k_is)
    (case c9 => k_is)
    (case k9 => k_is)
    (case a10 => k_is)
    (case i10 => k_is)
    (case t10 => k_is)
    (case l10 => k_is)
    (case c10 => k_is)
    (case k10 => k_is)
    (case a11 => k_is)
    (case i11 => k_is)
    (case t11 => k_is)
    (case l11 => k_is)
    (case c11 => k_is)
    (case k11 => k_is)
    (case a12 => k_is)
    (case l12 => k_is)
    (case c12 => k_is)
    (case k12 => k_is)
    (case a13 => k_is)
    (case l13 => k_is)
    (case c13 => k_is)
    (case k13 => k_is)
    (case a14 => k_is)
    (case l14 => k_is)
    (case c14 => k_is)
    (case k14 => k_is)
    (case a15 => k_is)
    (case l15 => k_is)
    (case c15 => k_is)
    (case k15 => k_is)
    (case a16 => k_is)
    (case l16 => k_is)
    (case c16 => k_is)
    (case k16 => k_is)
    (case a17 => k_is)
    (case l17 => k_is)
    (case c17 => k_is)
    (case k17 => k_is)
    (case a18 => k_is)
    (case l18 => k_is)
    (case c18 => k_is)
    (case k18 => k_is)
    (case a19 => k_is)
    (case l19 => k_is)
    (case c19 => k_is)
    (case k19 => k_is)
    (case a20 => k_is)
    (case l20 => k_is)
    (case c20 => k_is)
    (case k20 => k_is)
    (case a21 => k_is)
    (case l21 => k_is)
    (case c21 => k_is)
    (case k21 => k_is)
    (case a22 => k_is)
    (case l22 => k_is)
    (case c22 => k_is)
    (case k22 => k_is)
    (case a23 => k_is)
    (case l23 => k_is)
    (case c23 => k_is)
    (case k23 => k_is)
    (case a24 => k_is)
    (case l24 => k_is)
    (case c24 => k_is)
    (case k24 => k_is)
    (case a25 => k_is)
    (case l25 => k_is)
    (case c25 => k_is)
    (case k25 => k_is)
    (case a26 => k_is)
    (case l26 => k_is)
    (case c26 => k_is)
    (case k26 => k_is)
    (case xFlowError => k_is)
    (case xCanGoWrong => k_is)
    (case xIsSafe => k_is)
    (case xNotComparable => k_is)
    (case xIsWithin => k_is)
    (case xNoProgram => k_is)
    (case z_ArithmeticError => k_is)
    (case z_AttributeError => k_is)
    (case z_Exception => k_is)
    (case z_LookupError => k_is)
    (case z_RuntimeError => k_is)
    (case z_TypeError => k_is)
    (case z_ValueError => k_is)
    (case z_int => k_is)
    (case z_isinstance => k_is)
    (case z_list => k_is)
    (case z_range => k_is)
    (case z_repr => k_is)
    (case z_tuple => k_is)
    (case yFlowError => kernel_rfl)
    (case yBadStore => kernel_rfl)
    (case yBadProgram => kernel_rfl)
    (case yBadDefinition => kernel_rfl)
    (case yBadTerm => kernel_rfl)
    (case yNoDefinition => kernel_rfl)
    (case yInUse => kernel_rfl)
    (case yTooMany => kernel_rfl)
    (case qCanGoWrong => kernel_rfl)
    (case yCanGoWrong => kernel_rfl)
    (case qIsSafe => kernel_rfl)
    (case yIsSafe => kernel_rfl)
    (case yTooLong => kernel_rfl)
    (case qNotComparable => kernel_rfl)
    (case yNotComparable => kernel_rfl)
    (case qIsWithin => kernel_rfl)
    (case yIsWithin => kernel_rfl)
    (case yNotPossible => kernel_rfl)
    (case yNoStep => kernel_rfl)
    (case yInvalidText => kernel_rfl)
    (case yInvalidCommand => kernel_rfl)
    (case qNoProgram => kernel_rfl)
    (case yNoProgram => kernel_rfl)
    (case nd => decide)
