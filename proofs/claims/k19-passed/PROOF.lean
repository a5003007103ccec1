import PyProof.Rows.All
import Wide.All
import OpenK.AllK
import Wide.FinOn
import HandS.ForMost
import PyProof.ReprRoads
import HandS.TupMul
import HandS.TupAny
import PyProof.ReprBulk
import PyProof.FitsInt
import HandS.IsInst
import PyProof.EqAt
import PyProof.NeKinds
import PyProof.Rows.TupMore
import PyProof.EqKinds
import PyProof.TupleCall
import HandS.Base
import HandS.Call
import HandS.List
import HandS.Style
import PyProof.Rows.ReprOcc
import KE.KIntText
import PyProof.RulesMatch
import HandS.DictComp
import HandS.ListItems
import KE.KDictList
import HandS.Zip
import KE.KDictZip
import KE.KDictItemsList
import HandS.Sort
import PyProof.Rows.SortKeyStr
import PySem.Challenge.RW_plugcaller_k19_passed
import HandS.Flow
import HandS.More
import HandS.Strs
import HandS.Star
import HandS.Codes
import HandS.Text
import HandS.Walk
import HandS.Conv
import HandS.TryOnly
import HandS.SortInts
import HandS.Small
set_option Elab.async false
set_option linter.all false
set_option maxRecDepth 100000
set_option maxHeartbeats 4000000
/-! Zg: promises of defs that are called where no repr is under way (guards known to be none), and the end of a law over such a promise. -/
namespace Zg
open PySem PySem.Spec PyProof.Rows L2
/-- no repr is under way -/
abbrev Gd (A : Around) : Prop := A.guards = some []
/-- a def's promise, asked only where no repr is under way -/
structure FnG (P : Program) (w : World) (K : PySem.W.Frag) (mg : Str → Option Value) (base : Heap) (k : Nat) (f : Addr) (fd : FuncData) (ps : List Str) (sp : Sp) : Prop where
  len : ∀ vs H Q E, sp vs H Q E → vs.length = ps.length
  run : ∀ (A : Around) (outer : List Env) (s : Shared) (H : Hp) (args : Args) (us : List Value) (vs : List V) (Q : VK), Gd A → Room k A →
    Env0 P w K mg base A outer s H → BindsTo s fd args (ps.zip us) → Vals vs us → sp vs H Q E0 →
    codeAny (model P w) A (.call (.ref f) args) (CR CX0 outer P w H s Q E0) s
theorem FnG.of {P : Program} {w : World} {K : PySem.W.Frag} {mg : Str → Option Value} {base : Heap} {k : Nat} {f : Addr} {fd : FuncData} {ps : List Str} {sp : Sp}
    (F : FnOk P w K mg base CX0 k f fd ps sp) : FnG P w K mg base k f fd ps sp :=
  ⟨F.len, fun A outer s H args us vs Q _ hr e0 hb hv hs => F.run A outer s H args us vs Q E0 hr e0 hb hv hs⟩
section
variable {P : Program} {w : World} {K : PySem.W.Frag} {mg : Str → Option Value} {base : Heap}
theorem okG {x qual : Str} {st : Stmt} {f : Addr} {fd : FuncData} {N ps : List Str} {k : Nat} {sp : Sp} (F : Fun K x qual st f fd) (S : FnScope N ps (defScope st))
    (len : ∀ vs H Q E, sp vs H Q E → vs.length = ps.length)
    (hbody : ∀ (cdv : Value) (A : Around) (outer : List Env) (s : Shared) (H : Hp) (vs : List V) (Q : VK), Gd (A.deeper (envOfC qual (defScope st) s.heap.objs.size f cdv)) →
      Room k (A.deeper (envOfC qual (defScope st) s.heap.objs.size f cdv)) → sp vs H Q E0 →
      ∃ t, PSs (cxOf CX0 P w K mg base N qual (defScope st) f cdv A outer s H E0).nox (defBody st) t ∧ t { nx := fun _ H' => Q .non H', rt := Q } (start N vs) H) :
    FnG P w K mg base (k + 1) f fd ps sp := by
  obtain ⟨oc, od, kV, doc, pm, an, cdv, ct, osl, rfl, lk, hcd⟩ := F.ex
  refine ⟨len, fun A outer s H args us vs Q hgd hr e0 hb r hsp => ?_⟩
  have hl := len _ _ _ _ hsp
  have kept : ∀ b o, base.get? b = some o → s.heap.get? b = some o := fun b o e => (e0.bs b o e).1
  have known : ∀ y ∈ ps.zip us, (defScope st).names.lookup y.1 = some .local ∨
      ((defScope st).names.lookup y.1 = some .cell ∧ ((cellsFrom (s.heap.objs.size + 1) (defScope st).names []).lookup y.1).isSome = true) := fun ⟨n, v⟩ hy =>
    (S.par n (List.of_mem_zip hy).1).elim .inl fun q => .inr ⟨q, PySem.W.cellsFrom_some _ _ _ (.inl q)⟩
  refine codeAny_call_function hr.depth (e0.mod.kin.keeps kept _ _ lk) rfl S.co S.gen rfl (PySem.W.codeRec_of (e0.mod.kin.keeps kept) hcd) (hb _ _ _ _ ?_)
  refine wpAny_newFunctionEnv_cells S.kind known fun env he s1 x => ?_
  subst he
  refine ⟨(e0.mod.nolimit.keeps kept).keeps x.toInCall.keep, codeAny_func ?_⟩
  obtain ⟨t, ht, hq⟩ := hbody cdv A outer s H vs Q hgd (hr.deeper _) hsp
  refine wpAny_mono (ht.nox.run [] s1 (start N vs) H _ (inv_start S hr.hd e0 hl r x) hq) (fun fl s' hs => ?_) fun e s' hs => hs
  cases fl with
  | ret u =>
    obtain ⟨v, σ', H', J, rv, q⟩ := hs
    exact ⟨v, H', J.os, J.bare, J.base, J.hok, rv, q⟩
  | next =>
    obtain ⟨σ', H', J, q⟩ := hs
    exact ⟨V.non, H', J.os, J.bare, J.base, J.hok, rfl, q⟩
  | brk => exact hs.elim fun _ z => z.elim fun _ z => z.2.elim
  | cont => exact hs.elim fun _ z => z.elim fun _ z => z.2.elim
end
section
variable {X : Cx} {k : Nat} {f : Addr} {fd : FuncData} {ps ks : List Str} {sp : Sp} {dvs : List V} {ds : List Value} {x : Str} {p pos : Pos} {e : Expr} {es : List Expr} {kws : List Keyword} {t tk : TA}
/-- f(e, ..), f's promise asked where no repr is under way -/
theorem pe_callG (F : FnG X.prog X.w X.K X.mg X.base k f fd ps sp) (hgd : Gd X.A) (hr : Room k X.A) (hg : Gl X x) (hm : X.mg x = some (.ref f)) (hk : PySem.W.keepIn X.K (.ref f) = true) (hb : Binds X.K fd ps ds) (hd : Vals dvs ds)
    (ha : PA X (e :: es) t) (hdb : (x == ("__debug__" : Str)) = false := by decide) (he : starEach (e :: es) X.env = (false, eval e X.env) :: starEach es X.env := by rfl) (hpl : (backTo pos (starEach es X.env)).any (·.1) = false := by rfl) :
    PE X (.Call (.Name x p) (e :: es) [] pos) (tCall sp dvs E0 t) := by
  refine ⟨fun pins s σ H Q I h => wpAny_Call_Name_kw (ld_glob I hg hm ?_ hdb)⟩
  refine PySem.W.callWith_K (h₀ := X.base) I.ok.mod.kin hk (thn (ha.run pos pins s σ H _ I h) fun us s1 ⟨vs, H1, I1, r, q⟩ => ⟨I1.kIn, ?_⟩) he hpl
  have r2 : Vals (vs ++ dvs) (us ++ ds) := r.append hd
  have hl : (us ++ ds).length = ps.length := by rw [← r2.length]; exact F.len _ _ _ _ q
  refine wpAny_call (codeAny_mono (F.run X.A X.stack s1 H1 ⟨us, []⟩ (us ++ ds) (vs ++ dvs) Q hgd hr I1.env0 (hb s1 us I1.kIn hl) r2 q) fun r s' hq => ?_)
  cases r with
  | error e => exact hq.elim
  | ok fl =>
    cases fl with
    | ret u => exact I1.after hq
    | next => exact hq.elim
    | brk => exact hq.elim
    | cont => exact hq.elim
end
/-- how a call by keywords alone binds: g puts the keywords' values (names ks) in the parameters' order -/
structure KB0 (K : PySem.W.Frag) (fd : FuncData) (ps ks : List Str) (g : List Value → List Value) (gV : List V → List V) : Prop where
  to : ∀ (s : Shared) (ws : List Value), ws.length = ks.length → BindsTo s fd ⟨[], ks.zip ws⟩ (ps.zip (g ws))
  rel : ∀ {zs : List V} {ws : List Value}, Vals zs ws → Vals (gV zs) (g ws)
section
variable {X : Cx} {CX : CXT} {k : Nat} {f : Addr} {fd : FuncData} {ps ks : List Str} {sp : Sp} {E : XK} {x : Str} {p pos : Pos} {kws : List Keyword} {tk : TA} {g : List Value → List Value} {gV : List V → List V}
/-- f(k = v, ..): keywords alone -/
def tCallK0 (m : Nat) (sp : Sp) (gV : List V → List V) (E : XK) (tk : TA) : TE := fun σ H Q => tk σ H fun zs H2 => zs.length = m ∧ sp (gV zs) H2 Q E
theorem pe_callK0 (F : FnOk X.prog X.w X.K X.mg X.base CX k f fd ps sp) (hr : Room k X.A) (hg : Gl X x) (hm : X.mg x = some (.ref f)) (hk : PySem.W.keepIn X.K (.ref f) = true) (hb : KB0 X.K fd ps ks g gV) (hx : Passes CX X E)
    (hkw : PK X kws tk) (hall : (backToKw pos (keywordEach kws X.env)).all (·.1.isSome) = true := by rfl) (hks : (backToKw pos (keywordEach kws X.env)).filterMap (·.1) = ks := by rfl)
    (hdb : (x == ("__debug__" : Str)) = false := by decide) (hpl : ((backTo pos (starEach [] X.env)).any (·.1) || (backToKw pos (keywordEach kws X.env)).any (·.1.isNone)) = false := by rfl) :
    PE X (.Call (.Name x p) [] kws pos) (tCallK0 ks.length sp gV E tk) := by
  refine ⟨fun pins s σ H Q I h => wpAny_Call_Name_kw (ld_glob I hg hm ?_ hdb)⟩
  refine PySem.W.callWith_KW0 (h₀ := X.base) I.ok.mod.kin hk hall ?_ hpl
  refine thn (hkw.run pos pins s σ H _ I h) fun ws s2 ⟨zs, H2, I2, rz, l2, q2⟩ => ⟨I2.kIn, ?_⟩
  rw [hks, List.append_nil]
  have hw : ws.length = ks.length := by rw [← rz.length]; exact l2
  refine wpAny_call (codeAny_mono (F.run X.A X.stack s2 H2 ⟨[], ks.zip ws⟩ (g ws) (gV zs) Q E hr I2.env0 (hb.to s2 ws hw) (hb.rel rz) q2) fun r s' hq => ?_)
  cases r with
  | error e => exact hx pins σ H2 s2 e s' I2 hq
  | ok fl =>
    cases fl with
    | ret u => exact I2.after hq
    | next => exact hq.elim
    | brk => exact hq.elim
    | cont => exact hq.elim
end
/-- .. of a def of the text -/
theorem kb0 {K : PySem.W.Frag} {x qual : Str} {st : Stmt} {f : Addr} {fd : FuncData} {ps ks : List Str} {g : List Value → List Value} {gV : List V → List V} (F : Fun K x qual st f fd)
    (h : ∀ (kV doc pm : Value) (an : Option Addr) (cdv ct : Value) (ws : List Value), ws.length = ks.length → bindArgs (PySem.W.fnOf x qual (defArgs st) (defBody st) (defScope st) .none kV doc pm an cdv ct) ⟨[], ks.zip ws⟩ = pure (ps.zip (g ws)))
    (r : ∀ {zs : List V} {ws : List Value}, Vals zs ws → Vals (gV zs) (g ws)) : KB0 K fd ps ks g gV := by
  obtain ⟨oc, od, kV, doc, pm, an, cdv, ct, osl, rfl, lk, hcd⟩ := F.ex
  exact ⟨fun s ws hl => .of_eq (h kV doc pm an cdv ct ws hl), r⟩
/-! ### the end of a law over such a promise -/
section
variable {P : Program} {w : World} {K : PySem.W.Frag} {mg mb : Str → Option Value} {k : Nat} {fa a : Addr} {fd : FuncData} {x : Str} {sp : Sp} {s₁ : Shared} {vs : List Value} {ns : List Int}
/-- the call of the law, from an abstract heap that tracks the script at most -/
theorem enterG {H : Hp} (KX : K.In s₁.heap) (hns : s₁.heap.Ns mainGlobals mg) (hb : s₁.heap.Ns builtinsNs mb) (hbb : ∀ x : Str, x ≠ "__name__" → mb x = bootBuiltins x) (hlim : s₁.heap.NoLimit) (hg : s₁.gens = #[])
    (hscript : ∃ o : Obj, s₁.heap.get? a = some o ∧ ∀ es ep, o.data ≠ .dict es ep) (hr : Room k callerA)
    (F : ∀ base : Heap, K.In base → base.Ns mainGlobals mg → FnG P w K mg base k fa fd [x] sp) (hbind : ∀ (s : Shared) (u : Value), BindsTo s fd ⟨[u], []⟩ [(x, u)])
    (hsp : sp [.ref a] H (fun v _ => v = .bl true) E0) (hO : Only H) (hok : HOk P w H s₁.heap) (hA : ∀ b, H b ≠ none → b = a) (hK : H a ≠ none → K.lookup a = none) :
    codeAny (model P w) callerA (.call (.ref fa) ⟨[.ref a], []⟩) (fun r s' => r = .ok (.ret (.bool true)) ∧ OldK s₁.heap s'.heap ∧ s'.os = s₁.os ∧ AllBare s'.gens) s₁ := by
  obtain ⟨os, hs1, hs2⟩ := hscript
  have apart : ∀ b : Addr, H b ≠ none → (∀ o es ep, s₁.heap.get? b = some o → o.data = .dict es ep → False) := fun b hb o es ep e d => by
    rw [hA b hb, hs1] at e
    cases e
    exact hs2 es ep d
  have nsK : ∀ {b : Addr} {m : Str → Option Value}, s₁.heap.Ns b m → (hidT s₁.heap H).Ns b m := fun {b m} ⟨o, es, ep, e, d, r⟩ => by
    refine ⟨o, es, ep, hidT_get e ?_, d, r⟩
    cases q : H b with
    | none => rfl
    | some u => exact (apart b (by rw [q]; exact fun z => nomatch z) o es ep e d).elim
  have hKb : K.In (hidT s₁.heap H) := fun b o e => hidT_get (KX b o e) (by
    cases q : H b with
    | none => rfl
    | some u =>
      have e' : b = a := hA b (by rw [q]; exact fun z => nomatch z)
      rw [e'] at e q
      rw [hK (by rw [q]; exact fun z => nomatch z)] at e
      cases e)
  have hM : Mod K mg (hidT s₁.heap H) := ⟨hKb, nsK hns, ⟨mb, nsK hb, hbb⟩, let ⟨mc, h1, h2⟩ := hlim; ⟨mc, nsK h1, h2⟩⟩
  have e0 : Env0 P w K mg (hidT s₁.heap H) callerA [] s₁ H :=
    ⟨rfl, hM, fun b o e => of_hidT e, Nat.le_of_eq (hidT_size _ _), trivial, fun b hb => absurd hb List.not_mem_nil, hok, .of_eq hg⟩
  refine codeAny_mono ((F _ hKb (nsK hns)).run callerA [] s₁ H ⟨[.ref a], []⟩ [.ref a] [.ref a] _ rfl hr e0 (hbind s₁ (.ref a)) (.cons rfl .nil) hsp) fun r s' h => ?_
  cases r with
  | error e => exact h.elim
  | ok fl =>
    cases fl with
    | next => exact h.elim
    | brk => exact h.elim
    | cont => exact h.elim
    | ret u =>
      obtain ⟨v, H', os', bare, un, hok', r', q⟩ := h
      obtain rfl : v = .bl true := q
      obtain rfl : u = Value.bool true := r'
      refine ⟨rfl, OldK.of_keep fun b o e => ?_, os', bare⟩
      cases q : H b with
      | none => exact un.keep b o e q List.not_mem_nil List.not_mem_nil
      | some u =>
        rcases hO b with z | ⟨ob, xs, z⟩
        · rw [q] at z
          cases z
        · obtain ⟨e1, _⟩ := hok b _ z
          obtain ⟨e2, _⟩ := hok' b _ (un.frzs b ob _ z)
          rw [e] at e1
          cases e1
          exact e2
theorem callG (KX : K.In s₁.heap) (hns : s₁.heap.Ns mainGlobals mg) (hb : s₁.heap.Ns builtinsNs mb) (hbb : ∀ x : Str, x ≠ "__name__" → mb x = bootBuiltins x) (hlim : s₁.heap.NoLimit) (hg : s₁.gens = #[])
    (ha : s₁.heap.get? a = some { cls := .type "list", data := .seq vs.toArray }) (hi : IntsAre vs ns) (hl : ns.length ≤ sizeLine) (hr : Room k callerA)
    (F : ∀ base : Heap, K.In base → base.Ns mainGlobals mg → FnG P w K mg base k fa fd [x] sp) (hbind : ∀ (s : Shared) (u : Value), BindsTo s fd ⟨[u], []⟩ [(x, u)])
    (hsp : ∀ H : Hp, Only H → SqL K H a (ns.map V.int) → sp [.ref a] H (fun v _ => v = .bl true) E0) :
    codeAny (model P w) callerA (.call (.ref fa) ⟨[.ref a], []⟩) (fun r s' => r = .ok (.ret (.bool true)) ∧ OldK s₁.heap s'.heap ∧ s'.os = s₁.os ∧ AllBare s'.gens) s₁ := by
  have rv := vals_ints hi
  have hsc : ∃ o : Obj, s₁.heap.get? a = some o ∧ ∀ es ep, o.data ≠ .dict es ep := ⟨_, ha, fun _ _ z => nomatch z⟩
  cases hk : K.lookup a with
  | some o =>
    have e := KX a o hk
    rw [ha] at e
    cases e
    refine enterG (H := fun _ => none) KX hns hb hbb hlim hg hsc hr F hbind (hsp _ (fun _ => .inl rfl) (.inr ⟨_, vs.toArray, _, hk, rfl, rfl, rfl, by rw [List.size_toArray, hi.length]; exact hl, by simpa using rv⟩))
      (fun _ => .inl rfl) (fun b u z => nomatch (show (none : Option HO) = some u from z)) (fun b z => absurd rfl z) fun z => absurd rfl z
  | none =>
    have one : ∀ {b : Addr} {u : HO}, (if b = a then some (HO.frz { cls := .type "list", data := .seq vs.toArray } (.lst (ns.map V.int))) else none) = some u → b = a := fun {b u} z => by
      by_cases q : b = a
      · exact q
      · rw [if_neg q] at z
        cases z
    have hO : Only (fun b => if b = a then some (HO.frz { cls := .type "list", data := .seq vs.toArray } (.lst (ns.map V.int))) else none) := fun b => by
      by_cases q : b = a
      · exact .inr ⟨_, _, if_pos q⟩
      · exact .inl (if_neg q)
    refine enterG KX hns hb hbb hlim hg hsc hr F hbind (hsp _ hO (.inl (.inr ⟨_, if_pos rfl⟩))) hO (fun b u z => ?_) (fun b z => ?_) fun _ => hk
    · have q := one z
      subst q
      have z' := (if_pos rfl).symm.trans z
      cases z'
      exact ⟨ha, by rw [List.length_map]; exact hl, vs, _, rv, ha⟩
    · cases q : (if b = a then some (HO.frz { cls := .type "list", data := .seq vs.toArray } (.lst (ns.map V.int))) else none) with
      | none => exact absurd q z
      | some u => exact one q
end
/-- the goal that the head leaves, from the law's promise -/
theorem walkG {l : PySem.W.OpenLaw} {n k : Nat} {q : Program} {loose : List Str} {XP : (Str → Option Value) → Heap → Prop} {YP : World → Heap → Prop} {d : DefRec} {K : Params → PySem.W.Frag} {sp : PySem.W.Frag → Sp} {x : Str}
    (hn : l.most = some n) (hn2 : n ≤ sizeLine) (hdf : d.params.defaults = []) (hr : Room k callerA) (hY : ∀ (w : World) (h : Heap), YP w h → (K w.params).In h)
    (F : ∀ (w : World) (mg : Str → Option Value) (fa : Addr) (h : Heap), (K w.params).In h → h.Ns mainGlobals mg → mg d.name = some (.ref fa) →
      ∃ fd : FuncData, (∀ (s : Shared) (u : Value), BindsTo s fd ⟨[u], []⟩ [(x, u)]) ∧
        ∀ base : Heap, (K w.params).In base → base.Ns mainGlobals mg → FnG l.prog w (K w.params) mg base k fa fd [x] (sp (K w.params)))
    (hsp : ∀ (K : PySem.W.Frag) (H : Hp) (a : Addr) (ns : List Int), ns.length ≤ n → Only H → SqL K H a (ns.map V.int) → sp K [.ref a] H (fun v _ => v = .bl true) E0) :
    PySem.W.WalkO q loose XP YP l.row.toRowW d [] (fun f vs => PySem.call f vs) := by
  refine Att.attach_call hn hdf fun w s₀ s₁ mg mb fa o pm cd doc a vs ns G Y ho hd hcd hmg hobj hints hlen hg => ?_
  have KX := hY w _ Y
  obtain ⟨fd, hb, hF⟩ := F w mg fa _ KX G.T.g hmg
  exact callG KX G.T.g G.T.b G.T.builtins G.T.nolimit hg hobj hints (Nat.le_trans hlen hn2) hr hF hb fun H hO hS => hsp _ H a ns hlen hO hS
/-! ### repr of data -/
section
variable {X : Cx}
/-- repr(x), x an object that holds data -/
def rRepr (K : PySem.W.Frag) : List V → Hp → VK → Prop := fun xs H Q => ∃ (a : Addr) (d : PyData), xs = [.ref a] ∧ Dp K H (.ref a) d ∧ d.showable = true ∧ d.hasDict = false ∧ d.depth ≤ 60 ∧ d.shown.length ≤ sizeLine ∧ Q (.str d.shown) H
theorem cr_repr {k : Nat} (hgd : Gd X.A) (hr : Room k X.A) : CallR X (.builtin "repr") (rRepr X.K) := by
  intro pins s σ H xs us Q I r h
  obtain ⟨a, d, rfl, hd, hs, hn, hdp, hz, q⟩ := h
  obtain ⟨u, rfl, ru⟩ := Vals.one r
  cases ru
  obtain ⟨as, rd⟩ := Dp.reads I d _ _ hd rfl
  have hu := hr.un
  refine repr_of_reads' rd hs (fun z => by rw [hn] at z; cases z) hgd (by omega) (fun _ _ e => e) (fun h' u tk hk => ?_) hz
  exact ⟨.str d.shown, H, I.kept hk, ⟨u, rfl⟩, q⟩
end
end Zg
set_option Elab.async false
set_option linter.all false
set_option maxRecDepth 100000
set_option maxHeartbeats 4000000
/-! Zr: some rules of values: xs.extend(a tuple), t * 1. -/
namespace Zr
open PySem PySem.Spec PyProof.Rows L2
theorem extend_tup (l : Addr) (items : Array Value) (n : Nat) (b : Addr) (items2 : Array Value) (n2 : Nat) (dd : Option Addr) (sl : Array (Option Value)) (hs0 : ¬(!items.isEmpty && Builtin.List.listTooLong (items.size + items2.size)) = true) (hs1 : items.size ≤ sizeLine) (hs2 : items.size + items2.size ≤ sizeLine + 1) :
    Meets (Builtin.«list.extend» ⟨[.ref l, .ref b], []⟩) (fun _ R s => s.heap.get? l = some { cls := .type "list", dict := none, data := .seq items n, slots := #[] } ∧ s.heap.get? b = some { cls := .type "tuple", dict := dd, data := .seq items2 n2, slots := sl } ∧
      R (.ok (.ret Value.none)) { s with heap := s.heap.update l (Obj.mapSeq fun x => x ++ items2), toks := s.toks }) :=
  .of_wp fun prog w A R s h => by
    obtain ⟨hp, g, d, tk, os⟩ := s
    obtain ⟨hl, hb, h⟩ := h
    have f1 := AutoSeq1.idx_int
    have f2 := AutoSeq1.sub_tuple_tuple
    have f3 := AutoSeq1.sub_list_list
    have f4 := AutoSeq1.sub_tuple_list
    have f5 := AutoSeq1.sub_list_tuple
    have hz' : (items ++ items2).size ≤ sizeLine + 1 := by rw [Array.size_append]; exact hs2
    wp_walk using (wpAny_updateSeq hl rfl (hz := hs1) (_hz' := hz')), wpAny_loadPart' hl, wpAny_loadPart' hb
    exact ⟨_, rfl, h⟩
theorem tuple_mul1 (l : Addr) (items : Array Value) (n : Nat) (dd : Option Addr) (sl : Array (Option Value)) (u : Tok) :
    Meets (Builtin.«tuple.__mul__» ⟨[.ref l, .int 1 u], []⟩) (fun _ R s => s.heap.get? l = some { cls := .type "tuple", dict := dd, data := .seq items n, slots := sl } ∧ R (.ok (.ret (Value.ref l))) s) :=
  .of_wp fun prog w A R s h => by
    obtain ⟨hp, g, d, tk, os⟩ := s
    obtain ⟨hl, h⟩ := h
    have f1 := AutoSeq1.idx_int
    have c0 : (decide ((1 : Int) < -(2 ^ 63)) || decide ((1 : Int) ≥ 2 ^ 63)) = false := by decide
    have c1 : (items.isEmpty || (1 : Int) == 1) = true := by simp
    wp_walk using wpAny_loadPart' hl
    repeat (first
      | (refine wpAny_ite_false (decide_eq_false (by rw [c0]; exact Bool.false_ne_true)) ?_; wp_walk using wpAny_loadPart' hl)
      | (refine wpAny_ite_true (decide_eq_true c1) ?_; wp_walk using wpAny_loadPart' hl))
    exact ⟨_, rfl, h⟩
section
variable {X : Cx}
def rExtT (K : PySem.W.Frag) : V → List V → Hp → VK → Prop := fun x vs H Q => ∃ l b xs zs, x = .ref l ∧ vs = [.ref b] ∧ H l = some (.lst xs) ∧ SqT K H b zs ∧ xs.length + zs.length ≤ sizeLine ∧ Q .non (upd H l (.lst (xs ++ zs)))
theorem mt_extT : MtM X "list.extend" (rExtT X.K) := by
  intro pins s σ H x vs v us Q I rx rv h
  obtain ⟨l, b, xs, zs, rfl, rfl, hH, hB, hz, q⟩ := h
  cases rx
  obtain ⟨u, rfl, ru⟩ := rv.one
  cases ru
  obtain ⟨z, its, n, r, hl, e⟩ := I.lstM hH
  obtain ⟨its2, r2, ⟨⟨cls, dd, data, sl⟩, ho, hc, n2, hd⟩, _⟩ := I.tuple hB
  simp only at hc hd
  subst hc hd
  have hl2 := r2.length
  have hsz : its.toArray.size + its2.toArray.size ≤ sizeLine := by rw [List.size_toArray, List.size_toArray]; omega
  have hlong : ¬ (!its.toArray.isEmpty && Builtin.List.listTooLong (its.toArray.size + its2.toArray.size)) = true := by
    rw [notLongL hsz, Bool.and_false]
    exact Bool.false_ne_true
  refine call_meets F.slot_list_extend ⟨_, e, rfl⟩ F.entry_list_extend (F.args_list_extend_2 _ _)
    (extend_tup l its.toArray n b its2.toArray n2 dd sl hlong (by rw [List.size_toArray]; omega) (by omega)) ⟨e, ho, ?_⟩
  refine ⟨.non, _, I.lset (its' := its ++ its2) hH e (by simp) (r.append r2) ?_, rfl, q⟩
  rw [List.length_append]
  omega
/-- t * k, k from 1 on -/
def rRep1 (K : PySem.W.Frag) : R2 := fun x y H Q => ∃ l k xs, x = .ref l ∧ y = .int k ∧ SqT K H l xs ∧ xs ≠ [] ∧ 1 ≤ k ∧ k ≤ 1000 ∧ xs.length ≤ 1000 ∧ (k = 1 → Q (.ref l) H) ∧ (k ≠ 1 → ∀ p, H p = none → Q (.ref p) (upd H p (.tup (List.replicate k.toNat xs).flatten)))
theorem op_rep1 : OpR X (binaryOp .Mult) (rRep1 X.K) := by
  intro pins s σ H x y v u Q I rx ry h
  obtain ⟨l, k, xs, rfl, rfl, hT, hne, h1, h2, hz, q1, q2⟩ := h
  by_cases hk : k = 1
  · subst hk
    cases rx
    obtain ⟨t, rfl⟩ := ry
    obtain ⟨its, r, ⟨⟨cls, dd, data, sl⟩, ho, hc, n, hd⟩, hs⟩ := I.tuple hT
    simp only at hc hd
    subst hc hd
    refine wpAny_binaryOp_repeat_ref (T := "tuple") (U := "int") (by decide) ⟨_, ho, rfl⟩ (fun s' => typeIs_int s' 1 t) noFill_tuple_mul F.fills_int_mul F.slot_int_rmul repeat_tuple F.slot_int_index.lookup
      (call_meets F.slot_int_rmul (typeIs_int s 1 t) F.entry_int_rmul (F.args_int_rmul_2 _ _) (int_rmul_tuple 1 t l its.toArray n dd sl)
        ⟨ho, rfl, ⟨_, ho, rfl⟩, call_meets F.slot_tuple_mul ⟨_, ho, rfl⟩ F.entry_tuple_mul (F.args_tuple_mul_2 _ _) (tuple_mul1 l its.toArray n dd sl t) ⟨ho, ?_⟩⟩)
    exact ⟨.ref l, H, I, rfl, q1 rfl⟩
  · exact op_repT pins s σ H _ _ v u Q I rx ry ⟨l, k, xs, rfl, rfl, hT, hne, by omega, h2, hz, q2 hk⟩
end
end Zr
set_option Elab.async false
set_option linter.all false
set_option maxRecDepth 100000
set_option maxHeartbeats 4000000
/-! Zd: data whose leaves are small: they can be shown, compared. -/
namespace Zd
open PySem PySem.Spec PyProof.Rows L2
mutual
def okd : PyData → Bool
  | .none | .bool _ => true
  | .int i => decide (i.natAbs < 10 ^ 40)
  | .str x => PyData.strOk x
  | .list xs | .tuple xs => okAll xs
  | .dict _ => false
def okAll : List PyData → Bool
  | [] => true
  | x :: xs => okd x && okAll xs
end
theorem okAll_iff : ∀ {l : List PyData}, okAll l = true ↔ ∀ d ∈ l, okd d = true
  | [] => by simp [okAll]
  | x :: l => by
    rw [okAll, Bool.and_eq_true, okAll_iff (l := l)]
    simp
theorem int_log {i : Int} (h : i.natAbs < 10 ^ 40) : i.natAbs.log2 < 1920 :=
  Nat.lt_of_lt_of_le (PySem.Flt.log2_lt_of (n := i.natAbs) (k := 133) (by decide) (Nat.lt_trans h (by decide))) (by decide)
mutual
theorem okd_short : ∀ d : PyData, okd d = true → d.leavesShort 44 = true
  | .none, _ => rfl
  | .bool _, _ => rfl
  | .int i, h => by
    have h' : i.natAbs < 10 ^ 40 := of_decide_eq_true h
    have q := int_text_length_le10 (k := 40) (by decide) h'
    show decide ((PyData.shown (.int i)).length ≤ 44) = true
    refine decide_eq_true ?_
    show (PySem.Str.ofString (toString i)).length ≤ 44
    rw [PySem.ofString_length]
    omega
  | .str x, h => by
    have h' : x.cps.all (· < 0x110000) = true := h
    show x.cps.toList.all (fun c => decide (c < 16 ^ 8)) = true
    rw [List.all_eq_true]
    intro c hc
    rw [Array.all_eq_true'] at h'
    have q := h' c (by simpa using hc)
    have q' : c < 0x110000 := by simpa using q
    exact decide_eq_true (Nat.lt_trans q' (by decide))
  | .list xs, h => okAll_short xs h
  | .tuple xs, h => okAll_short xs h
  | .dict _, h => by cases h
theorem okAll_short : ∀ l : List PyData, okAll l = true → PyData.leavesShortAll 44 l = true
  | [], _ => rfl
  | x :: l, h => by
    rw [okAll, Bool.and_eq_true] at h
    show (PyData.leavesShort 44 x && PyData.leavesShortAll 44 l) = true
    rw [okd_short x h.1, okAll_short l h.2]
    rfl
end
mutual
theorem okd_show : ∀ d : PyData, okd d = true → d.showable = true ∧ d.canLay0 = true ∧ d.hasDict = false
  | .none, _ => ⟨rfl, rfl, rfl⟩
  | .bool _, _ => ⟨rfl, rfl, rfl⟩
  | .int i, h => ⟨decide_eq_true (int_log (of_decide_eq_true h)), rfl, rfl⟩
  | .str x, h => ⟨rfl, h, rfl⟩
  | .list xs, h => okAll_show xs h
  | .tuple xs, h => okAll_show xs h
  | .dict _, h => by cases h
theorem okAll_show : ∀ l : List PyData, okAll l = true → PyData.showableAll l = true ∧ PyData.canLayAll0 l = true ∧ PyData.hasDictAll l = false
  | [], _ => ⟨rfl, rfl, rfl⟩
  | x :: l, h => by
    rw [okAll, Bool.and_eq_true] at h
    obtain ⟨a1, a2, a3⟩ := okd_show x h.1
    obtain ⟨b1, b2, b3⟩ := okAll_show l h.2
    refine ⟨?_, ?_, ?_⟩
    · show (PyData.showable x && PyData.showableAll l) = true
      rw [a1, b1]; rfl
    · show (PyData.canLay0 x && PyData.canLayAll0 l) = true
      rw [a2, b2]; rfl
    · show (PyData.hasDict x || PyData.hasDictAll l) = false
      rw [a3, b3]; rfl
end
theorem okd_fits {d : PyData} (h : okd d = true) (hb : d.bulk ≤ 300000) : d.shown.length ≤ sizeLine := by
  have q := PyData.shown_le_bulk 44 (by decide) d (okd_short d h)
  rw [sizeLine_eq]
  omega
theorem shaped_of {d : PyData} (h : okd d = true) (hd : d.depth ≤ 60) : SeqAt.shaped d = true := by
  show (d.canLay0 && decide (d.depth ≤ 64)) = true
  rw [(okd_show d h).2.1, decide_eq_true (by omega)]
  rfl
/-- repr(x), x an object that holds small data -/
theorem repr_of {K : PySem.W.Frag} {a : Addr} {d : PyData} {H : Hp} {Q : VK} (hd : Dp K H (.ref a) d) (h : okd d = true) (hp : d.depth ≤ 60) (hb : d.bulk ≤ 300000) (q : Q (.str d.shown) H) : Zg.rRepr K [.ref a] H Q :=
  ⟨a, d, rfl, hd, (okd_show d h).1, (okd_show d h).2.2, hp, okd_fits h hb, q⟩
theorem dpAll_of {K : PySem.W.Frag} {H : Hp} {α : Type} (f : α → V) (g : α → PyData) : ∀ {l : List α}, (∀ x ∈ l, Dp K H (f x) (g x)) → DpAll K H (l.map f) (l.map g)
  | [], _ => .nil
  | x :: l, h => .cons (h x List.mem_cons_self) (dpAll_of f g fun y hy => h y (List.mem_cons_of_mem _ hy))
theorem dp_ints {K : PySem.W.Frag} {H : Hp} (ns : List Int) : DpAll K H (ns.map V.int) (ns.map PyData.int) := dpAll_of V.int PyData.int fun x _ => .int x
mutual
theorem dp_mono {K : PySem.W.Frag} {H H' : Hp} (k : ∀ a o, H a = some o → H' a = some o) : ∀ (d : PyData) (v : V), Dp K H v d → Dp K H' v d
  | _, _, .non => .non
  | _, _, .bl b => .bl b
  | _, _, .int i => .int i
  | _, _, .str x => .str x
  | _, _, .lst (xs := xs) (ds := ds) hs ha => .lst (by
      rcases hs with (h | ⟨o, h⟩) | h
      · exact .inl (.inl (k _ _ h))
      · exact .inl (.inr ⟨o, k _ _ h⟩)
      · exact .inr h) (dpAll_mono k ds xs ha)
  | _, _, .tup (xs := xs) (ds := ds) hs ha => .tup (by
      rcases hs with (h | ⟨o, h⟩) | h
      · exact .inl (.inl (k _ _ h))
      · exact .inl (.inr ⟨o, k _ _ h⟩)
      · exact .inr h) (dpAll_mono k ds xs ha)
theorem dpAll_mono {K : PySem.W.Frag} {H H' : Hp} (k : ∀ a o, H a = some o → H' a = some o) : ∀ (ds : List PyData) (vs : List V), DpAll K H vs ds → DpAll K H' vs ds
  | _, _, .nil => .nil
  | _, _, .cons h t => .cons (dp_mono k _ _ h) (dpAll_mono k _ _ t)
end
theorem depth_ints : ∀ ns : List Int, PyData.depthAll (ns.map PyData.int) = 0
  | [] => rfl
  | n :: r => by
    show max 0 (PyData.depthAll (r.map PyData.int)) = 0
    rw [depth_ints r]
    rfl
theorem lay_ints : ∀ ns : List Int, PyData.canLayAll0 (ns.map PyData.int) = true
  | [] => rfl
  | n :: r => lay_ints r
theorem shaped_ints (ns : List Int) : SeqAt.shaped (.list (ns.map PyData.int)) = true := by
  show (PyData.canLayAll0 (ns.map PyData.int) && decide (PyData.depthAll (ns.map PyData.int) + 1 ≤ 64)) = true
  rw [lay_ints, depth_ints]
  rfl
theorem eqv_empty (ns : List Int) : PyData.eqv (.list (ns.map PyData.int)) (.list []) = ns.isEmpty := by
  cases ns <;> rfl
end Zd
set_option Elab.async false
set_option linter.all false
set_option maxRecDepth 100000
set_option maxHeartbeats 4000000
/-! Zv: values of any kind: none, bools, ints, texts, lists, tuples, empty dicts, none of whose objects is one of S. -/
namespace Zv
open PySem PySem.Spec PyProof.Rows L2 Zg Zd
/-! ### the heap but for some -/
/-- all that was tracked but at the addresses of S is as it was -/
def Kp (S : List Addr) (H H' : Hp) : Prop := ∀ a o, a ∉ S → H a = some o → H' a = some o
theorem Kp.refl (S : List Addr) (H : Hp) : Kp S H H := fun _ _ _ e => e
theorem Kp.trans {S : List Addr} {H H1 H2 : Hp} (a : Kp S H H1) (b : Kp S H1 H2) : Kp S H H2 := fun x o n e => b x o n (a x o n e)
theorem Kp.new {S : List Addr} {H : Hp} {p : Addr} {o : HO} (h : H p = none) : Kp S H (upd H p o) := fun a u _ e => by
  rw [upd_ne (ne_of_none e h)]
  exact e
theorem Kp.wr {S : List Addr} {H H' : Hp} {p : Addr} {o : HO} (k : Kp S H H') (h : p ∈ S ∨ H p = none) : Kp S H (upd H' p o) := fun a u n e => by
  have q : a ≠ p := fun z => by
    subst z
    rcases h with h | h
    · exact n h
    · rw [h] at e
      cases e
  rw [upd_ne q]
  exact k a u n e
theorem Kp.of {S : List Addr} {H H' : Hp} (k : Same H H') : Kp S H H' := fun a o _ e => k a o e
theorem Kp.sub {S S' : List Addr} {H H' : Hp} (h : Kp S H H') (e : ∀ a ∈ S, a ∈ S') : Kp S' H H' := fun a o n => h a o fun m => n (e a m)
theorem Kp.free {S : List Addr} {H H' : Hp} (k : Kp S H H') {p : Addr} (n : p ∉ S) (h : H' p = none) : H p = none := by
  cases q : H p with
  | none => rfl
  | some o =>
    rw [k p o n q] at h
    cases h
theorem Kp.seq {K : PySem.W.Frag} {S : List Addr} {H H' : Hp} {a : Addr} {xs : List V} (k : Kp S H H') (n : a ∉ S) (h : SqL K H a xs) : SqL K H' a xs := by
  rcases h with (h | ⟨o, h⟩) | h
  · exact .inl (.inl (k _ _ n h))
  · exact .inl (.inr ⟨o, k _ _ n h⟩)
  · exact .inr h
theorem same_new {H : Hp} {p : Addr} {o : HO} (hp : H p = none) : Same H (upd H p o) := fun b u e => by rw [upd_ne (ne_of_none e hp)]; exact e
/-! ### the values -/
mutual
inductive Dv (S : List Addr) (H : Hp) : V → PyData → Prop
  | non : Dv S H .non .none
  | bl (b : Bool) : Dv S H (.bl b) (.bool b)
  | int (i : Int) : Dv S H (.int i) (.int i)
  | str (x : Str) : Dv S H (.str x) (.str x)
  | lst {a : Addr} {xs : List V} {ds : List PyData} : H a = some (.lst xs) → a ∉ S → DvAll S H xs ds → Dv S H (.ref a) (.list ds)
  | tup {a : Addr} {xs : List V} {ds : List PyData} : H a = some (.tup xs) → a ∉ S → DvAll S H xs ds → Dv S H (.ref a) (.tuple ds)
  | dic {a : Addr} : H a = some (.dK []) → a ∉ S → Dv S H (.ref a) (.dict [])
inductive DvAll (S : List Addr) (H : Hp) : List V → List PyData → Prop
  | nil : DvAll S H [] []
  | cons {v : V} {vs : List V} {d : PyData} {ds : List PyData} : Dv S H v d → DvAll S H vs ds → DvAll S H (v :: vs) (d :: ds)
end
mutual
theorem Dv.kp {S : List Addr} {H H' : Hp} (k : Kp S H H') : ∀ {v : V} {d : PyData}, Dv S H v d → Dv S H' v d
  | _, _, .non => .non
  | _, _, .bl b => .bl b
  | _, _, .int i => .int i
  | _, _, .str x => .str x
  | _, _, .lst h n t => .lst (k _ _ n h) n (DvAll.kp k t)
  | _, _, .tup h n t => .tup (k _ _ n h) n (DvAll.kp k t)
  | _, _, .dic h n => .dic (k _ _ n h) n
theorem DvAll.kp {S : List Addr} {H H' : Hp} (k : Kp S H H') : ∀ {vs : List V} {ds : List PyData}, DvAll S H vs ds → DvAll S H' vs ds
  | _, _, .nil => .nil
  | _, _, .cons h t => .cons (Dv.kp k h) (DvAll.kp k t)
end
mutual
theorem Dv.sub {S S' : List Addr} {H : Hp} (e : ∀ a ∈ S', a ∈ S) : ∀ {v : V} {d : PyData}, Dv S H v d → Dv S' H v d
  | _, _, .non => .non
  | _, _, .bl b => .bl b
  | _, _, .int i => .int i
  | _, _, .str x => .str x
  | _, _, .lst h n t => .lst h (fun m => n (e _ m)) (DvAll.sub e t)
  | _, _, .tup h n t => .tup h (fun m => n (e _ m)) (DvAll.sub e t)
  | _, _, .dic h n => .dic h (fun m => n (e _ m))
theorem DvAll.sub {S S' : List Addr} {H : Hp} (e : ∀ a ∈ S', a ∈ S) : ∀ {vs : List V} {ds : List PyData}, DvAll S H vs ds → DvAll S' H vs ds
  | _, _, .nil => .nil
  | _, _, .cons h t => .cons (Dv.sub e h) (DvAll.sub e t)
end
theorem DvAll.append {S : List Addr} {H : Hp} : ∀ {vs ws : List V} {ds es : List PyData}, DvAll S H vs ds → DvAll S H ws es → DvAll S H (vs ++ ws) (ds ++ es)
  | _, _, _, _, .nil, h => h
  | _, _, _, _, .cons a t, h => .cons a (DvAll.append t h)
theorem DvAll.length {S : List Addr} {H : Hp} : ∀ {vs : List V} {ds : List PyData}, DvAll S H vs ds → vs.length = ds.length
  | _, _, .nil => rfl
  | _, _, .cons _ t => by rw [List.length_cons, List.length_cons, DvAll.length t]
theorem DvAll.drop {S : List Addr} {H : Hp} : ∀ (n : Nat) {vs : List V} {ds : List PyData}, DvAll S H vs ds → DvAll S H (vs.drop n) (ds.drop n)
  | 0, _, _, h => h
  | n + 1, _, _, .nil => .nil
  | n + 1, _, _, .cons _ t => DvAll.drop n t
theorem DvAll.take {S : List Addr} {H : Hp} : ∀ (n : Nat) {vs : List V} {ds : List PyData}, DvAll S H vs ds → DvAll S H (vs.take n) (ds.take n)
  | 0, _, _, _ => .nil
  | n + 1, _, _, .nil => .nil
  | n + 1, _, _, .cons h t => .cons h (DvAll.take n t)
theorem DvAll.get {S : List Addr} {H : Hp} : ∀ {vs : List V} {ds : List PyData}, DvAll S H vs ds → ∀ {i : Nat} {v : V}, vs[i]? = some v → ∃ d, ds[i]? = some d ∧ Dv S H v d
  | _, _, .nil, i, v, e => by cases e
  | _, _, .cons (d := d) h t, 0, v, e => ⟨d, rfl, by cases e; exact h⟩
  | _, _, .cons h t, i + 1, v, e => DvAll.get t (i := i) e
section
variable {X : Cx} {pins : List (Addr × Obj)} {σ : L2.St} {H : Hp} {s : Shared} {S : List Addr}
/-- the object of an empty dict -/
theorem dic_at (I : Inv X pins σ H s) {a : Addr} (h : H a = some (.dK [])) : (a == sysModules) = false ∧ ∃ o n, s.heap.get? a = some o ∧ o.cls = .type "dict" ∧ o.data = .dict #[] n := by
  obtain ⟨_, hd, vs, kv, o, es, ep, h1, h2, h3, h4, h5, h6⟩ := dk_rd I.hok (.inl h)
  refine ⟨hd, o, ep, h1, h2.1, ?_⟩
  cases kv
  have e : es.toList = [] := by
    cases h5' : es.toList with
    | nil => rfl
    | cons x l => rw [h5'] at h5; cases h5
  have e2 : es = #[] := by
    obtain ⟨l⟩ := es
    simp only at e
    rw [e]
  rw [h3, e2]
mutual
theorem Dv.reads (I : Inv X pins σ H s) : ∀ {v : V} {d : PyData} (u : Value), Dv S H v d → RelV v u → ∃ as, Reads s.heap u d as
  | _, _, _, .non, r => by cases r; exact ⟨_, Reads.none⟩
  | _, _, _, .bl b, r => by cases r; exact ⟨_, Reads.bool b⟩
  | _, _, _, .int i, r => by obtain ⟨t, rfl⟩ := r; exact ⟨_, Reads.int i t⟩
  | _, _, _, .str x, r => by obtain ⟨t, rfl⟩ := r; exact ⟨_, Reads.str x t⟩
  | _, _, _, .lst h n t, r => by
    cases r
    obtain ⟨z, its, m, rv, _, e⟩ := I.lstM h
    obtain ⟨as, q⟩ := DvAll.reads I its t rv
    exact ⟨_, Reads.list e rfl rfl q⟩
  | _, _, _, .tup h n t, r => by
    cases r
    obtain ⟨its, rv, ⟨o, ho, hc, m, hd⟩, _⟩ := I.tuple (X := X) (SqT.of h)
    obtain ⟨as, q⟩ := DvAll.reads I its t rv
    exact ⟨_, Reads.tuple ho hc hd q⟩
  | _, _, _, .dic h n, r => by
    cases r
    obtain ⟨_, o, m, h1, h2, h3⟩ := dic_at I h
    exact ⟨_, Reads.dict h1 h2 h3 .nil .nil⟩
theorem DvAll.reads (I : Inv X pins σ H s) : ∀ {vs : List V} {ds : List PyData} (us : List Value), DvAll S H vs ds → Vals vs us → ∃ as, ReadsAll s.heap us ds as
  | _, _, _, .nil, r => by cases r; exact ⟨_, ReadsAll.nil⟩
  | _, _, _, .cons h t, r => by
    cases r with
    | cons r1 r2 =>
      obtain ⟨as, q1⟩ := Dv.reads I _ h r1
      obtain ⟨bs, q2⟩ := DvAll.reads I _ t r2
      exact ⟨_, ReadsAll.cons q1 q2⟩
end
end
/-! ### repr -/
section
variable {X : Cx} {pins : List (Addr × Obj)} {σ : L2.St} {H : Hp} {s : Shared} {S : List Addr}
mutual
/-- how such a value shows within another -/
theorem Dv.under (I : Inv X pins σ H s) : ∀ {v : V} {d : PyData} (u : Value), Dv S H v d → RelV v u → d.showable = true → d.shown.length ≤ sizeLine → ∃ bs, ReadAtMost s.heap d.depth bs ∧ ReprK X.prog X.w bs s.heap d.depth u d.shown
  | _, _, _, .non, r, _, _ => by
    cases r
    exact ⟨[], fun _ h => (nomatch h), ReprK.of_is ReprIs.none _ _ _⟩
  | _, _, _, .bl b, r, _, _ => by
    cases r
    exact ⟨[], fun _ h => (nomatch h), ReprK.of_is (ReprIs.bool b) _ _ _⟩
  | _, _, _, .int i, r, hs, _ => by
    obtain ⟨t, rfl⟩ := r
    exact ⟨[], fun _ h => (nomatch h), ReprK.of_is (ReprIs.int t (of_decide_eq_true hs)) _ _ _⟩
  | _, _, _, .str x, r, _, hz => by
    obtain ⟨t, rfl⟩ := r
    exact ⟨[], fun _ h => (nomatch h), ReprK.of_is (ReprIs.str x t hz) _ _ _⟩
  | _, _, _, .lst (a := a) (xs := xs) (ds := ds) h n t, r, hs, hz => by
    obtain ⟨as, hr⟩ := Dv.reads I _ (Dv.lst h n t) r
    cases r
    obtain ⟨_, its, m, rv, _, e⟩ := I.lstM h
    have hz' : (listText (PyData.shownAll ds)).length ≤ sizeLine := hz
    obtain ⟨bs, hb, hk⟩ := DvAll.under I its t rv hs fun x hx => Nat.le_trans (listText_mem_le hx) hz'
    have na : a ∉ bs := not_mem_of_deeper hr (Nat.lt_succ_self _) hb
    refine ⟨a :: bs, ReadAtMost.cons hr (Nat.le_succ _) hb, ?_⟩
    cases its with
    | nil =>
      cases rv
      cases t
      show ReprK X.prog X.w _ s.heap 1 (.ref a) (listText [])
      rw [listText_nil]
      exact ReprK.listEmpty e rfl rfl
    | cons y l => exact ReprK.list e rfl rfl na (by simpa using hk.length_eq) fun i z q => hk.item i z (by simpa using q)
  | _, _, _, .tup (a := a) (xs := xs) (ds := ds) h n t, r, hs, hz => by
    obtain ⟨as, hr⟩ := Dv.reads I _ (Dv.tup h n t) r
    cases r
    obtain ⟨its, rv, ⟨o, ho, hc, m, hd⟩, _⟩ := I.tuple (X := X) (SqT.of h)
    have hz' : (tupleText (PyData.shownAll ds)).length ≤ sizeLine := hz
    obtain ⟨bs, hb, hk⟩ := DvAll.under I its t rv hs fun x hx => Nat.le_trans (tupleText_mem_le hx) hz'
    have na : a ∉ bs := not_mem_of_deeper hr (Nat.lt_succ_self _) hb
    exact ⟨a :: bs, ReadAtMost.cons hr (Nat.le_succ _) hb, ReprK.tuple ho hc hd na (by simpa using hk)⟩
  | _, _, _, .dic (a := a) h n, r, hs, hz => by
    obtain ⟨as, hr⟩ := Dv.reads I _ (Dv.dic (S := S) h n) r
    cases r
    obtain ⟨lo, o, m, h1, h2, h3⟩ := dic_at I h
    refine ⟨[a], fun b hb => ?_, ReprK.dict (ps := []) h1 h2 h3 lo (fun z => nomatch z) .nil⟩
    rw [List.mem_singleton] at hb
    subst hb
    exact ⟨_, _, hr, Nat.le_refl _⟩
theorem DvAll.under (I : Inv X pins σ H s) : ∀ {vs : List V} {ds : List PyData} (us : List Value), DvAll S H vs ds → Vals vs us → PyData.showableAll ds = true → (∀ t ∈ PyData.shownAll ds, t.length ≤ sizeLine) →
    ∃ bs, ReadAtMost s.heap (PyData.depthAll ds) bs ∧ ReprAllK X.prog X.w bs s.heap (PyData.depthAll ds) us (PyData.shownAll ds)
  | _, _, _, .nil, r, _, _ => by
    cases r
    exact ⟨[], fun _ h => (nomatch h), .nil⟩
  | _, _, _, .cons (d := d) (ds := ds) h t, r, hs, hz => by
    cases r with
    | cons r1 r2 =>
      have hs' : (d.showable && PyData.showableAll ds) = true := hs
      rw [Bool.and_eq_true] at hs'
      obtain ⟨b1, q1, k1⟩ := Dv.under I _ h r1 hs'.1 (hz _ List.mem_cons_self)
      obtain ⟨b2, q2, k2⟩ := DvAll.under I _ t r2 hs'.2 fun x hx => hz x (List.mem_cons_of_mem _ hx)
      exact ⟨b1 ++ b2, (q1.mono (Nat.le_max_left _ _)).append (q2.mono (Nat.le_max_right _ _)),
        .cons ((k1.more fun b hb => List.mem_append_left _ hb).level_le (Nat.le_max_left _ _)) (k2.more_le (fun b hb => List.mem_append_right _ hb) (Nat.le_max_right _ _))⟩
end
end
section
variable {X : Cx}
/-- repr(x), x any such value -/
def rReprV (S : List Addr) : List V → Hp → VK → Prop := fun xs H Q => ∃ (v : V) (d : PyData), xs = [v] ∧ Dv S H v d ∧ d.showable = true ∧ d.depth ≤ 60 ∧ d.shown.length ≤ sizeLine ∧ Q (.str d.shown) H
theorem cr_reprV {S : List Addr} {k : Nat} (hgd : Gd X.A) (hr : Room k X.A) : CallR X (.builtin "repr") (rReprV S) := by
  intro pins s σ H xs us Q I r h
  obtain ⟨v, d, rfl, hd, hs, hdp, hz, q⟩ := h
  obtain ⟨u, rfl, ru⟩ := Vals.one r
  have hu := hr.un
  have hg1 : X.A.in1.guards = some [] := hgd
  have fin : ∀ (h' : Heap) (u : Tok) (tk : Nat), (∀ b o, s.heap.get? b = some o → h'.get? b = some o) → EP X pins σ Q (.str d.shown u) { s with heap := h', toks := tk } := fun h' u tk hk => ⟨.str d.shown, H, I.kept hk, ⟨u, rfl⟩, q⟩
  cases hd with
  | non => cases ru; exact PySem.P.repr_of_none ⟨.str _, H, I.tok _, ⟨_, rfl⟩, q⟩
  | bl b => cases ru; exact PySem.P.repr_of_bool ⟨.str _, H, I.tok _, ⟨_, rfl⟩, q⟩
  | int i => obtain ⟨t, rfl⟩ := ru; exact PySem.P.repr_of_int (of_decide_eq_true hs) ⟨.str _, H, I.tok _, ⟨_, rfl⟩, q⟩
  | str x => obtain ⟨t, rfl⟩ := ru; exact PySem.P.repr_of_str ⟨.str _, H, I.tok _, ⟨_, rfl⟩, q⟩ hz
  | @lst a xs ds h n t =>
    obtain ⟨as, hr⟩ := Dv.reads I _ (Dv.lst h n t) ru
    cases ru
    obtain ⟨_, its, m, rv, _, e⟩ := I.lstM h
    have hz' : (listText (PyData.shownAll ds)).length ≤ sizeLine := hz
    obtain ⟨bs, hb, hk⟩ := DvAll.under I its t rv hs fun x hx => Nat.le_trans (listText_mem_le hx) hz'
    have na : a ∉ bs := not_mem_of_deeper hr (Nat.lt_succ_self _) hb
    have hdp' : PyData.depthAll ds + 1 ≤ 60 := hdp
    refine call_repr_slot (by omega) (T := "list") ⟨_, e, rfl⟩ F.slot_list_repr.toG ?_
    cases its with
    | nil =>
      cases rv
      cases t
      refine call_list_repr_empty ⟨_, e, rfl⟩ e rfl ?_
      have q2 := fin s.heap s.toks (s.toks + 1) fun _ _ e => e
      have e2 : PyData.shown (.list []) = "[]" := listText_nil
      rw [e2] at q2
      exact ⟨_, _, rfl, q2⟩
    | cons y l =>
      exact call_list_reprK (h₀ := s.heap) e rfl rfl na (by simpa using hk.length_eq) (fun i z q => hk.item i z (by simpa using q)) hg1 (fun b _ => Clear.nil b) (by show X.A.units + 1 + (PyData.depthAll ds + 1) < cLine; omega) (fun _ _ e => e) (fun h' u tk hk' => ⟨_, _, rfl, fin h' u tk hk'⟩) hz'
  | @tup a xs ds h n t =>
    obtain ⟨as, hr⟩ := Dv.reads I _ (Dv.tup h n t) ru
    cases ru
    obtain ⟨its, rv, ⟨o, ho, hc, m, hdt⟩, _⟩ := I.tuple (X := X) (SqT.of h)
    have hz' : (tupleText (PyData.shownAll ds)).length ≤ sizeLine := hz
    obtain ⟨bs, hb, hk⟩ := DvAll.under I its t rv hs fun x hx => Nat.le_trans (tupleText_mem_le hx) hz'
    have na : a ∉ bs := not_mem_of_deeper hr (Nat.lt_succ_self _) hb
    have hdp' : PyData.depthAll ds + 1 ≤ 60 := hdp
    refine call_repr_slot (by omega) (T := "tuple") ⟨_, ho, hc⟩ F.slot_tuple_repr ?_
    exact call_tuple_reprK (h₀ := s.heap) ho hc hdt na (by simpa using hk) hg1 (fun b _ => Clear.nil b) (by show X.A.units + 1 + (PyData.depthAll ds + 1) < cLine; omega) (fun _ _ e => e) (fun h' u tk hk' => ⟨_, _, rfl, fin h' u tk hk'⟩) hz'
  | @dic a h n =>
    cases ru
    obtain ⟨lo, o, m, h1, h2, h3⟩ := dic_at I h
    refine call_repr_slot (by omega) (T := "dict") ⟨_, h1, h2⟩ F.slot_dict_repr ?_
    exact call_dict_reprK (as := []) (h₀ := s.heap) (d := 0) (ps := []) h1 h2 h3 lo (fun z => nomatch z) .nil hg1 (fun b _ => Clear.nil b) (by show X.A.units + 1 + (0 + 1) < cLine; omega) (fun _ _ e => e) (fun h' u tk hk' => ⟨_, _, rfl, fin h' u tk hk'⟩) hz
end
/-! ### isinstance -/
def tyD : PyData → String
  | .none => "NoneType"
  | .bool _ => "bool"
  | .int _ => "int"
  | .str _ => "str"
  | .list _ => "list"
  | .tuple _ => "tuple"
  | .dict _ => "dict"
def CLS : List String := ["tuple", "list", "str", "int", "bool", "dict"]
def TYS : List String := ["NoneType", "bool", "int", "str", "list", "tuple", "dict"]
def isB (T t : String) : Bool := t == T || (T == "int" && t == "bool")
theorem kit_all (K : PySem.W.Frag) : ∀ T ∈ CLS, ∀ t ∈ TYS, PySem.W.kitOne K (.type t) (.type T) = some (isB T t) := by
  intro T hT t ht
  simp only [CLS, TYS, List.mem_cons, List.not_mem_nil, or_false] at hT ht
  rcases hT with rfl | rfl | rfl | rfl | rfl | rfl <;> rcases ht with rfl | rfl | rfl | rfl | rfl | rfl | rfl <;> rfl
/-- of which built-in class -/
def isA (T : String) (d : PyData) : Bool := isB T (tyD d)
theorem tyD_mem (d : PyData) : tyD d ∈ TYS := by
  cases d <;> simp [tyD, TYS]
section
variable {K : PySem.W.Frag} {S : List Addr} {H : Hp}
theorem Dv.ty {v : V} {d : PyData} (h : Dv S H v d) : TyX K H v (.type (tyD d)) := by
  cases h with
  | non => exact .base .non
  | bl b => exact .base (.bl b)
  | int i => exact .base (.int i)
  | str x => exact .base (.str x)
  | lst h _ _ => exact .base (.lst h)
  | tup h _ _ => exact .base (.tup h)
  | dic h _ => exact .base (.dK h)
/-- isinstance(x, T) -/
theorem Dv.isi {v : V} {d : PyData} {T : String} {Q : VK} (h : Dv S H v d) (hT : T ∈ CLS) (q : Q (.bl (isA T d)) H) : rIsi K [v, .ty T] H Q :=
  ⟨v, .ty T, .type (tyD d), .type T, isA T d, rfl, .ty T, h.ty, kit_all K T hT _ (tyD_mem d), q⟩
theorem Dv.tuple {v : V} {d : PyData} (h : Dv S H v d) (hi : isA "tuple" d = true) : ∃ a xs ds, v = .ref a ∧ d = .tuple ds ∧ H a = some (.tup xs) ∧ a ∉ S ∧ DvAll S H xs ds := by
  cases h with
  | tup h n t => exact ⟨_, _, _, rfl, rfl, h, n, t⟩
  | non => cases hi
  | bl b => cases hi
  | int i => cases hi
  | str x => cases hi
  | lst h n t => cases hi
  | dic h n => cases hi
theorem Dv.text {v : V} {d : PyData} (h : Dv S H v d) (hi : isA "str" d = true) : ∃ x, v = .str x ∧ d = .str x := by
  cases h with
  | str x => exact ⟨x, rfl, rfl⟩
  | non => cases hi
  | bl b => cases hi
  | int i => cases hi
  | lst h n t => cases hi
  | tup h n t => cases hi
  | dic h n => cases hi
theorem Dv.number {v : V} {d : PyData} (h : Dv S H v d) (hi : isA "int" d = true) (hb : isA "bool" d = false) : ∃ x, v = .int x ∧ d = .int x := by
  cases h with
  | int x => exact ⟨x, rfl, rfl⟩
  | bl b => cases hb
  | non => cases hi
  | str x => cases hi
  | lst h n t => cases hi
  | tup h n t => cases hi
  | dic h n => cases hi
end
/-! ### == of a list or a tuple and an empty one -/
section
variable {X : Cx}
def rEqE (K : PySem.W.Frag) (neg : Bool) : R2 := fun x y H Q => ∃ a b xs, x = .ref a ∧ y = .ref b ∧ ((SqL K H a xs ∧ SqL K H b []) ∨ (SqT K H a xs ∧ SqT K H b [])) ∧ Q (.bl (if neg then !xs.isEmpty else xs.isEmpty)) H
theorem op_eqE (hu : X.A.units < cLine) : OpR X (compareOp .Eq) (rEqE X.K false) := by
  intro pins s σ H x y v u Q I rx ry h
  obtain ⟨a, b, xs, rfl, rfl, hab, q⟩ := h
  cases rx
  cases ry
  have q' : Q (.bl xs.isEmpty) H := q
  rcases hab with ⟨ha, hb⟩ | ⟨ha, hb⟩
  · obtain ⟨its, r1, p1, _⟩ := I.list ha
    obtain ⟨its2, r2, p2, _⟩ := I.list hb
    cases r2
    cases r1 with
    | nil => exact SeqAt.eq_listAt (e := fun _ => true) p1.isList p2.isList rfl hu (fun j h1 => absurd h1 (Nat.not_lt_zero _)) ⟨.bl true, H, I, rfl, q'⟩
    | cons a1 a2 => exact SeqAt.eq_list_lengthsAt p1.isList p2.isList rfl hu ⟨.bl false, H, I, rfl, q'⟩
  · obtain ⟨its, r1, p1, _⟩ := I.tuple ha
    obtain ⟨its2, r2, p2, _⟩ := I.tuple hb
    cases r2
    cases r1 with
    | nil => exact SeqAt.eq_tupleAt (e := fun _ => true) p1 p2 hu (fun j h1 => absurd h1 (Nat.not_lt_zero _)) ⟨.bl true, H, I, rfl, q'⟩
    | cons a1 a2 =>
      refine SeqAt.eq_tupleAt (e := fun _ => true) p1 p2 hu (fun j _ h2 => absurd h2 (Nat.not_lt_zero _)) ?_
      exact ⟨.bl false, H, I, by simp [L2.RelV], q'⟩
theorem op_neE (hu : X.A.units < cLine) : OpR X (compareOp .NotEq) (rEqE X.K true) := by
  intro pins s σ H x y v u Q I rx ry h
  obtain ⟨a, b, xs, rfl, rfl, hab, q⟩ := h
  cases rx
  cases ry
  have q' : Q (.bl (!xs.isEmpty)) H := q
  rcases hab with ⟨ha, hb⟩ | ⟨ha, hb⟩
  · obtain ⟨its, r1, p1, _⟩ := I.list ha
    obtain ⟨its2, r2, p2, _⟩ := I.list hb
    cases r2
    cases r1 with
    | nil => exact SeqAt.RcNeAt.lists (e := fun _ => true) p1.isList p2.isList rfl hu (fun j h1 => absurd h1 (Nat.not_lt_zero _)) _ _ _ _ ⟨.bl false, H, I, rfl, q'⟩
    | cons a1 a2 => exact SeqAt.RcNeAt.lists_lengths p1.isList p2.isList rfl hu _ _ _ _ ⟨.bl true, H, I, rfl, q'⟩
  · obtain ⟨its, r1, p1, _⟩ := I.tuple ha
    obtain ⟨its2, r2, p2, _⟩ := I.tuple hb
    cases r2
    cases r1 with
    | nil => exact SeqAt.RcNeAt.tuples (e := fun _ => true) p1 p2 hu (fun j h1 => absurd h1 (Nat.not_lt_zero _)) _ _ _ _ ⟨.bl false, H, I, rfl, q'⟩
    | cons a1 a2 =>
      refine SeqAt.RcNeAt.tuples (e := fun _ => true) p1 p2 hu (fun j _ h2 => absurd h2 (Nat.not_lt_zero _)) _ _ _ _ ?_
      exact ⟨.bl true, H, I, by simp [L2.RelV], q'⟩
end
/-! ### small values -/
mutual
/-- short texts, small numbers, no dict but empty ones -/
def okv : PyData → Bool
  | .none | .bool _ => true
  | .int i => decide (i.natAbs < 10 ^ 40)
  | .str x => PyData.strOk x && decide (x.length ≤ 1000)
  | .list xs | .tuple xs => decide (xs.length ≤ 1000) && okvAll xs
  | .dict kvs => kvs.isEmpty
def okvAll : List PyData → Bool
  | [] => true
  | x :: xs => okv x && okvAll xs
end
theorem okvAll_iff : ∀ {l : List PyData}, okvAll l = true ↔ ∀ d ∈ l, okv d = true
  | [] => by simp [okvAll]
  | x :: l => by
    rw [okvAll, Bool.and_eq_true, okvAll_iff (l := l)]
    simp
mutual
theorem okv_short : ∀ d : PyData, okv d = true → d.leavesShort 44 = true ∧ d.showable = true
  | .none, _ => ⟨rfl, rfl⟩
  | .bool _, _ => ⟨rfl, rfl⟩
  | .int i, h => by
    have h' : i.natAbs < 10 ^ 40 := of_decide_eq_true h
    have q := int_text_length_le10 (k := 40) (by decide) h'
    refine ⟨?_, decide_eq_true (int_log h')⟩
    show decide ((PyData.shown (.int i)).length ≤ 44) = true
    refine decide_eq_true ?_
    show (PySem.Str.ofString (toString i)).length ≤ 44
    rw [PySem.ofString_length]
    omega
  | .str x, h => by
    have h' : (PyData.strOk x && decide (x.length ≤ 1000)) = true := h
    rw [Bool.and_eq_true] at h'
    have h2 : x.cps.all (· < 0x110000) = true := h'.1
    refine ⟨?_, rfl⟩
    show x.cps.toList.all (fun c => decide (c < 16 ^ 8)) = true
    rw [List.all_eq_true]
    intro c hc
    rw [Array.all_eq_true'] at h2
    have q := h2 c (by simpa using hc)
    have q' : c < 0x110000 := by simpa using q
    exact decide_eq_true (Nat.lt_trans q' (by decide))
  | .list xs, h => okvAll_short xs (Bool.and_eq_true_iff.mp h).2
  | .tuple xs, h => okvAll_short xs (Bool.and_eq_true_iff.mp h).2
  | .dict kvs, h => by
    cases kvs with
    | nil => exact ⟨rfl, rfl⟩
    | cons a l => cases h
theorem okvAll_short : ∀ l : List PyData, okvAll l = true → PyData.leavesShortAll 44 l = true ∧ PyData.showableAll l = true
  | [], _ => ⟨rfl, rfl⟩
  | x :: l, h => by
    rw [okvAll, Bool.and_eq_true] at h
    obtain ⟨a1, a2⟩ := okv_short x h.1
    obtain ⟨b1, b2⟩ := okvAll_short l h.2
    refine ⟨?_, ?_⟩
    · show (PyData.leavesShort 44 x && PyData.leavesShortAll 44 l) = true
      rw [a1, b1]; rfl
    · show (PyData.showable x && PyData.showableAll l) = true
      rw [a2, b2]; rfl
end
theorem okv_fits {d : PyData} (h : okv d = true) (hb : d.bulk ≤ 300000) : d.shown.length ≤ sizeLine := by
  have q := PyData.shown_le_bulk 44 (by decide) d (okv_short d h).1
  rw [sizeLine_eq]
  omega
/-! ### t[k:] -/
theorem cut_from (xs : List V) (k : Nat) (h : k ≤ xs.length) : cutV xs (some (k : Int)) none = xs.drop k := by
  unfold cutV
  rw [HT.sIx_none, HT.sIx_nat, Nat.min_eq_left h]
  exact List.take_of_length_le (by rw [List.length_drop]; omega)
theorem cut_to (xs : List V) (k : Nat) (h : k ≤ xs.length) : cutV xs none (some (k : Int)) = xs.take k := by
  unfold cutV
  rw [HT.sIx_none, HT.sIx_nat, Nat.min_eq_left h, Nat.sub_zero, List.drop_zero]
theorem slA_from {K : PySem.W.Frag} {H : Hp} {Q : VK} {a : Addr} {xs : List V} {n : Int} {k : Nat} (hn : n = (k : Int)) (ha : H a = some (.tup xs)) (q : ∀ H' p, Same H H' → H' p = some (.tup (xs.drop k)) → (p = a ∨ H p = none) → Q (.ref p) H') : rSlA K (.ref a) (some n) none H Q := by
  subst hn
  refine ⟨a, xs, rfl, SqT.of ha, fun hw => ?_, fun hw p hp => ?_⟩
  · have h1 := hw.1
    rw [HT.sIx_nat] at h1
    refine q H a (Same.refl H) ?_ (.inl rfl)
    by_cases hk : k = 0
    · subst hk
      exact ha
    · have h0 : xs = [] := List.length_eq_zero_iff.mp (by omega)
      rw [h0] at ha ⊢
      rw [List.drop_nil]
      exact ha
  · refine q _ p (same_new hp) ?_ (.inr hp)
    rw [upd_same]
    by_cases hk : k ≤ xs.length
    · rw [cut_from xs k hk]
    · unfold cutV
      rw [HT.sIx_none, HT.sIx_nat, Nat.min_eq_right (by omega), List.drop_length, List.drop_eq_nil_of_le (by omega), List.take_nil]
/-- all of S are tracked -/
def Trk (S : List Addr) (H : Hp) : Prop := ∀ a ∈ S, H a ≠ none
theorem Trk.same {S : List Addr} {H H' : Hp} (h : Trk S H) (k : Same H H') : Trk S H' := fun a m e => by
  cases q : H a with
  | none => exact h a m q
  | some o =>
    rw [k a o q] at e
    cases e
theorem Trk.out {S : List Addr} {H : Hp} {p : Addr} (h : Trk S H) (n : H p = none) : p ∉ S := fun m => h p m n
mutual
theorem Dv.fresh {S : List Addr} {H : Hp} {p : Addr} (n : H p = none) : ∀ {v : V} {d : PyData}, Dv S H v d → Dv (p :: S) H v d
  | _, _, .non => .non
  | _, _, .bl b => .bl b
  | _, _, .int i => .int i
  | _, _, .str x => .str x
  | _, _, .lst h m t => .lst h (fun q => by
      rcases List.mem_cons.mp q with rfl | q
      · rw [n] at h; cases h
      · exact m q) (DvAll.fresh n t)
  | _, _, .tup h m t => .tup h (fun q => by
      rcases List.mem_cons.mp q with rfl | q
      · rw [n] at h; cases h
      · exact m q) (DvAll.fresh n t)
  | _, _, .dic h m => .dic h (fun q => by
      rcases List.mem_cons.mp q with rfl | q
      · rw [n] at h; cases h
      · exact m q)
theorem DvAll.fresh {S : List Addr} {H : Hp} {p : Addr} (n : H p = none) : ∀ {vs : List V} {ds : List PyData}, DvAll S H vs ds → DvAll (p :: S) H vs ds
  | _, _, .nil => .nil
  | _, _, .cons h t => .cons (Dv.fresh n h) (DvAll.fresh n t)
end
theorem okv_tup {ds : List PyData} (h : okv (.tuple ds) = true) : ds.length ≤ 1000 ∧ ∀ d ∈ ds, okv d = true := by
  obtain ⟨h1, h2⟩ := Bool.and_eq_true_iff.mp h
  exact ⟨of_decide_eq_true h1, okvAll_iff.mp h2⟩
end Zv
set_option Elab.async false
set_option linter.all false
set_option maxRecDepth 100000
set_option maxHeartbeats 4000000
/-! Zw: t[::-1] of a tuple. -/
namespace Zw
open PySem PySem.Spec PyProof.Rows L2 HT
section
variable {prog : Program} {w : World} {A : Around} {E : Value → Shared → Prop} {s : Shared}
theorem adjust_back (n : Nat) : Builtin.Slice.sliceAdjust none none (-1) (n : Int) = ((n : Int) - 1, -1) := by
  unfold Builtin.Slice.sliceAdjust
  have h1 : (-1 : Int) < 0 := by omega
  simp only [h1, if_true]
theorem places_back (n : Nat) : Builtin.Slice.slicePlaces ((n : Int) - 1) (-1) (-1) = n := by
  unfold Builtin.Slice.slicePlaces
  have h1 : ¬ ((-1 : Int) > 0) := by omega
  have h2 : -(-1 : Int) = 1 := by omega
  simp only [h1, if_false, h2, Int.ediv_one]
  split <;> omega
theorem sliceApplied_back {sl : Addr} {n : Nat} {u : Tok} {Q : Int × Int × Nat → Shared → Prop} (hs : s.heap.IsSliceOf sl .none .none (.int (-1) u)) (h : Q ((n : Int) - 1, -1, n) s) :
    wpAny (model prog w) A (Builtin.Slice.sliceApplied (.ref sl) (pure (n : Int))) Q E s := by
  obtain ⟨os, hos, hcs, hds⟩ := id hs
  unfold Builtin.Slice.sliceApplied Builtin.Slice.sliceFields
  refine wpAny_bind (wpAny_bind (wpAny_field hos hds (x := .none) rfl (wpAny_bind (wpAny_field hos hds (x := .none) rfl (wpAny_bind (wpAny_field hos hds (x := .int (-1) u) rfl (wpAny_pure ?_)))))))
  refine wpAny_bind (slicePart_int ?_)
  show wpAny _ _ (if ((-1 : Int) == 0) = true then _ else _) _ _ s
  rw [if_neg (by decide)]
  refine wpAny_bind (slicePart_none (wpAny_bind (slicePart_none (wpAny_bind (wpAny_pure ?_)))))
  show wpAny _ _ (match Builtin.Slice.sliceAdjust none none (-1) (n : Int) with | (lo, hi) => pure (lo, (-1 : Int), Builtin.Slice.slicePlaces lo hi (-1))) _ _ s
  rw [adjust_back n]
  show wpAny _ _ (pure ((n : Int) - 1, (-1 : Int), Builtin.Slice.slicePlaces ((n : Int) - 1) (-1) (-1))) _ _ s
  rw [places_back n]
  exact wpAny_pure h
theorem fm_map {α β : Type} {f : α → Option β} {g : α → β} : ∀ l : List α, (∀ k ∈ l, f k = some (g k)) → l.filterMap f = l.map g
  | [], _ => rfl
  | a :: l, h => by
    rw [List.filterMap_cons_some (h a List.mem_cons_self), List.map_cons, fm_map l fun k m => h k (List.mem_cons_of_mem _ m)]
theorem pick_back (xs : Array Value) : ((List.range xs.size).filterMap fun (k : Nat) => xs[((xs.size : Int) - 1 + (k : Int) * (-1)).toNat]?).toArray = xs.toList.reverse.toArray := by
  congr 1
  rw [fm_map (g := fun k => (xs[xs.size - 1 - k]?).getD .none) _ fun k m => by
    have hk := List.mem_range.mp m
    have e : ((xs.size : Int) - 1 + (k : Int) * (-1)).toNat = xs.size - 1 - k := by omega
    rw [e]
    have h2 : xs.size - 1 - k < xs.size := by omega
    rw [Array.getElem?_eq_getElem h2]
    rfl]
  refine List.ext_getElem (by simp) fun i h1 h2 => ?_
  rw [List.getElem_map, List.getElem_range, List.getElem_reverse]
  have hi : i < xs.size := by simpa using h1
  have h3 : xs.size - 1 - i < xs.size := by omega
  rw [Array.getElem?_eq_getElem h3]
  simp
theorem getItem_tuple_back {t sl : Addr} {items : Array Value} {u : Tok} {Q : Value → Shared → Prop} (ht : IsTup s.heap t items) (hs : s.heap.IsSliceOf sl .none .none (.int (-1) u))
    (h : Q (.ref s.heap.objs.size) { s with heap := s.heap.push { cls := .type "tuple", data := .seq items.toList.reverse.toArray } })
    (hsz : items.size ≤ sizeLine) : wpAny (model prog w) A (getItem (.ref t) (.ref sl)) Q E s := by
  have hrev : sizeOk (.seq items.toList.reverse.toArray) := by
    show items.toList.reverse.toArray.size ≤ sizeLine
    rw [List.size_toArray, List.length_reverse, Array.length_toList]
    exact hsz
  obtain ⟨os, hos, hcs, hds⟩ := id hs
  have hTs : s.TypeIs (.ref sl) "slice" := ⟨os, hos, hcs⟩
  unfold getItem
  try with_reducible refine wpAny_holding ?_
  first | refine wpAny_bind (wpAny_pure ?_) | skip
  refine wpAny_bind (wpAny_sequenceKey ht.typeIs (by decide) ?_)
  refine wpAny_bind (wpAny_callSpecial?_slot (name := Str.ofString "__getitem__") ht.typeIs PyProof.Rows.slot_tuple_getitem
    (wpAny_call_entry PyProof.Rows.slot_tuple_getitem ht.typeIs PyProof.Rows.entry_tuple_getitem ?_ (PyProof.Rows.args_tuple_getitem _ _)))
  show wpAny _ _ (Builtin.Tuple.tupleItemsOf (.ref t) >>= _) _ _ s
  refine wpAny_bind (tupleItemsOf_ ht ?_)
  refine wpAny_bind (wpAny_typeOf hTs ?_)
  rw [if_pos (by decide)]
  refine wpAny_bind (sliceApplied_back hs ?_)
  have hno : ¬ ((((items.size : Int) - 1) == 0 && (-1 : Int) == 1 && items.size == items.size) = true) := by
    rw [show ((-1 : Int) == 1) = false from rfl, Bool.and_false]
    exact Bool.false_ne_true
  show wpAny _ _ (if (((items.size : Int) - 1) == 0 && (-1 : Int) == 1 && items.size == items.size) = true then _ else _) _ _ s
  rw [if_neg hno, pick_back items]
  first
    | exact wpAny_bind (m := Builtin.Tuple.tupleExact _) (wpAny_newObj_type (wpAny_pure ⟨_, rfl, wpAny_pure h⟩) hrev)
    | exact wpAny_bind (m := Builtin.Tuple.tupleExact _) (wpAny_newObj_type (wpAny_bind (wpAny_pure (wpAny_pure ⟨_, rfl, wpAny_pure h⟩))) hrev)
    | exact wpAny_bind (wpAny_bind (m := Builtin.Tuple.tupleExact _) (wpAny_newObj_type (wpAny_pure (wpAny_pure ⟨_, rfl, wpAny_pure h⟩)) hrev))
    | exact wpAny_bind (wpAny_bind (m := Builtin.Tuple.tupleExact _) (wpAny_newObj_type (wpAny_pure ⟨_, rfl, wpAny_pure h⟩) hrev))
end
def tRevT (K : PySem.W.Frag) (te : TE) : TE := fun σ H Q => te σ H fun x H1 => ∃ a xs, x = .ref a ∧ SqT K H1 a xs ∧ ∀ p, H1 p = none → Q (.ref p) (upd H1 p (.tup xs.reverse))
theorem pe_revT {X : Cx} {e : Expr} {te : TE} {k : Nat} {p1 p2 p3 pos : Pos} (he : PE X e te) : PE X (.Subscript e (.Slice none none (some (.UnaryOp .USub (.Constant (.int 1) k p1) p2)) p3) pos) (tRevT X.K te) := by
  refine ⟨fun pins s σ H Q I h => ?_⟩
  refine Subscript_ (thn (he.run pins s σ H _ I h) fun v s1 ⟨x, H1, I1, r1, q1⟩ => ?_)
  obtain ⟨a, xs, ex, hx, q⟩ := q1
  subst ex
  cases r1
  have hst : PO X (some (.UnaryOp .USub (.Constant (.int 1) k p1) p2)) (tPart (tUn (rU fun i => .int (-i)) (tC (.int 1)))) := po_some (pe_un un_neg pe_int)
  refine wpAny_Slice (thn (po_none.run pins s1 σ H1 (fun o H2 => o = none ∧ H2 = H1) I1 ⟨rfl, rfl⟩) fun vl s2 ⟨l, H2, I2, pl, el, e2⟩ => ?_)
  subst el e2
  refine thn (po_none.run pins s2 σ H2 (fun o H3 => o = none ∧ H3 = H2) I2 ⟨rfl, rfl⟩) fun vu s3 ⟨u, H3, I3, pu, eu, e3⟩ => ?_
  subst eu e3
  refine thn (hst.run pins s3 σ H3 (fun o H4 => o = some (-1) ∧ H4 = H3) I3 ⟨1, rfl, -1, rfl, rfl, rfl⟩) fun vs s4 ⟨o, H4, I4, ps, eo, e4⟩ => ?_
  subst eo e4
  cases pl
  cases pu
  obtain ⟨u, eu⟩ : ∃ u, vs = .int (-1) u := by cases ps; exact ⟨_, rfl⟩
  subst eu
  have I5 : L2.Inv X pins σ H4 { s4 with heap := s4.heap.push { cls := .type "slice", data := .fields #[.none, .none, .int (-1) u] } } := I4.kept (t' := s4.toks) fun b ob q => Heap.get?_push_of_some _ q
  obtain ⟨its, r, ht, hz⟩ := I5.tuple hx
  have hlen := r.length
  show wpAny (model X.prog X.w) X.A (subscriptTail e (.Slice none none (some (.UnaryOp .USub (.Constant (.int 1) k p1) p2)) p3) (.ref a) (.ref s4.heap.objs.size)) (EP X pins σ Q) X.xe { s4 with heap := s4.heap.push { cls := .type "slice", data := .fields #[.none, .none, .int (-1) u] } }
  refine tail_any (ops := [.ref a, .ref s4.heap.objs.size]) ht.typeIs PyProof.Rows.slot_tuple_getitem.lookup ?_ (by with_unfolding_all rfl)
  refine getItem_tuple_back ht (Heap.IsSliceOf.new _ .none .none (.int (-1) u)) ?_ (by rw [List.size_toArray]; omega)
  refine ⟨.ref _, _, I5.laid (t' := s4.toks) (o := .tup xs.reverse) (fun b ob q => Heap.get?_push_of_some _ q) (Nat.le_refl _) ?_, rfl, q _ (I5.hok.fresh (Nat.le_refl _))⟩
  exact ⟨by rw [List.length_reverse]; omega, _, r.reverse, ⟨_, Heap.get?_push_size _ rfl, rfl, _, rfl⟩⟩
end Zw
set_option Elab.async false
set_option linter.all false
set_option maxRecDepth 100000
set_option maxHeartbeats 1000000
/-! Zx: a tuple that shows as a tuple of figures is one; a value that shows as a figure is one. -/
namespace Zx
open PySem PySem.Spec PySem.NumText PyProof.Rows
def ch (x : Str) : List Nat := x.cps.toList
theorem ch_app (a b : Str) : ch (a ++ b) = ch a ++ ch b := cps_toList_append a b
def tl : List (List Nat) → List Nat
  | [] => [41]
  | x :: xs => 44 :: 32 :: (x ++ tl xs)
def chT : List (List Nat) → List Nat
  | [] => [40, 41]
  | [x] => 40 :: (x ++ [44, 41])
  | x :: y :: r => 40 :: (x ++ tl (y :: r))
theorem join_ch : ∀ (x : Str) (ts : List Str), ch (Str.join ", " (x :: ts)) ++ [41] = ch x ++ tl (ts.map ch)
  | x, [] => by rw [join_one]; rfl
  | x, y :: r => by
    rw [join_cons_cons, ch_app, ch_app, List.append_assoc, join_ch y r, List.append_assoc]
    rfl
theorem ch_open : ch ("(" : Str) = [40] := by decide +kernel
theorem ch_close : ch (Str.ofString ")") = [41] := by decide +kernel
theorem ch_close1 : ch (Str.ofString ",)") = [44, 41] := by decide +kernel
theorem tuple_ch : ∀ ts : List Str, ch (tupleText ts) = chT (ts.map ch)
  | [] => by decide +kernel
  | [x] => by
    show ch (("(" : Str) ++ Str.join ", " [x] ++ (Str.ofString ",)")) = _
    rw [ch_app, ch_app, join_one, ch_open, ch_close1]
    rfl
  | x :: y :: r => by
    show ch (("(" : Str) ++ Str.join ", " (x :: y :: r) ++ (Str.ofString ")")) = _
    rw [ch_app, ch_app, ch_open, ch_close, List.append_assoc, join_ch x (y :: r)]
    rfl
theorem fold_head {f : Nat → Array Nat} : ∀ (l : List Nat) (acc : Array Nat), ∃ t, l.foldl (fun out c => out ++ f c) acc = acc ++ t
  | [], acc => ⟨#[], by simp⟩
  | c :: l, acc => by
    obtain ⟨t, e⟩ := fold_head (f := f) l (acc ++ f c)
    exact ⟨f c ++ t, by rw [List.foldl_cons, e, Array.append_assoc]⟩
theorem str_head (x : Str) : ∃ cs, ch (reprText x) = reprQuote x :: cs := by
  obtain ⟨t, e⟩ := fold_head (f := fun c => (PySem.Builtin.Str.reprChar (reprQuote x) c).toArray) x.cps.toList #[reprQuote x]
  refine ⟨t.toList ++ [reprQuote x], ?_⟩
  unfold ch reprText
  rw [Array.foldl_toList] at e
  rw [e]
  simp
theorem quote_is (x : Str) : reprQuote x = 34 ∨ reprQuote x = 39 := by
  unfold reprQuote
  split
  · exact .inl rfl
  · exact .inr rfl
theorem int_ne (i : Int) : ch (PyData.shown (.int i)) ≠ [] := by
  have key : ∀ m : Nat, (Str.ofString (toString ((m : Nat) : Int))).cps.toList ≠ [] := fun m e => by
    rw [PySem.W.KIN.signs_num] at e
    have h := toDigits_len_ge 10 m
    rw [List.map_eq_nil_iff.mp e] at h
    exact absurd h (by decide)
  cases i with
  | ofNat m => exact key m
  | negSucc m =>
    intro e
    have e2 : (Str.ofString (toString (Int.negSucc m))).cps.toList = [] := e
    rw [signs_ofString] at e2
    have e3 := List.map_eq_nil_iff.mp e2
    have e4 : (toString (Int.negSucc m)).toList = ("-" ++ Nat.repr (m + 1)).toList := rfl
    rw [e4, String.toList_append] at e3
    have e5 := (List.append_eq_nil_iff.mp e3).1
    exact absurd e5 (by decide)
theorem int_one {i : Int} {n : Nat} (hn : n < 10) (h : ch (PyData.shown (.int i)) = [48 + n]) : i = n := by
  cases i with
  | ofNat m =>
    have e : (Str.ofString (toString ((m : Nat) : Int))).cps.toList = [48 + n] := h
    rw [PySem.W.KIN.signs_num] at e
    have v := PySem.W.KIN.val_back m
    rw [e] at v
    have v2 : 0 * 10 + (48 + n - 48) = m := v
    show (m : Int) = n
    omega
  | negSucc m =>
    have e : (Str.ofString (toString (Int.negSucc m))).cps.toList = [48 + n] := h
    rw [signs_ofString] at e
    have e4 : (toString (Int.negSucc m)).toList = ("-" ++ Nat.repr (m + 1)).toList := rfl
    rw [e4, String.toList_append, List.map_append] at e
    have e5 : ("-" : String).toList.map Char.toNat = [45] := by decide
    rw [e5] at e
    injection e with e6 e7
    omega
/-- the first sign of a text -/
theorem head : ∀ d : PyData, ∃ c cs, ch d.shown = c :: cs ∧ (48 ≤ c → c ≤ 57 → ∃ i, d = .int i) ∧ c ≠ 41 ∧ c ≠ 44
  | .none => ⟨78, _, (by decide +kernel : ch (Str.ofString "None") = 78 :: [111, 110, 101]), by omega, by omega, by omega⟩
  | .bool true => ⟨84, _, (by decide +kernel : ch (Str.ofString "True") = 84 :: [114, 117, 101]), by omega, by omega, by omega⟩
  | .bool false => ⟨70, _, (by decide +kernel : ch (Str.ofString "False") = 70 :: [97, 108, 115, 101]), by omega, by omega, by omega⟩
  | .int i => by
    cases e : ch (PyData.shown (.int i)) with
    | nil => exact absurd e (int_ne i)
    | cons c cs =>
      have h1 : 41 ∉ ch (PyData.shown (.int i)) := shown_int_free' (by omega) i
      have h2 : 44 ∉ ch (PyData.shown (.int i)) := shown_int_free' (by omega) i
      rw [e] at h1 h2
      exact ⟨c, cs, rfl, fun _ _ => ⟨i, rfl⟩, fun z => h1 (z ▸ List.mem_cons_self), fun z => h2 (z ▸ List.mem_cons_self)⟩
  | .str x => by
    obtain ⟨cs, e⟩ := str_head x
    have q := quote_is x
    exact ⟨_, cs, e, by omega, by omega, by omega⟩
  | .list xs => by
    refine ⟨91, ch (Str.join ", " (PyData.shownAll xs)) ++ [93], ?_, by omega, by omega, by omega⟩
    · show ch (listText _) = _
      rw [listText_eq_join, ch_app, ch_app]
      rfl
  | .tuple xs => by
    have e : ch (PyData.shown (.tuple xs)) = chT ((PyData.shownAll xs).map ch) := tuple_ch _
    have k : ∀ l, ∃ cs, chT l = 40 :: cs
      | [] => ⟨_, rfl⟩
      | [_] => ⟨_, rfl⟩
      | _ :: _ :: _ => ⟨_, rfl⟩
    obtain ⟨cs, k⟩ := k ((PyData.shownAll xs).map ch)
    exact ⟨40, cs, e.trans k, by omega, by omega, by omega⟩
  | .dict kvs => by
    refine ⟨123, ch (Str.join ", " (PyData.shownKv kvs)) ++ [125], ?_, by omega, by omega, by omega⟩
    · show ch (dictText _) = _
      unfold dictText
      rw [ch_app, ch_app]
      rfl
theorem int_free (i : Int) : 41 ∉ ch (PyData.shown (.int i)) ∧ 44 ∉ ch (PyData.shown (.int i)) := ⟨shown_int_free' (by omega) i, shown_int_free' (by omega) i⟩
/-- a value that shows as a figure -/
theorem figure {d : PyData} {n : Nat} (hn : n < 10) (h : ch d.shown = [48 + n]) : d = .int n := by
  obtain ⟨c, cs, e, hi, _⟩ := head d
  have e' := e
  rw [h] at e'
  injection e' with e1 e2
  obtain ⟨i, rfl⟩ := hi (by omega) (by omega)
  exact congrArg PyData.int (int_one hn h)
/-- a figure, and what is no part of it -/
theorem cut {d : PyData} {n : Nat} {r s : List Nat} (hn : n < 10) (hr : r.head? = some 41 ∨ r.head? = some 44) (hs : s.head? = some 41 ∨ s.head? = some 44) (h : ch d.shown ++ r = [48 + n] ++ s) : d = .int n ∧ r = s := by
  obtain ⟨c, cs, e, hi, _⟩ := head d
  have h' := h
  rw [e] at h'
  injection h' with h1 h2
  obtain ⟨i, rfl⟩ := hi (by omega) (by omega)
  have hf := int_free i
  rw [e] at hf
  cases cs with
  | nil =>
    refine ⟨?_, h2⟩
    exact congrArg PyData.int (int_one hn (by rw [e, h1]))
  | cons c2 cs =>
    have h3 : (c2 :: (cs ++ r)) = s := h2
    rw [← h3] at hs
    rcases hs with hs | hs
    · injection hs with hs
      exact absurd (List.mem_cons_of_mem _ (hs ▸ List.mem_cons_self)) hf.1
    · injection hs with hs
      exact absurd (List.mem_cons_of_mem _ (hs ▸ List.mem_cons_self)) hf.2
def fig (ns : List Nat) : List PyData := ns.map fun n => .int (n : Nat)
theorem fig_ch {n : Nat} (h : n < 10) : ch (PyData.shown (.int (n : Nat))) = [48 + n] := by
  have e : ∀ n < 10, ch (PyData.shown (.int ((n : Nat) : Int))) = [48 + n] := by decide +kernel
  exact e n h
theorem tl_head : ∀ l, (tl l).head? = some 41 ∨ (tl l).head? = some 44
  | [] => .inl rfl
  | _ :: _ => .inr rfl
def chs (ds : List PyData) : List (List Nat) := (PyData.shownAll ds).map ch
theorem tl_inj : ∀ (ds : List PyData) (ns : List Nat), (∀ n ∈ ns, n < 10) → tl (chs ds) = tl (chs (fig ns)) → ds = fig ns
  | [], [], _, _ => rfl
  | [], _ :: _, _, h => by cases h
  | _ :: _, [], _, h => by cases h
  | d :: ds, n :: ns, hn, h => by
    have h' : 44 :: 32 :: (ch d.shown ++ tl (chs ds)) = 44 :: 32 :: (ch (PyData.shown (.int (n : Nat))) ++ tl (chs (fig ns))) := h
    injection h' with _ h'
    injection h' with _ h'
    have hn0 := hn n List.mem_cons_self
    rw [fig_ch hn0] at h'
    obtain ⟨rfl, h2⟩ := cut hn0 (tl_head _) (tl_head _) h'
    rw [tl_inj ds ns (fun m hm => hn m (List.mem_cons_of_mem _ hm)) h2]
    rfl
/-- a tuple that shows as a tuple of figures is one -/
theorem tup_inj : ∀ (ds : List PyData) (ns : List Nat), (∀ n ∈ ns, n < 10) → PyData.shown (.tuple ds) = PyData.shown (.tuple (fig ns)) → ds = fig ns := by
  intro ds ns hn h
  have h : chT (chs ds) = chT (chs (fig ns)) := by
    have e1 : ch (PyData.shown (.tuple ds)) = chT (chs ds) := tuple_ch _
    have e2 : ch (PyData.shown (.tuple (fig ns))) = chT (chs (fig ns)) := tuple_ch _
    rw [← e1, ← e2, h]
  match ds, ns, hn, h with
  | [], [], _, _ => rfl
  | [], [n], hn, h =>
    have h' : [40, 41] = 40 :: (ch (PyData.shown (.int (n : Nat))) ++ [44, 41]) := h
    rw [fig_ch (hn n List.mem_cons_self)] at h'
    injection h' with _ h'
    injection h' with h' _
    omega
  | [], n :: m :: r, hn, h =>
    have h' : [40, 41] = 40 :: (ch (PyData.shown (.int (n : Nat))) ++ tl (chs (fig (m :: r)))) := h
    rw [fig_ch (hn n List.mem_cons_self)] at h'
    injection h' with _ h'
    injection h' with h' _
    omega
  | [d], [], _, h =>
    have h' : 40 :: (ch d.shown ++ [44, 41]) = [40, 41] := h
    injection h' with _ h'
    have := congrArg List.length h'
    simp at this
  | d :: e :: r, [], _, h =>
    have h' : 40 :: (ch d.shown ++ 44 :: 32 :: (ch e.shown ++ tl (chs r))) = [40, 41] := h
    injection h' with _ h'
    have := congrArg List.length h'
    simp at this
    omega
  | [d], [n], hn, h =>
    have h' : 40 :: (ch d.shown ++ [44, 41]) = 40 :: (ch (PyData.shown (.int (n : Nat))) ++ [44, 41]) := h
    injection h' with _ h'
    have hn0 := hn n List.mem_cons_self
    rw [fig_ch hn0] at h'
    obtain ⟨rfl, _⟩ := cut hn0 (.inr rfl) (.inr rfl) h'
    rfl
  | [d], n :: m :: r, hn, h =>
    have h' : 40 :: (ch d.shown ++ [44, 41]) = 40 :: (ch (PyData.shown (.int (n : Nat))) ++ tl (chs (fig (m :: r)))) := h
    injection h' with _ h'
    have hn0 := hn n List.mem_cons_self
    rw [fig_ch hn0] at h'
    obtain ⟨rfl, h2⟩ := cut hn0 (.inr rfl) (.inr rfl) h'
    cases h2
  | d :: e :: r, [n], hn, h =>
    have h' : 40 :: (ch d.shown ++ tl (chs (e :: r))) = 40 :: (ch (PyData.shown (.int (n : Nat))) ++ [44, 41]) := h
    injection h' with _ h'
    have hn0 := hn n List.mem_cons_self
    rw [fig_ch hn0] at h'
    obtain ⟨rfl, h2⟩ := cut hn0 (.inr rfl) (.inr rfl) h'
    cases h2
  | d :: e :: r, n :: m :: s, hn, h =>
    have h' : 40 :: (ch d.shown ++ tl (chs (e :: r))) = 40 :: (ch (PyData.shown (.int (n : Nat))) ++ tl (chs (fig (m :: s)))) := h
    injection h' with _ h'
    have hn0 := hn n List.mem_cons_self
    rw [fig_ch hn0] at h'
    obtain ⟨rfl, h2⟩ := cut hn0 (.inr rfl) (.inr rfl) h'
    rw [tl_inj (e :: r) (m :: s) (fun x hx => hn x (List.mem_cons_of_mem _ hx)) h2]
    rfl
end Zx
set_option Elab.async false
set_option linter.all false
set_option maxRecDepth 100000
set_option maxHeartbeats 1000000
/-! Ym: match over a text, its cases texts. -/
namespace Ym
open PySem PySem.Spec PyProof.Rows L2
section
variable {X : Cx}
/-- cases that a text is held against -/
structure PMC (X : Cx) (cs : List MatchCase) (t : Str → TS) : Prop where
  run : ∀ (first : Bool) (pins : List (Addr × Obj)) (s : Shared) (σ : L2.St) (H : Hp) (D : Ends) (z : Str) (u : Tok), Inv X pins σ H s → t z D σ H → wpAny (model X.prog X.w) X.A (matchCases cs X.env (.str z u) first) (SP X pins D) X.xe s
theorem pmc_nil : PMC X [] (fun _ => tNext) := ⟨fun _ _ _ σ H _ _ _ I h => wpAny_matchCases_nil ⟨σ, H, I, h⟩⟩
def tCase (as : List Str) (tb : TS) (rest : Str → TS) : Str → TS := fun z D σ H => if z ∈ as then tb D σ H else rest z D σ H
theorem pat_val {a : Str} {j : Nat} {p pos : Pos} {pins : List (Addr × Obj)} {s : Shared} {σ : L2.St} {H : Hp} {z : Str} {u : Tok} (I : Inv X pins σ H s) {Q : Option (List (Str × Value)) → Shared → Prop}
    (h : ∀ s', Inv X pins σ H s' → if z = a then Q (some []) s' else Q none s') : wpAny (model X.prog X.w) X.A (matchPattern (.MatchValue (.Constant (.str a) j p) pos) X.env (.str z u)) Q X.xe s := by
  refine wpAny_matchPattern_Value (Calls.Constant_str ?_)
  refine thn (op_eq (X := X) pins { s with toks := s.toks + 1 } σ H (.str z) (.str a) (.str z u) (.str a s.toks) (fun v H' => v = .bl (decide (V.str z = V.str a)) ∧ H' = H) (I.tok _) ⟨u, rfl⟩ ⟨s.toks, rfl⟩ ⟨rfl, rfl, rfl⟩) fun c s2 hc => ?_
  obtain ⟨v, H', I2, rv, rfl, rfl⟩ := hc
  have hc : c = .bool (decide (V.str z = V.str a)) := by cases rv; rfl
  rw [hc]
  refine wpAny_truthy_bool ?_
  have h2 := h s2 I2
  by_cases e : z = a
  · rw [if_pos e] at h2
    rw [decide_eq_true (by rw [e])]
    exact h2
  · rw [if_neg e] at h2
    rw [decide_eq_false (fun q => e (V.str.inj q))]
    exact h2
theorem pmc_val {a : Str} {j : Nat} {p pos : Pos} {body : List Stmt} {rest : List MatchCase} {tb : TS} {tr : Str → TS} (h : PSs X body tb) (hs : PMC X rest tr) : PMC X (⟨.MatchValue (.Constant (.str a) j p) pos, none, body⟩ :: rest) (tCase [a] tb tr) := by
  refine ⟨fun first pins s σ H D z u I q => ?_⟩
  refine wpAny_matchCases_cons (pat_val I fun s' I' => ?_)
  by_cases e : z = a
  · rw [if_pos e]
    have q' : tb D σ H := by
      have : tCase [a] tb tr z D σ H := q
      unfold tCase at this
      rw [if_pos (by rw [e]; exact List.mem_cons_self)] at this
      exact this
    exact wpAny_assignInOrder_none (h.run pins s' σ H D I' q')
  · rw [if_neg e]
    have q' : tr z D σ H := by
      have : tCase [a] tb tr z D σ H := q
      unfold tCase at this
      rw [if_neg (by rw [List.mem_singleton]; exact e)] at this
      exact this
    exact hs.run false pins s' σ H D z u I' q'
theorem pmc_or {a b : Str} {j j2 : Nat} {p pos p2 pos2 pos3 : Pos} {body : List Stmt} {rest : List MatchCase} {tb : TS} {tr : Str → TS} (h : PSs X body tb) (hs : PMC X rest tr) :
    PMC X (⟨.MatchOr [.MatchValue (.Constant (.str a) j p) pos, .MatchValue (.Constant (.str b) j2 p2) pos2] pos3, none, body⟩ :: rest) (tCase [a, b] tb tr) := by
  refine ⟨fun first pins s σ H D z u I q => ?_⟩
  have q : tCase [a, b] tb tr z D σ H := q
  unfold tCase at q
  have go : ∀ s', Inv X pins σ H s' → z ∈ [a, b] → wpAny (model X.prog X.w) X.A (assignInOrder (([] : List (Str × Value)).map fun (n, _) => bindName X.env n) (([] : List (Str × Value)).map (·.2))) (fun _ s₂ => wpAny (model X.prog X.w) X.A (execs body X.env) (SP X pins D) X.xe s₂) X.xe s' := fun s' I' m => by
    rw [if_pos m] at q
    exact wpAny_assignInOrder_none (h.run pins s' σ H D I' q)
  refine wpAny_matchCases_cons (wpAny_matchPattern_Or (wpAny_matchFirst_cons (pat_val I fun s1 I1 => ?_)))
  by_cases e : z = a
  · rw [if_pos e]
    exact go s1 I1 (by rw [e]; exact List.mem_cons_self)
  · rw [if_neg e]
    refine wpAny_matchFirst_cons (pat_val I1 fun s2 I2 => ?_)
    by_cases e2 : z = b
    · rw [if_pos e2]
      exact go s2 I2 (by rw [e2]; exact List.mem_cons_of_mem _ List.mem_cons_self)
    · rw [if_neg e2]
      refine wpAny_matchFirst_nil ?_
      rw [if_neg (by simp only [List.mem_cons, List.not_mem_nil, or_false]; rintro (h | h); exact e h; exact e2 h)] at q
      exact hs.run false pins s2 σ H D z u I2 q
theorem ps_match {e : Expr} {te : TE} {cs : List MatchCase} {tc : Str → TS} {pos : Pos} (he : PE X e te) (hc : PMC X cs tc) : PS X (.Match e cs pos) (fun D σ H => te σ H fun x H1 => ∃ z, x = .str z ∧ tc z D σ H1) := by
  refine ⟨fun pins s σ H D I h => ?_⟩
  refine wpAny_Match (thn (he.run pins s σ H _ I h) fun v s1 ⟨x, H1, I1, r1, z, ex, q1⟩ => ?_)
  subst ex
  obtain ⟨u, rfl⟩ := r1
  exact hc.run true pins s1 σ H1 D z u I1 q1
end
end Ym
set_option Elab.async false
set_option linter.all false
set_option maxRecDepth 100000
set_option maxHeartbeats 1000000
/-! Yd: name = {k: v for ..} on one line. -/
namespace Yd
open PySem PySem.Spec PyProof.Rows L2
section
variable {X : Cx}
theorem ps_setDc {i : Nat} {y : Str} {py : Pos} {kx vx tg iter : Expr} {ifs : List Expr} {scope : Scope} {own : List (Str × Nat)} {pos spos : Pos} {wi : TI} {g : TG} {tt : TT} {tk tv : TE} (hc : X.calm = true) (hN : X.N.Nodup) (hy : X.N[i]? = some y) (hyl : X.env.scope.names.lookup y = some .local)
    (hsw : swapsWith (.DictComp kx vx [⟨tg, iter, ifs, 0⟩] scope pos) (some (.Name y py)) spos.line X.env = pure true) (hi : PI X tg iter wi) (ok : BlkOk X.N X.env.scope scope own)
    (hg : ∀ (s : Shared) (H : Hp) (C : Addr) (cl : List (Str × Addr)) (fp : List Addr), PG (X.blk s H scope (compEnvC scope cl C X.env) fp) tg g) (ht : ∀ (s : Shared) (H : Hp) (C : Addr) (cl : List (Str × Addr)) (fp : List Addr), PTs (X.blk s H scope (compEnvC scope cl C X.env) fp) ifs tt)
    (hk : ∀ (s : Shared) (H : Hp) (C : Addr) (cl : List (Str × Addr)) (fp : List Addr), PE (X.blk s H scope (compEnvC scope cl C X.env) fp) kx tk)
    (he : ∀ (s : Shared) (H : Hp) (C : Addr) (cl : List (Str × Addr)) (fp : List Addr), PE (X.blk s H scope (compEnvC scope cl C X.env) fp) vx tv) (hs : ∀ x, foldedSetIterable iter X.env x = pure x := by intro _; rfl) :
    PS X (.Assign [.Name y py] (.DictComp kx vx [⟨tg, iter, ifs, 0⟩] scope pos) spos) (tAsg (tDc wi g tt tk tv (own.map (·.2))) (gName i)) := by
  refine ⟨fun pins s σ H D I h => ?_⟩
  rw [exec_Assign_Name_used _ _ _ _ hsw]
  refine wpAny_bind (wpAny_standAt (wpAny_bind ?_))
  show wpAny _ X.A (do let _ ← comprehension (.DictComp kx vx [⟨tg, iter, ifs, 0⟩] scope pos) scope X.env (firstIterPos [⟨tg, iter, ifs, 0⟩] pos) newDict false (eval iter X.env) (some (assign (.Name y py) X.env))) _ _ s
  have h : tDc wi g tt tk tv (own.map (·.2)) σ H (fun x H1 => gName i x σ H1 D.nx) := h
  refine wpAny_bind (thn (dc_core (Qf := fun _ s' => SP X pins D .next s') hc hN I hi ok hg ht hk he hs h fun L C s' m H' I' q hn f => ?_) fun _ s' hq => wpAny_pure (wpAny_pure hq))
  show wpAny _ _ (assign (.Name y py) X.env (.ref L)) _ _ _
  refine wpAny_assign_Name (store_ok2 (v := V.ref L) I' hN hy (.inl hyl) rfl (fun s2 I2 ⟨a, sb, ha⟩ => ?_) (.inr hyl))
  obtain ⟨f0, f1, f2, f3, f4, f5⟩ := f
  have haC : C ≠ a := by
    rcases ha with z | z
    · rw [z]; exact f1
    · exact fun e => f4 y a z e.symm
  refine ⟨m, hn.sameBut sb haC, fun h3 sb3 => ?_⟩
  exact ⟨_, H', I2.turned (t' := s2.toks) (fun b o hb e => (sb3.2 b hb).trans e) f0 f1 f3 f4 f5, q⟩
theorem sw_trueD {kx vx : Expr} {gs : List Comprehension} {scope : Scope} {pos py : Pos} {y : Str} {l : Nat} {env : Env} (hk : env.scope.kind = .function) (hy : env.scope.names.lookup y = some .local) (hl : (py.line == pos.line) = true)
    (ha : (scope.names.any fun (n, k) => n == y && (k == .local || k == .cell)) = false) : swapsWith (.DictComp kx vx gs scope pos) (some (.Name y py)) l env = pure true := by
  have ky : env.kindOf y = some .local := hy
  have hb : env.blockKind = .function := by unfold Env.blockKind; rw [hk]; rfl
  unfold swapsWith
  simp only [hb, ky, ha, Expr.pos, hl]
  rfl
end
end Yd
set_option Elab.async false
set_option linter.all false
set_option maxRecDepth 100000
set_option maxHeartbeats 2000000
/-! Yv: list(d.values()). -/
namespace Yv
open PySem PySem.Spec PyProof.Rows L2
theorem vals_of {ys : List V} : ∀ {us : List Value}, us.length = ys.length → (∀ (i : Nat) (u : Value), us[i]? = some u → ∃ y, ys[i]? = some y ∧ RelV y u) → Vals ys us := by
  induction ys with
  | nil =>
    intro us hl _
    rw [List.length_eq_zero_iff.mp hl]
    exact .nil
  | cons y ys ih =>
    intro us hl h
    cases us with
    | nil => cases hl
    | cons u us =>
      obtain ⟨z, e, r⟩ := h 0 u rfl
      cases e
      exact .cons r (ih (Nat.succ.inj hl) fun i v e => h (i + 1) v e)
theorem paired_back {α β : Type} {F : α → β → Prop} : ∀ {xs : List α} {ys : List β}, Paired F xs ys → ∀ {i : Nat} {y : β}, ys[i]? = some y → ∃ x, xs[i]? = some x ∧ F x y
  | _, _, .nil, i, y, h => by cases h
  | _, _, .cons r t, 0, y, h => ⟨_, rfl, Option.some.inj h ▸ r⟩
  | _, _, .cons r t, i + 1, y, h => paired_back t (i := i) h
def tListVals (te : TE) : TE := fun σ H Q => te σ H fun x H1 => ∃ (d : Addr) (kvs : List (Key × V)), x = .ref d ∧ H1 d = some (.dK kvs) ∧ ∀ p, H1 p = none → Q (.ref p) (upd H1 p (.lst (kvs.map Prod.snd)))
section
variable {X : Cx} {e : Expr} {te : TE} {p apos cpos pos : Pos}
/-- list(e.values()) -/
theorem pe_listVals (hc : X.calm = true) (he : PE X e te) (hg : Gl X "list") (hm : X.mg "list" = none) (hv : bootBuiltins "list" = some (.type "list")) (hbase : attributeBase e "values" X.env (eval e X.env) = eval e X.env := by rfl) (hline : (apos.endLine == cpos.line) = true := by rfl)
    (hs : starEach [.Call (.Attribute e "values" apos) [] [] cpos] X.env = (false, eval (.Call (.Attribute e "values" apos) [] [] cpos) X.env) :: starEach [] X.env := by rfl) :
    PE X (.Call (.Name "list" p) [.Call (.Attribute e "values" apos) [] [] cpos] [] pos) (tListVals te) := by
  refine ⟨fun pins s σ H Q I hq => wpAny_Call_Name_kw (ld_blt I hg hm hv (PyProof.Rows.callWith_type1 ?_ hs rfl))⟩
  rw [hs]
  refine Calls.spliced_cons (wpAny_Call_method (T := "dict") (id := "dict.values") hbase rfl hline F.plainAttrs_dict F.slot_dict_values F.type_dict_values (thn (he.run pins s σ H _ I hq) fun u s1 ⟨x, H1, I1, rx, d, kvs, ex, hd, q⟩ => ?_))
  subst ex
  obtain rfl : u = Value.ref d := rx
  obtain ⟨hz, hs0, vs, kv, hdo⟩ := I1.hok d _ hd
  obtain ⟨ep, hat⟩ := hdo.dictAt
  have lk : kvs.length = vs.length := Paired.length kv
  have I2 : Inv X pins σ H1 { s1 with heap := s1.heap.push { cls := .type "dict_values", data := .fields #[.ref d] } } := I1.kept (t' := s1.toks) fun b ob q => Heap.get?_push_of_some _ q
  refine ⟨hdo.typeIs, hdo.mapOf.noDict, ?_⟩
  refine method_meetsIn F.slot_dict_values F.entry_dict_values rfl (PySem.evalArgs_none ⟨rfl, hdo.typeIs, F.args_dict_values_1 _, _, meets_dict_values (mixKind X.prog X.w) d hs0, ⟨vs, hdo⟩, Calls.spliced_nil ?_⟩)
  refine PySem.W.kdl_call (PySem.W.kdl_values (knd := mixKind X.prog X.w) (kvs := vs) (ep := ep)) (I1.ok.hd hc) ⟨⟨_, Heap.get?_push_size _ rfl, rfl, rfl⟩, hat.push _⟩ (by omega) fun h' tk acc c hk hS hP => ?_
  refine ⟨.ref _, _, I2.laid (t' := tk) hk (Nat.le_refl _) (show ObjOk X.prog X.w _ h' _ (.lst (kvs.map Prod.snd)) from ⟨by rw [List.length_map]; omega, acc.toList, c, ?_, by rw [Array.toArray_toList]; exact hS⟩), rfl, q _ (I2.hok.fresh (Nat.le_refl _))⟩
  refine vals_of (by rw [Array.length_toList, hP.1, List.length_map, lk]) fun i u e => ?_
  obtain ⟨k, e2⟩ := hP.2 i u (by simpa using e)
  obtain ⟨pk, e3, e4⟩ := paired_back kv e2
  exact ⟨pk.2, by rw [List.getElem?_map, e3]; rfl, e4.2⟩
end
end Yv
set_option Elab.async false
set_option linter.all false
set_option maxRecDepth 100000
set_option maxHeartbeats 4000000
/-! Yz: list(zip(t, u)), t a tuple of texts, u a tuple. -/
namespace Yz
open PySem PySem.Spec PyProof.Rows L2 RZ
section
variable {prog : Program} {w : World} {A : Around} {E : Value → Shared → Prop} {s : Shared}
theorem held_item {z TI TO T i1 i2 l1 l2 : Addr} {f : Bool} {oT : Obj} {k : Nat} {xs ys : Array Value} {x y : Value} {Q : Option Value → Shared → Prop} (D : ZipApart z TI TO i1 i2 l1 l2)
    (hz : IsZipHeld s.heap z TI TO T f) (hT : s.heap.get? T = some oT) (hTI : IsPair s.heap TI (.ref i1) (.ref i2)) (h1 : s.heap.IsTupleIter i1 l1 k) (h2 : s.heap.IsTupleIter i2 l2 k)
    (hl1 : s.heap.IsTuple l1 xs) (hl2 : s.heap.IsTuple l2 ys) (hx : xs[k]? = some x) (hy : ys[k]? = some y)
    (hQ : ∀ h', IsZipHeld h' z TI TO T true → h'.IsTupleIter i1 l1 (k + 1) → h'.IsTupleIter i2 l2 (k + 1) → IsPair h' s.heap.objs.size x y → h'.objs.size = s.heap.objs.size + 1 →
      (∀ c o, c ≠ z → c ≠ i1 → c ≠ i2 → s.heap.get? c = some o → h'.get? c = some o) → Q (some (.ref s.heap.objs.size)) { s with heap := h' }) : wpAny (model prog w) A (pyNext (.ref z)) Q E s := by
  have hTy : s.TypeIs (.ref z) "zip" := ⟨_, hz, rfl⟩
  have core : ∀ R : Value → Shared → Prop, (∀ h', IsZipHeld h' z TI TO T true → h'.IsTupleIter i1 l1 (k + 1) → h'.IsTupleIter i2 l2 (k + 1) → IsPair h' s.heap.objs.size x y → h'.objs.size = s.heap.objs.size + 1 →
      (∀ c o, c ≠ z → c ≠ i1 → c ≠ i2 → s.heap.get? c = some o → h'.get? c = some o) → R (.ref s.heap.objs.size) { s with heap := h' }) → ∀ B E', wpAny (model prog w) B (Builtin.«zip.__next__» ⟨[.ref z], []⟩) (fun fin s' => ∃ v, fin = .done (.ret v) ∧ R v s') E' s := by
    intro R hR B E'
    show wpAny _ _ (field (.ref z) 2 >>= _) _ _ _
    refine wpAny_bind (wpAny_field hz rfl (x := .bool false) rfl ?_)
    show wpAny _ _ (field (.ref z) 3 >>= _) _ _ _
    refine wpAny_bind (wpAny_field hz rfl (x := .ref TI) rfl (wpAny_bind (wpAny_seqItems hTI rfl ?_)))
    show wpAny _ _ (Builtin.SmallTypes.ownedTupleIsFree (.ref z) >>= _) _ _ _
    refine wpAny_bind (wpAny_tupleHeld_zip hz hT fun a1 z1 s1 => ?_)
    simp only [Bool.false_eq_true, if_false]
    refine wpAny_bind ?_
    rw [← Array.forIn_toList]
    simp only [List.forIn_cons, List.forIn_nil]
    refine wpAny_bind (wpAny_bind (wpAny_holding ?_))
    show wpAny _ _ (Builtin.SmallTypes.nextOf (.ref i1) >>= _) _ _ _
    refine wpAny_bind (nextOf_tuple_item (s := { s with heap := a1 }) (h1.extBut s1.extBut D.i1z) (hl1.extBut s1.extBut D.l1z) hx fun a2 t2 s2 => wpAny_pure (wpAny_pure ?_))
    refine wpAny_bind (wpAny_bind (wpAny_holding ?_))
    show wpAny _ _ (Builtin.SmallTypes.nextOf (.ref i2) >>= _) _ _ _
    refine wpAny_bind (nextOf_tuple_item (s := { s with heap := a2 }) ((h2.extBut s1.extBut D.i2z).extBut s2.extBut D.i12.symm) ((hl2.extBut s1.extBut D.l2z).extBut s2.extBut D.l2i1) hy fun a3 t3 s3 => wpAny_pure (wpAny_pure (wpAny_pure ?_)))
    show wpAny _ _ (newTuple [x, y] >>= _) _ _ _
    refine wpAny_bind (wpAny_newTuple (wpAny_pure ⟨_, rfl, ?_⟩))
    have sz : a3.objs.size = s.heap.objs.size := by rw [s3.1, s2.1, s1.1]
    have z3 : IsZipHeld a3 z TI TO T true := s3.extBut _ _ D.i2z.symm (s2.extBut _ _ D.i1z.symm z1)
    have kk : ∀ c o, c ≠ z → c ≠ i1 → c ≠ i2 → s.heap.get? c = some o → a3.get? c = some o := fun c o c1 c2 c3 e => s3.extBut _ _ c3 (s2.extBut _ _ c2 (s1.extBut _ _ c1 e))
    have u3 : a3.IsTupleIter i1 l1 (k + 1) := t2.extBut s3.extBut D.i12
    have hp : IsPair (a3.push { cls := .type "tuple", data := .seq #[x, y] }) a3.objs.size x y := Heap.get?_push_size _ rfl
    have z4 : (a3.push { cls := .type "tuple", data := .seq #[x, y] }).objs.size = a3.objs.size + 1 := Heap.size_push ..
    show R (.ref a3.objs.size) _
    rw [sz] at hp z4 ⊢
    exact hR _ (Heap.get?_push_of_some _ z3) (u3.at fun o e => Heap.get?_push_of_some _ e) (t3.at fun o e => Heap.get?_push_of_some _ e) hp z4 fun c o c1 c2 c3 e => Heap.get?_push_of_some _ (kk c o c1 c2 c3 e)
  unfold pyNext
  exact wpAny_bind (wpAny_attempt (wpAny_callSpecial?_slot (name := Str.ofString "__next__") hTy F.slot_zip_next (wpAny_call_entry F.slot_zip_next hTy F.entry_zip_next (core _ (fun h' b1 b2 b3 b4 b5 b6 => wpAny_pure (hQ h' b1 b2 b3 b4 b5 b6)) _ _) (F.args_zip_next_1 _))))
theorem held_end {z TI TO T i1 i2 l1 l2 : Addr} {f : Bool} {oT : Obj} {k : Nat} {xs ys : Array Value} {Q : Option Value → Shared → Prop} (hh : A.handled = none) (D : ZipApart z TI TO i1 i2 l1 l2)
    (hz : IsZipHeld s.heap z TI TO T f) (hT : s.heap.get? T = some oT) (hTI : IsPair s.heap TI (.ref i1) (.ref i2)) (h1 : s.heap.IsTupleIter i1 l1 k) (h2 : s.heap.IsTupleIter i2 l2 k)
    (hl1 : s.heap.IsTuple l1 xs) (hl2 : s.heap.IsTuple l2 ys) (hend : xs[k]? = none ∨ ys[k]? = none)
    (hQ : ∀ h', (∀ c o, c ≠ z → c ≠ i1 → c ≠ i2 → s.heap.get? c = some o → h'.get? c = some o) → Q none { s with heap := h' }) : wpAny (model prog w) A (pyNext (.ref z)) Q E s := by
  have hTy : s.TypeIs (.ref z) "zip" := ⟨_, hz, rfl⟩
  have core : ∀ (B : Around) (E' : Value → Shared → Prop) (R : Fin → Shared → Prop), B.handled = none → (∀ h' e, (∀ c o, c ≠ z → c ≠ i1 → c ≠ i2 → s.heap.get? c = some o → h'.get? c = some o) → (∃ o, h'.get? e = some o ∧ o.cls = .type "StopIteration") → E' (.ref e) { s with heap := h' }) →
      wpAny (model prog w) B (Builtin.«zip.__next__» ⟨[.ref z], []⟩) R E' s := by
    intro B E' R hB hE
    show wpAny _ _ (field (.ref z) 2 >>= _) _ _ _
    refine wpAny_bind (wpAny_field hz rfl (x := .bool false) rfl ?_)
    show wpAny _ _ (field (.ref z) 3 >>= _) _ _ _
    refine wpAny_bind (wpAny_field hz rfl (x := .ref TI) rfl (wpAny_bind (wpAny_seqItems hTI rfl ?_)))
    show wpAny _ _ (Builtin.SmallTypes.ownedTupleIsFree (.ref z) >>= _) _ _ _
    refine wpAny_bind (wpAny_tupleHeld_zip hz hT fun a1 z1 s1 => ?_)
    simp only [Bool.false_eq_true, if_false]
    refine wpAny_bind ?_
    rw [← Array.forIn_toList]
    simp only [List.forIn_cons, List.forIn_nil]
    refine wpAny_bind (wpAny_bind (wpAny_holding ?_))
    show wpAny _ _ (Builtin.SmallTypes.nextOf (.ref i1) >>= _) _ _ _
    cases hx : xs[k]? with
    | none => exact wpAny_bind (nextOf_tuple_end (s := { s with heap := a1 }) hB (h1.extBut s1.extBut D.i1z) (hl1.extBut s1.extBut D.l1z) hx fun a2 e s2 he => hE a2 e (fun c o c1 c2 _ q => s2 _ _ c2 (s1.extBut _ _ c1 q)) he)
    | some x =>
      have hy : ys[k]? = none := by
        rcases hend with q | q
        · rw [hx] at q; cases q
        · exact q
      refine wpAny_bind (nextOf_tuple_item (s := { s with heap := a1 }) (h1.extBut s1.extBut D.i1z) (hl1.extBut s1.extBut D.l1z) hx fun a2 t2 s2 => wpAny_pure (wpAny_pure ?_))
      refine wpAny_bind (wpAny_bind (wpAny_holding ?_))
      show wpAny _ _ (Builtin.SmallTypes.nextOf (.ref i2) >>= _) _ _ _
      exact wpAny_bind (nextOf_tuple_end (s := { s with heap := a2 }) hB ((h2.extBut s1.extBut D.i2z).extBut s2.extBut D.i12.symm) ((hl2.extBut s1.extBut D.l2z).extBut s2.extBut D.l2i1) hy fun a3 e s3 he => hE a3 e (fun c o c1 c2 c3 q => s3 _ _ c3 (s2.extBut _ _ c2 (s1.extBut _ _ c1 q))) he)
  unfold pyNext
  refine wpAny_bind (wpAny_attempt (wpAny_callSpecial?_slot (name := Str.ofString "__next__") hTy F.slot_zip_next (wpAny_call_entry F.slot_zip_next hTy F.entry_zip_next (core _ _ _ hh fun h' e hk he => ?_) (F.args_zip_next_1 _))))
  obtain ⟨o, ho, hc⟩ := he
  exact wpAny_bind (wpAny_isInstance (T := "StopIteration") (b := true) ⟨o, ho, hc⟩ isSubtype_stop (wpAny_pure (hQ _ hk)))
/-- a zip under way, none of whose objects is S -/
structure ZS (h : Heap) (z TI TO i1 i2 l1 l2 S : Addr) (k : Nat) : Prop where
  ti : IsPair h TI (.ref i1) (.ref i2)
  it1 : h.IsTupleIter i1 l1 k
  it2 : h.IsTupleIter i2 l2 k
  zz : (IsZip h z TI TO .none ∧ ∃ x y, IsPair h TO x y) ∨ ∃ T f oT, IsZipHeld h z TI TO T f ∧ h.get? T = some oT ∧ T ≠ S ∧ T ≠ z ∧ T ≠ TO ∧ T ≠ i1 ∧ T ≠ i2
theorem ZS.keep {h h' : Heap} {z TI TO i1 i2 l1 l2 S : Addr} {k : Nat} (g : ZS h z TI TO i1 i2 l1 l2 S k) (n1 : z ≠ S) (n2 : TI ≠ S) (n3 : TO ≠ S) (n4 : i1 ≠ S) (n5 : i2 ≠ S) (e : ∀ b o, b ≠ S → h.get? b = some o → h'.get? b = some o) : ZS h' z TI TO i1 i2 l1 l2 S k := by
  refine ⟨e _ _ n2 g.ti, g.it1.at fun o q => e _ _ n4 q, g.it2.at fun o q => e _ _ n5 q, ?_⟩
  rcases g.zz with ⟨a, x, y, b⟩ | ⟨T, f, oT, a, b, c, d⟩
  · exact .inl ⟨e _ _ n1 a, x, y, e _ _ n3 b⟩
  · exact .inr ⟨T, f, oT, e _ _ n1 a, e _ _ c b, c, d⟩
theorem zs_item {z TI TO i1 i2 l1 l2 S : Addr} {k : Nat} {xs ys : Array Value} {x y : Value} {Q : Option Value → Shared → Prop} (D : ZipApart z TI TO i1 i2 l1 l2) (g : ZS s.heap z TI TO i1 i2 l1 l2 S k) (hS : S < s.heap.objs.size)
    (hl1 : s.heap.IsTuple l1 xs) (hl2 : s.heap.IsTuple l2 ys) (hx : xs[k]? = some x) (hy : ys[k]? = some y)
    (hQ : ∀ h', ZS h' z TI TO i1 i2 l1 l2 S (k + 1) → IsPair h' s.heap.objs.size x y → h'.objs.size = s.heap.objs.size + 1 → (∀ c o, c ≠ z → c ≠ TO → c ≠ i1 → c ≠ i2 → s.heap.get? c = some o → h'.get? c = some o) → Q (some (.ref s.heap.objs.size)) { s with heap := h' }) :
    wpAny (model prog w) A (pyNext (.ref z)) Q E s := by
  have lt : ∀ {a : Addr} {o : Obj}, s.heap.get? a = some o → a < s.heap.objs.size := fun e => Heap.lt_size e
  have li1 : i1 < s.heap.objs.size := by obtain ⟨_, e, _⟩ := g.it1; exact lt e
  have li2 : i2 < s.heap.objs.size := by obtain ⟨_, e, _⟩ := g.it2; exact lt e
  rcases g.zz with ⟨hz, a, b, hTO⟩ | ⟨T, f, oT, hz, hT, n1, n2, n3, n4, n5⟩
  · refine pyNext_zipT_item D hz g.ti hTO g.it1 g.it2 hl1 hl2 hx hy fun h' b1 b2 b3 b4 b5 b6 b7 => ?_
    refine hQ h' ⟨b7 _ _ D.TIz D.TITO D.TIi1 D.TIi2 g.ti, b3, b4, .inr ⟨_, false, _, b1, b5, Nat.ne_of_gt hS, Nat.ne_of_gt (lt hz), Nat.ne_of_gt (lt hTO), Nat.ne_of_gt li1, Nat.ne_of_gt li2⟩⟩ b5 b6 b7
  · refine held_item D hz hT g.ti g.it1 g.it2 hl1 hl2 hx hy fun h' b1 b3 b4 b5 b6 b7 => ?_
    exact hQ h' ⟨b7 _ _ D.TIz D.TIi1 D.TIi2 g.ti, b3, b4, .inr ⟨T, true, oT, b1, b7 _ _ n2 n4 n5 hT, n1, n2, n3, n4, n5⟩⟩ b5 b6 fun c o c1 _ c3 c4 e => b7 c o c1 c3 c4 e
theorem zs_end {z TI TO i1 i2 l1 l2 S : Addr} {k : Nat} {xs ys : Array Value} {Q : Option Value → Shared → Prop} (hh : A.handled = none) (D : ZipApart z TI TO i1 i2 l1 l2) (g : ZS s.heap z TI TO i1 i2 l1 l2 S k)
    (hl1 : s.heap.IsTuple l1 xs) (hl2 : s.heap.IsTuple l2 ys) (hend : xs[k]? = none ∨ ys[k]? = none)
    (hQ : ∀ h', (∀ c o, c ≠ z → c ≠ TO → c ≠ i1 → c ≠ i2 → s.heap.get? c = some o → h'.get? c = some o) → Q none { s with heap := h' }) : wpAny (model prog w) A (pyNext (.ref z)) Q E s := by
  rcases g.zz with ⟨hz, a, b, hTO⟩ | ⟨T, f, oT, hz, hT, _⟩
  · exact pyNext_zipT_end hh D hz g.ti hTO g.it1 g.it2 hl1 hl2 hend hQ
  · exact held_end hh D hz hT g.ti g.it1 g.it2 hl1 hl2 hend fun h' hk => hQ h' fun c o c1 _ c3 c4 e => hk c o c1 c3 c4 e
/-- what the pairs are -/
def Prs (knd : KeyKind prog w Key) (vs : List (Key × Value)) (xs ys : Array Value) : Prop := (∀ (i : Nat) (p : Key × Value), vs[i]? = some p → ∃ key, xs[i]? = some key ∧ ys[i]? = some p.2 ∧ knd.is p.1 key = true) ∧ (xs[vs.length]? = none ∨ ys[vs.length]? = none)
theorem z_loop {R : Result → Shared → Prop} {knd : KeyKind prog w Key} {z TI TO i1 i2 l1 l2 S : Addr} {xs ys : Array Value} {vs : List (Key × Value)} (hh : A.handled = none) (D : ZipApart z TI TO i1 i2 l1 l2) (n1 : z < S) (n2 : TI < S) (n3 : TO < S) (n4 : i1 < S) (n5 : i2 < S) (n6 : l1 < S) (n7 : l2 < S)
    (lz : l1 ≠ z ∧ l1 ≠ TO ∧ l1 ≠ i1 ∧ l1 ≠ i2) (mz : l2 ≠ z ∧ l2 ≠ TO ∧ l2 ≠ i1 ∧ l2 ≠ i2) (hn : vs.length ≤ sizeLine) (hv : Prs knd vs xs ys) (res : Value) {h0 : Heap}
    (hR : ∀ h' tk acc c as, (∀ b o, b ≠ S → b ≠ z → b ≠ TO → b ≠ i1 → b ≠ i2 → h0.get? b = some o → h'.get? b = some o) → h'.get? S = some { cls := .type "list", dict := none, data := .seq acc c, slots := #[] } → as.length = vs.length → PySem.W.KdxG knd vs S h' as →
      acc.toList = as.map Value.ref → R (.ok (.ret res)) { s with heap := h', toks := tk }) :
    ∀ (m i : Nat) (h : Heap) (tk c : Nat) (acc : Array Value) (as : List Addr), vs.length - i = m → i ≤ vs.length → ZS h z TI TO i1 i2 l1 l2 S i → h.IsTuple l1 xs → h.IsTuple l2 ys → (∀ b o, b ≠ S → b ≠ z → b ≠ TO → b ≠ i1 → b ≠ i2 → h0.get? b = some o → h.get? b = some o) →
      h.get? S = some { cls := .type "list", dict := none, data := .seq acc c, slots := #[] } → acc.toList = as.map Value.ref → as.length = i → PySem.W.KdxG knd vs S h as →
      codeAny (model prog w) A (.builtin "list.extend.loop" ⟨[.ref S, .ref z, res], []⟩) R { s with heap := h, toks := tk } := by
  intro m
  induction m with
  | zero =>
    intro i h tk c acc as hm hi g hl1 hl2 hk hS hacc hal hG
    obtain rfl : i = vs.length := by omega
    refine codeAny_builtin PySem.F.entry_extend_loop ?_
    rw [Around.under_plainId PySem.F.plain_extend_loop _]
    show wpAny _ A.in1 (pyNext (.ref z) >>= _) _ _ _
    refine wpAny_bind (zs_end (s := { s with heap := h, toks := tk }) (A := A.in1) hh D g hl1 hl2 hv.2 fun h' he => wpAny_pure ?_)
    refine hR h' tk acc c as (fun b o b1 b2 b3 b4 b5 e => he b o b2 b3 b4 b5 (hk b o b1 b2 b3 b4 b5 e)) (he S _ (Nat.ne_of_gt n1) (Nat.ne_of_gt n3) (Nat.ne_of_gt n4) (Nat.ne_of_gt n5) hS) hal ⟨hG.rise, hG.above, fun j a hj => ?_⟩ hacc
    obtain ⟨key, k, x, e1, e2, e3⟩ := hG.pairs j a hj
    have ha := hG.above a (List.mem_of_getElem? hj)
    exact ⟨key, k, x, e1, e2, he a _ (Nat.ne_of_gt (Nat.lt_trans n1 ha)) (Nat.ne_of_gt (Nat.lt_trans n3 ha)) (Nat.ne_of_gt (Nat.lt_trans n4 ha)) (Nat.ne_of_gt (Nat.lt_trans n5 ha)) e3⟩
  | succ m ih =>
    intro i h tk c acc as hm hi g hl1 hl2 hk hS hacc hal hG
    have hlt : i < vs.length := by omega
    obtain ⟨key, ek, ey, is⟩ := hv.1 i vs[i] (List.getElem?_eq_getElem hlt)
    have hsz : acc.size = i := by rw [← Array.length_toList, hacc, List.length_map, hal]
    have hSl : S < h.objs.size := Heap.lt_size hS
    refine codeAny_builtin PySem.F.entry_extend_loop ?_
    rw [Around.under_plainId PySem.F.plain_extend_loop _]
    show wpAny _ A.in1 (pyNext (.ref z) >>= _) _ _ _
    refine wpAny_bind (zs_item (s := { s with heap := h, toks := tk }) (S := S) D g hSl hl1 hl2 ek ey fun h' g' hp hz' hkp => ?_)
    dsimp only at hp hz' hkp ⊢
    have hS' := hkp S _ (Nat.ne_of_gt n1) (Nat.ne_of_gt n3) (Nat.ne_of_gt n4) (Nat.ne_of_gt n5) hS
    have up : ∀ b o, b ≠ S → h'.get? b = some o → (h'.update S (Obj.mapSeq (·.push (Value.ref h.objs.size)))).get? b = some o := fun b o hb e => (Heap.get?_update_other _ _ (Ne.symm hb)).trans e
    have hpS : (h'.update S (Obj.mapSeq (·.push (Value.ref h.objs.size)))).get? h.objs.size = some { cls := .type "tuple", data := .seq #[key, vs[i].2] } := up _ _ (Nat.ne_of_gt hSl) hp
    show wpAny _ A.in1 (updateSeq S (·.push (Value.ref h.objs.size)) >>= _) _ _ _
    refine wpAny_bind (wpAny_updateSeq hS' rfl (wpAny_pure ⟨plainId_quiet PySem.F.plain_extend_loop _, ih (i + 1) _ tk _ (acc.push (Value.ref h.objs.size)) (as ++ [h.objs.size]) (by omega) hlt
      (g'.keep (Nat.ne_of_lt n1) (Nat.ne_of_lt n2) (Nat.ne_of_lt n3) (Nat.ne_of_lt n4) (Nat.ne_of_lt n5) up) (hl1.at fun o e => up _ o (Nat.ne_of_lt n6) (hkp _ o lz.1 lz.2.1 lz.2.2.1 lz.2.2.2 e)) (hl2.at fun o e => up _ o (Nat.ne_of_lt n7) (hkp _ o mz.1 mz.2.1 mz.2.2.1 mz.2.2.2 e))
      (fun b o b1 b2 b3 b4 b5 e => up b o b1 (hkp b o b2 b3 b4 b5 (hk b o b1 b2 b3 b4 b5 e))) (Heap.get?_update_self _ hS' rfl) (by rw [Array.toList_push, hacc, List.map_append]; rfl) (by rw [List.length_append, hal]; rfl) ⟨?_, ?_, ?_⟩⟩) (by rw [hsz]; omega) (by show (acc.push (Value.ref h.objs.size)).size ≤ sizeLine + 1; rw [Array.size_push, hsz]; omega))
    · exact List.pairwise_append.mpr ⟨hG.rise, List.pairwise_singleton _ _, fun a ha b hb => by rw [List.mem_singleton.mp hb]; exact hG.there ha⟩
    · intro a ha
      rcases List.mem_append.mp ha with ha | ha
      · exact hG.above a ha
      · rw [List.mem_singleton.mp ha]
        exact hSl
    · intro j b hj
      rcases Nat.lt_trichotomy j as.length with q | q | q
      · rw [List.getElem?_append_left q] at hj
        obtain ⟨ky, k, x, e1, e2, e3⟩ := hG.pairs j b hj
        have hb := hG.above b (List.mem_of_getElem? hj)
        exact ⟨ky, k, x, e1, e2, up b _ (Nat.ne_of_gt hb) (hkp b _ (Nat.ne_of_gt (Nat.lt_trans n1 hb)) (Nat.ne_of_gt (Nat.lt_trans n3 hb)) (Nat.ne_of_gt (Nat.lt_trans n4 hb)) (Nat.ne_of_gt (Nat.lt_trans n5 hb)) e3)⟩
      · subst q
        have hb : h.objs.size = b := by simpa using hj
        subst hb
        subst hal
        exact ⟨key, vs[as.length].1, vs[as.length].2, List.getElem?_eq_getElem hlt, is, hpS⟩
      · rw [List.getElem?_eq_none (by rw [List.length_append, List.length_singleton]; omega)] at hj
        cases hj
theorem zip_no_len : typeLookup (.type "zip") "__len__" = pure none := am_miss_of_fast (by decide +kernel)
theorem zip_no_hint : typeLookup (.type "zip") "__length_hint__" = pure none := am_miss_of_fast (by decide +kernel)
theorem hint_zip {r : Addr} (hT : s.TypeIs (.ref r) "zip") {Q : Bool → Shared → Prop} (h : Q true s) : wpAny (model prog w) A (Builtin.List.listLengthHint (.ref r)) Q E s := by
  unfold Builtin.List.listLengthHint
  refine wpAny_bind (wpAny_specialOf hT zip_no_len ?_)
  simp only [Option.isSome_none, Bool.false_eq_true, if_false]
  refine wpAny_ite_split (fun q => absurd q (by decide)) (fun _ => wpAny_bind (wpAny_specialOf hT zip_no_hint (wpAny_pure h)))
theorem z_extend {R : Result → Shared → Prop} {knd : KeyKind prog w Key} {z TI TO i1 i2 l1 l2 S : Addr} {xs ys : Array Value} {vs : List (Key × Value)} (hh : A.handled = none) (D : ZipApart z TI TO i1 i2 l1 l2) (n1 : z < S) (n2 : TI < S) (n3 : TO < S) (n4 : i1 < S) (n5 : i2 < S) (n6 : l1 < S) (n7 : l2 < S)
    (lz : l1 ≠ z ∧ l1 ≠ TO ∧ l1 ≠ i1 ∧ l1 ≠ i2) (mz : l2 ≠ z ∧ l2 ≠ TO ∧ l2 ≠ i1 ∧ l2 ≠ i2) (hn : vs.length ≤ sizeLine) (hv : Prs knd vs xs ys) (res : Value) (c0 : Nat)
    (hz : IsZip s.heap z TI TO .none) (hTI : IsPair s.heap TI (.ref i1) (.ref i2)) (hTO : ∃ x y, IsPair s.heap TO x y) (h1 : s.heap.IsTupleIter i1 l1 0) (h2 : s.heap.IsTupleIter i2 l2 0) (hl1 : s.heap.IsTuple l1 xs) (hl2 : s.heap.IsTuple l2 ys)
    (hS : s.heap.get? S = some { cls := .type "list", data := .seq #[] c0 })
    (hR : ∀ h' tk acc c as, (∀ b o, b ≠ S → b ≠ z → b ≠ TO → b ≠ i1 → b ≠ i2 → s.heap.get? b = some o → h'.get? b = some o) → h'.get? S = some { cls := .type "list", dict := none, data := .seq acc c, slots := #[] } → as.length = vs.length → PySem.W.KdxG knd vs S h' as →
      acc.toList = as.map Value.ref → R (.ok (.ret res)) { s with heap := h', toks := tk }) :
    wpAny (model prog w) A.in1 (Builtin.List.listExtendWith (.ref S) (.ref z) res)
      (fun fin s' => match fin with | .done f => R (.ok f) s' | .again c' => c'.quiet = true ∧ codeAny (model prog w) A c' R s') (fun e s' => R (.error e) s') s := by
  have g0 : ZS s.heap z TI TO i1 i2 l1 l2 S 0 := ⟨hTI, h1, h2, .inl ⟨hz, hTO⟩⟩
  have key : ∀ (h : Heap) (c₁ tk : Nat), (∀ b o, b ≠ S → s.heap.get? b = some o → h.get? b = some o) → h.get? S = some { cls := .type "list", data := .seq #[] c₁ } → codeAny (model prog w) A (.builtin "list.extend.loop" ⟨[.ref S, .ref z, res], []⟩) R { s with heap := h, toks := tk } := by
    intro h c₁ tk hk hS₁
    exact z_loop (s := s) (h0 := s.heap) hh D n1 n2 n3 n4 n5 n6 n7 lz mz hn hv res hR vs.length 0 h tk c₁ #[] [] (Nat.sub_zero _) (Nat.zero_le _) (g0.keep (Nat.ne_of_lt n1) (Nat.ne_of_lt n2) (Nat.ne_of_lt n3) (Nat.ne_of_lt n4) (Nat.ne_of_lt n5) hk)
      (hl1.at fun o e => hk _ o (Nat.ne_of_lt n6) e) (hl2.at fun o e => hk _ o (Nat.ne_of_lt n7) e) (fun b o b1 _ _ _ _ e => hk b o b1 e) hS₁ rfl rfl ⟨List.Pairwise.nil, (fun _ ha => nomatch ha), fun j a hj => by simp at hj⟩
  unfold Builtin.List.listExtendWith
  refine wpAny_bind (wpAny_typeOf (T := "zip") ⟨_, hz, rfl⟩ ?_)
  have q1 : Builtin.List.listSameRef (.ref S) (.ref z) = false := by simp [Builtin.List.listSameRef, Nat.ne_of_gt n1]
  have q2 : (Value.type "zip" == Value.type "list") = false := by decide
  have q3 : (Value.type "zip" == Value.type "tuple") = false := by decide
  simp only [q1, q2, q3, Bool.or_false, Bool.false_eq_true, if_false]
  refine wpAny_bind (wpAny_pyIter_zip hz (wpAny_bind (wpAny_holding (hint_zip ⟨_, hz, rfl⟩ ?_))))
  refine wpAny_ite_split (fun _ => wpAny_bind (wpAny_rule (wpAny_bind ?_))) (fun _ => wpAny_pure ⟨plainId_quiet PySem.F.plain_extend_loop _, key _ c0 _ (fun b o _ e => e) hS⟩)
  show wpAny _ _ (updateSeq S (·.push .none) >>= fun _ => updateSeq S (·.pop)) _ _ _
  refine wpAny_bind (wpAny_updateSeq hS rfl ?_)
  have hS2 := Heap.get?_update_self (Obj.mapSeq (·.push Value.none)) hS rfl
  refine wpAny_updateSeq (hz := by seq_fits) hS2 rfl (wpAny_pure ⟨plainId_quiet PySem.F.plain_extend_loop _, key _ _ _ (fun b o hb e => ?_) (Heap.get?_update_self (Obj.mapSeq (·.pop)) hS2 rfl)⟩)
  exact (Heap.get?_update_other _ _ (Ne.symm hb)).trans ((Heap.get?_update_other _ _ (Ne.symm hb)).trans e)
theorem z_call {Q : Value → Shared → Prop} {knd : KeyKind prog w Key} {z TI TO i1 i2 l1 l2 : Addr} {xs ys : Array Value} {vs : List (Key × Value)} (hh : A.handled = none) (D : ZipApart z TI TO i1 i2 l1 l2)
    (lz : l1 ≠ z ∧ l1 ≠ TO ∧ l1 ≠ i1 ∧ l1 ≠ i2) (mz : l2 ≠ z ∧ l2 ≠ TO ∧ l2 ≠ i1 ∧ l2 ≠ i2) (hn : vs.length ≤ sizeLine) (hv : Prs knd vs xs ys)
    (hz : IsZip s.heap z TI TO .none) (hTI : IsPair s.heap TI (.ref i1) (.ref i2)) (hTO : ∃ x y, IsPair s.heap TO x y) (h1 : s.heap.IsTupleIter i1 l1 0) (h2 : s.heap.IsTupleIter i2 l2 0) (hl1 : s.heap.IsTuple l1 xs) (hl2 : s.heap.IsTuple l2 ys)
    (hQ : ∀ h' tk acc c as, (∀ b o, b ≠ z → b ≠ TO → b ≠ i1 → b ≠ i2 → s.heap.get? b = some o → h'.get? b = some o) → h'.get? s.heap.objs.size = some { cls := .type "list", dict := none, data := .seq acc c, slots := #[] } → as.length = vs.length → PySem.W.KdxG knd vs s.heap.objs.size h' as →
      acc.toList = as.map Value.ref → Q (.ref s.heap.objs.size) { s with heap := h', toks := tk }) :
    wpAny (model prog w) A (call (.type "list") [.ref z]) Q E s := by
  refine callType_codes (Q₁ := fun obj s₁ => obj = .ref s.heap.objs.size ∧ s₁ = { s with heap := s.heap.push { cls := .type "list", data := .seq #[] } }) PySem.F.called_list (PySem.F.typeCall_list_1 _) PySem.F.entry_list_init (code_list_new _ ⟨rfl, rfl⟩) fun obj s₁ q => ?_
  obtain ⟨rfl, rfl⟩ := q
  have lt : ∀ {a : Addr} {o : Obj}, s.heap.get? a = some o → a < s.heap.objs.size := fun e => Heap.lt_size e
  have m1 : z < s.heap.objs.size := lt hz
  have m2 : TI < s.heap.objs.size := lt hTI
  have m3 : TO < s.heap.objs.size := by obtain ⟨_, _, e⟩ := hTO; exact lt e
  have m4 : i1 < s.heap.objs.size := by obtain ⟨_, e, _⟩ := h1; exact lt e
  have m5 : i2 < s.heap.objs.size := by obtain ⟨_, e, _⟩ := h2; exact lt e
  have m6 : l1 < s.heap.objs.size := by obtain ⟨_, e, _⟩ := hl1; exact lt e
  have m7 : l2 < s.heap.objs.size := by obtain ⟨_, e, _⟩ := hl2; exact lt e
  have hS : (s.heap.push { cls := .type "list", data := .seq #[] }).get? s.heap.objs.size = some { cls := .type "list", data := .seq #[] } := Heap.get?_push_size _ rfl
  have pu : ∀ b o, s.heap.get? b = some o → (s.heap.push { cls := .type "list", data := .seq #[] }).get? b = some o := fun b o e => Heap.get?_push_of_some _ e
  refine ⟨⟨_, hS, rfl⟩, PySem.F.args_list_init_2 _ _, ?_⟩
  show wpAny _ _ (do let old ← Builtin.List.listItems (.ref s.heap.objs.size); Builtin.List.listUpdate (.ref s.heap.objs.size) (fun _ => #[]); letGo old.toList.reverse; Builtin.List.listExtendWith (.ref s.heap.objs.size) (.ref z) .none) _ _ _
  refine wpAny_bind ?_
  unfold Builtin.List.listItems
  refine wpAny_bind (wpAny_seqItems hS rfl (wpAny_pure ?_))
  show wpAny _ _ (updateSeq s.heap.objs.size (fun _ => #[]) >>= fun _ => letGo (#[] : Array Value).toList.reverse >>= fun _ => Builtin.List.listExtendWith (.ref s.heap.objs.size) (.ref z) .none) _ _ _
  refine wpAny_bind (wpAny_updateSeq hS rfl (wpAny_bind (wpAny_letGo ?_)))
  have hS2 := Heap.get?_update_self (Obj.mapSeq (fun _ => (#[] : Array Value))) hS rfl
  have oth : ∀ b o, b ≠ s.heap.objs.size → s.heap.get? b = some o → ((s.heap.push { cls := .type "list", data := .seq #[] }).update s.heap.objs.size (Obj.mapSeq (fun _ => (#[] : Array Value)))).get? b = some o := fun b o hb e => (Heap.get?_update_other _ _ (Ne.symm hb)).trans (pu b o e)
  refine z_extend (s := { s with heap := (s.heap.push { cls := .type "list", data := .seq #[] }).update s.heap.objs.size (Obj.mapSeq (fun _ => (#[] : Array Value))) }) (A := A.in1) (S := s.heap.objs.size) hh D m1 m2 m3 m4 m5 m6 m7 lz mz hn hv .none _ (oth _ _ (Nat.ne_of_lt m1) hz) (oth _ _ (Nat.ne_of_lt m2) hTI) (by obtain ⟨x, y, e⟩ := hTO; exact ⟨x, y, oth _ _ (Nat.ne_of_lt m3) e⟩)
    (h1.at fun o e => oth _ o (Nat.ne_of_lt m4) e) (h2.at fun o e => oth _ o (Nat.ne_of_lt m5) e) (hl1.at fun o e => oth _ o (Nat.ne_of_lt m6) e) (hl2.at fun o e => oth _ o (Nat.ne_of_lt m7) e) hS2 fun h' tk acc c as hk hS' hl hG hacc => ?_
  exact ⟨rfl, hQ h' tk acc c as (fun b o b2 b3 b4 b5 e => hk b o (Nat.ne_of_lt (lt e)) b2 b3 b4 b5 (oth b o (Nat.ne_of_lt (lt e)) e)) hS' hl hG hacc⟩
end
/-! ### the rule -/
def kf {α : Type} (q : Str × α) : Key × α := (.inr q.1, q.2)
theorem kv_zip : ∀ (ks : List Str) {ys : List V} {us : List Value}, Vals ys us → KV ((ks.zip ys).map kf) ((ks.zip us).map kf)
  | [], _, _, _ => .nil
  | _ :: _, _, _, .nil => .nil
  | k :: ks, _, _, .cons r t => .cons ⟨rfl, r⟩ (kv_zip ks t)
theorem prs_zip (P : Program) (w : World) {ks : List Str} {us vs : List Value} (r : Vals (ks.map V.str) us) : Prs (mixKind P w) ((ks.zip vs).map kf) us.toArray vs.toArray := by
  have lu : ks.length = us.length := by rw [← Paired.length r, List.length_map]
  refine ⟨fun i p hp => ?_, ?_⟩
  · rw [List.getElem?_map] at hp
    cases e : (ks.zip vs)[i]? with
    | none => rw [e] at hp; cases hp
    | some q =>
      rw [e] at hp
      cases hp
      obtain ⟨e1, e2⟩ := List.getElem?_zip_eq_some.mp e
      obtain ⟨u, g1, g2⟩ := LiI.paired_get r (show (ks.map V.str)[i]? = some (V.str q.1) by rw [List.getElem?_map, e1]; rfl)
      exact ⟨u, by rw [List.getElem?_toArray]; exact g1, by rw [List.getElem?_toArray]; exact e2, kV_is (show RelV (kV (.inr q.1)) u from g2)⟩
  · rw [List.getElem?_toArray, List.getElem?_toArray, List.length_map, List.length_zip]
    rcases Nat.le_total ks.length vs.length with h | h
    · exact .inl (List.getElem?_eq_none (by omega))
    · exact .inr (List.getElem?_eq_none (by omega))
section
variable {X : Cx}
theorem laid {pins : List (Addr × Obj)} {σ : L2.St} {H : Hp} {s : Shared} {h' : Heap} {tk : Nat} {kvs : List (Key × V)} {vs : List (Key × Value)} {acc : Array Value} {c : Nat} {as : List Addr} {S : Addr} (I : Inv X pins σ H s) (hz : kvs.length ≤ sizeLine) (kv : KV kvs vs) (hSg : s.heap.objs.size ≤ S)
    (hk : ∀ b o, s.heap.get? b = some o → h'.get? b = some o) (hS : h'.get? S = some { cls := .type "list", dict := none, data := .seq acc c, slots := #[] }) (hl : as.length = vs.length) (hG : PySem.W.KdxG (mixKind X.prog X.w) vs S h' as) (hacc : acc.toList = as.map Value.ref) :
    ∃ H' : Hp, (∀ b o, H b = some o → H' b = some o) ∧ H S = none ∧ (∀ t ∈ as, H t = none) ∧ S ∉ as ∧ H' S = some (.lst (as.map V.ref)) ∧ Paired (fun (t : Addr) (q : Key × V) => H' t = some (.tup [kV q.1, q.2])) as kvs ∧ Inv X pins σ H' { s with heap := h', toks := tk } := by
  have lk : kvs.length = vs.length := Paired.length kv
  have nS : S ∉ as := fun z => Nat.lt_irrefl _ (hG.above _ z)
  have nd : as.Nodup := List.Pairwise.imp (fun {a b} (h : a < b) => Nat.ne_of_lt h) hG.rise
  have new : ∀ t ∈ as, H t = none := fun t ht => I.hok.fresh (Nat.le_trans hSg (Nat.le_of_lt (hG.above t ht)))
  have newS : H S = none := I.hok.fresh hSg
  generalize hB : upd H S (.lst (as.map V.ref)) = B
  have at' := LiI.putT_at as kvs B (by omega) nd
  have offB : ∀ b, b ≠ S → B b = H b := fun b h => by rw [← hB, upd_ne h]
  have off : ∀ b, b ∉ as → b ≠ S → LiI.putT B as kvs b = H b := fun b h1 h2 => by rw [LiI.putT_off as kvs _ h1, offB b h2]
  have kp : ∀ b u, H b = some u → (LiI.putT B as kvs) b = some u := fun b u e => by
    rw [off b (fun z => by rw [new b z] at e; cases e) (fun z => by rw [z, newS] at e; cases e)]
    exact e
  have eS : LiI.putT B as kvs S = some (.lst (as.map V.ref)) := by rw [LiI.putT_off as kvs _ nS, ← hB, upd_same]
  refine ⟨LiI.putT B as kvs, kp, newS, new, nS, eS, at', ?_⟩
  refine I.call' (ch := []) rfl ⟨fun b o q _ _ _ => hk b o q, fun b o q _ _ _ => ⟨o.slots, hk b o q⟩, fun b o q n _ => ?_, fun b o q _ => ⟨o, hk b o q⟩, fun b xs q => kp b _ q, fun b o u q => kp b _ q, fun b ps q => ⟨#[], by rw [kp b _ q]; simp⟩⟩ (fun b u q => ?_) I.bare fun b z => by simp at z
  · have lb := Heap.lt_size q
    rw [off b (fun z => absurd (Nat.lt_of_le_of_lt hSg (hG.above b z)) (Nat.not_lt.mpr (Nat.le_of_lt lb))) (fun z => absurd lb (by rw [z]; exact Nat.not_lt.mpr hSg))]
    exact n
  · by_cases hb : b ∈ as
    · obtain ⟨j, pk, e1, e2, e3⟩ := LiI.paired_ix at' hb
      rw [e3] at q
      cases q
      obtain ⟨key, k, x, f1, f2, f3⟩ := hG.pairs j b e1
      obtain ⟨qv, g1, g2, g3⟩ := LiI.paired_get kv e2
      rw [f1] at g1
      cases g1
      have rk : RelV (kV pk.1) key := by
        rw [g2]
        exact relV_key (show keyIs k key = true from f2)
      exact ⟨by show 2 ≤ sizeLine; decide, [key, x], .cons rk (.cons g3 .nil), ⟨_, f3, rfl, _, rfl⟩⟩
    · by_cases hb2 : b = S
      · subst hb2
        rw [eS] at q
        cases q
        exact ⟨by rw [List.length_map]; omega, acc.toList, c, by rw [hacc]; exact LiI.vals_refs as, by rw [Array.toArray_toList]; exact hS⟩
      · rw [off b hb hb2] at q
        exact (I.hok b u q).stay (fun d v _ y => hk d v y) (fun d y => kp d _ y) fun d xs y => kp d _ y
def rZipL (K : PySem.W.Frag) : List V → Hp → VK → Prop := fun xs H Q => ∃ (a b : Addr) (ks : List Str) (ys : List V), xs = [.ref a, .ref b] ∧ SqT K H a (ks.map V.str) ∧ SqT K H b ys ∧
  ∀ (H' : Hp) (p : Addr) (ts : List Addr), (∀ b o, H b = some o → H' b = some o) → H p = none → (∀ t ∈ ts, H t = none) → p ∉ ts → H' p = some (.lst (ts.map V.ref)) → Paired (fun (t : Addr) (q : Key × V) => H' t = some (.tup [kV q.1, q.2])) ts ((ks.zip ys).map kf) → Q (.ref p) H'
def tListZip (K : PySem.W.Frag) (ta : TA) : TE := fun σ H Q => ta σ H fun xs H1 => rZipL K xs H1 Q
/-- list(zip(t, u)) -/
theorem pe_listZip {e e2 : Expr} {ta : TA} {p p2 pos pos2 : Pos} (hc : X.calm = true) (hg : Gl X "zip") (hm : X.mg "zip" = none) (hg2 : Gl X "list") (hm2 : X.mg "list" = none) (ha : PA X [e, e2] ta)
    (hs : starEach [e, e2] X.env = (false, eval e X.env) :: starEach [e2] X.env := by rfl) (hpl : (backTo pos2 (starEach [e2] X.env)).any (·.1) = false := by rfl)
    (hs2 : starEach [.Call (.Name "zip" p2) [e, e2] [] pos2] X.env = (false, eval (.Call (.Name "zip" p2) [e, e2] [] pos2) X.env) :: starEach [] X.env := by rfl) :
    PE X (.Call (.Name "list" p) [.Call (.Name "zip" p2) [e, e2] [] pos2] [] pos) (tListZip X.K ta) := by
  refine ⟨fun pins s σ H Q I h => Call_ (ld_blt I hg2 hm2 (by rfl) (PyProof.Rows.callWith_type1 (PyProof.Rows.args_cons ?_ hs2) hs2 rfl))⟩
  refine Call_ (ld_blt I hg hm PyProof.Rows.boot_zip (PyProof.Rows.callWith_type1 (thn (ha.run pos2 pins s σ H _ I h) fun us s1 ⟨vs, H1, I1, r1, q1⟩ => ?_) hs hpl))
  obtain ⟨a, b, ks, ys, ex, qa, qb, q⟩ := q1
  subst ex
  cases r1 with
  | cons r rr =>
  cases rr with
  | cons r' rr =>
  cases rr
  cases r
  cases r'
  obtain ⟨its, rv, p1, _⟩ := I1.tuple qa
  obtain ⟨its2, rv2, p2', hsz⟩ := I1.tuple qb
  obtain ⟨o1, ho1, _⟩ := id p1
  obtain ⟨o2, ho2, _⟩ := id p2'
  refine call_zipT (show s1.heap.IsTuple a its.toArray from p1) (show s1.heap.IsTuple b its2.toArray from p2') fun h' hz hTI hTO h1 h2 hsz' hk => ?_
  refine PyProof.Rows.args_nil ?_
  have la := Heap.lt_size ho1
  have lb := Heap.lt_size ho2
  have ll : ((ks.zip its2).map kf).length ≤ sizeLine := by
    have := Paired.length rv2
    rw [List.length_map, List.length_zip]
    exact Nat.le_trans (Nat.min_le_right _ _) (by omega)
  have ll' : ((ks.zip ys).map kf).length ≤ sizeLine := by
    rw [List.length_map, List.length_zip]
    exact Nat.le_trans (Nat.min_le_right _ _) hsz
  have P : ∀ {c : Addr} (n : Nat), c < s1.heap.objs.size → c ≠ s1.heap.objs.size + n := fun n h => Nat.ne_of_lt (Nat.lt_of_lt_of_le h (Nat.le_add_right _ n))
  refine z_call (s := { s1 with heap := h' }) (knd := mixKind X.prog X.w) (vs := (ks.zip its2).map kf) (I1.ok.hd hc) (PySem.W.ktu_apart s1.heap.objs.size a b la lb) ⟨P 4 la, P 3 la, P 0 la, P 1 la⟩ ⟨P 4 lb, P 3 lb, P 0 lb, P 1 lb⟩ ll (prs_zip X.prog X.w rv) hz hTI ⟨_, _, hTO⟩ h1 h2 (show h'.IsTuple a its.toArray from (show s1.heap.IsTuple a its.toArray from p1).at fun o e => hk _ o e) (show h'.IsTuple b its2.toArray from (show s1.heap.IsTuple b its2.toArray from p2').at fun o e => hk _ o e) fun h2' tk acc c as hk2 hS hl hG hacc => ?_
  obtain ⟨H', kp, n1, n2, n3, eS, at', J⟩ := laid (S := h'.objs.size) I1 ll' (kv_zip ks rv2) (by rw [hsz']; exact Nat.le_add_right _ 5) (fun c o e => hk2 c o (P 4 (Heap.lt_size e)) (P 3 (Heap.lt_size e)) (P 0 (Heap.lt_size e)) (P 1 (Heap.lt_size e)) (hk c o e)) hS hl hG hacc
  exact ⟨.ref _, H', J, rfl, q H' _ as kp n1 n2 n3 eS at'⟩
end
end Yz
set_option Elab.async false
set_option linter.all false
set_option maxRecDepth 100000
set_option maxHeartbeats 4000000
/-! Yo: sorted of a list of pairs of a text and a number. -/
namespace Yo
open PySem PyProof.Rows
section
variable {prog : Program} {w : World} {A : Around} {E : Value → Shared → Prop} {s : Shared}
/-- a text and a number stand at v -/
def TxN (h : Heap) (v : Value) : Prop := ∃ (x : Str) (y : Int) (a : Addr) (o : Obj) (t u : Tok) (n : Nat), v = .ref a ∧ h.get? a = some o ∧ o.cls = .type "tuple" ∧ o.data = .seq #[.str x t, .int y u] n
theorem cmpd {vs : List Value} (hp : ∀ v ∈ vs, TxN s.heap v) : Srt.Tot prog w A s (tuples' true) (fun p => p.1 ∈ vs) := by
  rintro p q hm hm'
  obtain ⟨x, y, a, o, t, u, n, e, ho, -, hd⟩ := hp _ hm
  obtain ⟨x', y', a', o', t', u', n', e', ho', -, hd'⟩ := hp _ hm'
  rw [e, e']
  by_cases ex : x = x'
  · by_cases ey : y = y'
    · refine ⟨false, PySem.W.kat_lt ho hd ho' hd' ?_⟩
      show PySem.W.KatLex prog w A true (decide (2 < 2)) _ [(.str x t, .str x' t'), (.int y u, .int y' u')] 0 s
      refine PySem.W.kat_cons (SeqAt.EqAt.str_str x t x' t' prog w _ _ ?_)
      rw [beq_iff_eq.mpr ex]
      refine PySem.W.kat_yes (PySem.W.kat_cons (SeqAt.EqAt.int_int y u y' u' prog w _ _ ?_))
      rw [beq_iff_eq.mpr ey]
      exact PySem.W.kat_yes (PySem.W.kat_nil ⟨rfl, rfl⟩)
    · refine ⟨decide (y < y'), PySem.W.kat_lt ho hd ho' hd' ?_⟩
      show PySem.W.KatLex prog w A true (decide (2 < 2)) _ [(.str x t, .str x' t'), (.int y u, .int y' u')] 0 s
      refine PySem.W.kat_cons (SeqAt.EqAt.str_str x t x' t' prog w _ _ ?_)
      rw [beq_iff_eq.mpr ex]
      refine PySem.W.kat_yes (PySem.W.kat_cons (SeqAt.EqAt.int_int y u y' u' prog w _ _ ?_))
      rw [beq_eq_false_iff_ne.mpr ey]
      refine PySem.W.kat_no (PySem.W.kat_one _ _ (PyProof.Rows.lt_int ?_))
      exact (show s = s ∧ decide (y < y') = decide (y < y') from ⟨rfl, rfl⟩)
  · refine ⟨decide (x.cps.toList < x'.cps.toList), PySem.W.kat_lt ho hd ho' hd' ?_⟩
    show PySem.W.KatLex prog w A true (decide (2 < 2)) _ [(.str x t, .str x' t'), (.int y u, .int y' u')] 0 s
    refine PySem.W.kat_cons (SeqAt.EqAt.str_str x t x' t' prog w _ _ ?_)
    rw [beq_eq_false_iff_ne.mpr ex]
    exact PySem.W.kat_no (oneLt_str ⟨rfl, rfl⟩)
theorem heads {h : Heap} : ∀ {vs : List Value}, (∀ v ∈ vs, TxN h v) → ∃ fs : List Value, PySem.W.KatTups h vs fs ∧ fs.length = vs.length ∧ ∀ f ∈ fs, ∃ x t, f = Value.str x t
  | [], _ => ⟨[], PySem.W.KatTups.nil, rfl, fun _ hm => by cases hm⟩
  | v :: vs, hp => by
    obtain ⟨x, y, a, o, t, u, n, rfl, ho, hc, hd⟩ := hp v List.mem_cons_self
    obtain ⟨fs, g1, g2, g3⟩ := heads (vs := vs) fun q m => hp q (List.mem_cons_of_mem _ m)
    refine ⟨.str x t :: fs, PySem.W.KatTups.cons ho hc hd rfl g1, congrArg (· + 1) g2, fun f m => ?_⟩
    rcases List.mem_cons.mp m with rfl | m
    · exact ⟨x, t, rfl⟩
    · exact g3 f m
theorem can_sort {a : Addr} {vs : List Value} (h0 : 0 < vs.length) (hp : ∀ v ∈ vs, TxN s.heap v) (ha : ∀ o, s.heap.get? a = some o → o.cls ≠ .type "tuple") : Srt.Sortable prog w A s a vs := fun h' keep => by
  have hp' : ∀ v ∈ vs, TxN h' v := fun v m => by
    obtain ⟨x, y, b, o, t, u, n, e, ho, hc, hd⟩ := hp v m
    exact ⟨x, y, b, o, t, u, n, e, keep b o (fun z => ha o (z ▸ ho) hc) ho, hc, hd⟩
  obtain ⟨fs, g1, g2, g3⟩ := heads hp'
  refine ⟨tuples' true, fun Q E hq => PySem.W.kat_kind (T := .type "str") g1 (by omega) (fun f m => ?_) (by rfl) ?_, cmpd hp'⟩
  · obtain ⟨x, t, rfl⟩ := g3 f m
    exact PySem.W.Looks.now
  · rw [show (Value.type "str" != Value.type "tuple") = true by decide +kernel]
    exact hq
theorem sorts {l : Addr} {vs : List Value} {Q : Value → Shared → Prop} (hl : s.heap.IsList l vs.toArray) (hz : vs.length ≤ sizeLine) (hp : ∀ v ∈ vs, TxN s.heap v)
    (h : ∀ (h' : Heap) (d : Addr) (out : List Value), out.Perm vs → (∀ b o, s.heap.get? b = some o → h'.get? b = some o) → s.heap.objs.size ≤ d → (∃ n, h'.get? d = some (seqObj "list" out.toArray n)) → Q (.ref d) { s with heap := h' }) :
    wpAny (model prog w) A (call (.builtin "sorted") [.ref l]) Q E s := by
  refine Srt.sorted_any hl hz (fun h2 h₁ a ha k => can_sort (s := { s with heap := h₁ }) (by omega) (fun v m => ?_) fun o e c => ?_) fun out ho => h _ _ out ho (fun b o e => sortedAll_old e) (Nat.le_succ _) (sortedAll_at s.heap vs out.toArray)
  · obtain ⟨x, y, b, o, t, u, n, e, ho, hc, hd⟩ := hp v m
    exact ⟨x, y, b, o, t, u, n, e, (k b o ho).2, hc, hd⟩
  · cases (show some o = some (seqObj "list" vs.toArray 0) from e.symm.trans ha)
    exact absurd (Value.type.inj c) (by decide)
end
open L2 PySem.Spec
section
variable {X : Cx}
/-- sorted(xs), xs a list of pairs of a text and a number: the same pairs, in some order -/
def rSortedSN (K : PySem.W.Frag) : List V → Hp → VK → Prop := fun vs H Q => ∃ a xs, vs = [V.ref a] ∧ SqL K H a xs ∧ (∀ x ∈ xs, ∃ (t : Addr) (i : Str) (j : Int), x = V.ref t ∧ H t = some (.tup [.str i, .int j])) ∧ ∀ ys p, ys.Perm xs → H p = none → Q (.ref p) (upd H p (.lst ys))
theorem cr_sortedSN : CallR X (.builtin "sorted") (rSortedSN X.K) := fun pins s σ H vs us Q I r h => by
  obtain ⟨a, xs, rfl, hs, hx, q⟩ := h
  obtain ⟨its, rv, hl, hz⟩ := I.list hs
  obtain ⟨u, rfl, ru⟩ := vals1 r
  obtain rfl : u = Value.ref a := ru
  obtain ⟨e1, e2⟩ := refs_back rv fun x m => by
    obtain ⟨t, _, _, e, _⟩ := hx x m
    exact ⟨t, e⟩
  have hz' : its.length ≤ sizeLine := by rw [← rv.length]; exact hz
  refine sorts hl.isList hz' (fun v hv => ?_) fun h' d out hp k hd ⟨n, hn⟩ => ?_
  · obtain ⟨t, rfl⟩ := e2 v hv
    obtain ⟨t', i, j, e, ht⟩ := hx (V.ref t) (by rw [e1]; exact List.mem_map.mpr ⟨_, hv, rfl⟩)
    cases e
    obtain ⟨_, its2, r2, o, ho, hc, n, hd⟩ := I.hok _ _ ht
    obtain ⟨u1, u2, rfl, ⟨t1, rfl⟩, ⟨t2, rfl⟩⟩ := vals2 r2
    exact ⟨i, j, t, o, t1, t2, n, rfl, ho, hc, hd⟩
  · refine ⟨.ref d, upd H d (.lst (out.map backV)), I.laid (t' := s.toks) k hd ⟨?_, out, n, vals_back fun u m => e2 u (hp.mem_iff.mp m), hn⟩, rfl, q _ d ?_ (I.hok.fresh hd)⟩
    · rw [List.length_map, hp.length_eq]
      exact hz'
    · rw [e1]
      exact hp.map backV
end
end Yo
set_option Elab.async false
set_option linter.all false
set_option maxRecDepth 100000
set_option maxHeartbeats 4000000
/-! k19: the text, the draws. -/
namespace K19
open PySem PySem.Spec PyProof.Rows L2 Zg Zr Zd Zv
/-! ### the orders of keywords -/
def pm0 {α : Type} (l : List α) : List α := l
theorem pm0_rel {zs : List V} {ws : List Value} (r : Vals zs ws) : Vals (pm0 zs) (pm0 ws) := r
def pm210 {α : Type} : List α → List α
  | [a, b, c] => [c, b, a]
  | l => l
theorem pm210_rel {zs : List V} {ws : List Value} (r : Vals zs ws) : Vals (pm210 zs) (pm210 ws) := by
  match zs, ws, r with
  | _, _, .nil => exact .nil
  | _, _, .cons a .nil => exact .cons a .nil
  | _, _, .cons a (.cons b .nil) => exact .cons a (.cons b .nil)
  | _, _, .cons a (.cons b (.cons c .nil)) => exact .cons c (.cons b (.cons a .nil))
  | _, _, .cons a (.cons b (.cons c (.cons d r))) => exact .cons a (.cons b (.cons c (.cons d r)))
/-! ### the text -/
def topS (i : Nat) : Stmt := PySem.Challenge.pw_plugcaller_k19_passed.main.body.getD i (.Pass ⟨0, 0, 0, 0⟩)
abbrev s_call_of : Stmt := topS 1
abbrev N_call_of : List PySem.Str := ["function", "tasks"]
abbrev P_call_of : List PySem.Str := ["function", "tasks"]
theorem sc_call_of : FnScope N_call_of P_call_of (defScope s_call_of) := ⟨rfl, rfl, rfl, by decide +kernel, rfl, by decide +kernel, by decide +kernel⟩
abbrev s_named_with : Stmt := topS 2
abbrev N_named_with : List PySem.Str := ["term", "given", "going", "word", "name", "functions", "tasks", "one"]
abbrev P_named_with : List PySem.Str := ["term", "given", "going"]
theorem sc_named_with : FnScope N_named_with P_named_with (defScope s_named_with) := ⟨rfl, rfl, rfl, by decide +kernel, rfl, by decide +kernel, by decide +kernel⟩
abbrev s_term_with : Stmt := topS 3
abbrev N_term_with : List PySem.Str := ["term", "given", "going", "one"]
abbrev P_term_with : List PySem.Str := ["term", "given", "going"]
theorem sc_term_with : FnScope N_term_with P_term_with (defScope s_term_with) := ⟨rfl, rfl, rfl, by decide +kernel, rfl, by decide +kernel, by decide +kernel⟩
abbrev s_passed : Stmt := topS 4
abbrev N_passed : List PySem.Str := ["definition", "functions", "tasks", "named", "ways_out", "body", "given", "name", "arity", "function", "going", "task"]
abbrev P_passed : List PySem.Str := ["definition", "functions", "tasks"]
theorem sc_passed : FnScope N_passed P_passed (defScope s_passed) := ⟨rfl, rfl, rfl, by decide +kernel, rfl, by decide +kernel, by decide +kernel⟩
abbrev s_deck : Stmt := topS 6
abbrev N_deck : List PySem.Str := ["script", "cells", "mixed", "cell"]
abbrev P_deck : List PySem.Str := ["script"]
theorem sc_deck : FnScope N_deck P_deck (defScope s_deck) := ⟨rfl, rfl, rfl, by decide +kernel, rfl, by decide +kernel, by decide +kernel⟩
abbrev s_draw : Stmt := topS 7
abbrev N_draw : List PySem.Str := ["deck", "many", "turn", "cell", "mixed"]
abbrev P_draw : List PySem.Str := ["deck", "many"]
theorem sc_draw : FnScope N_draw P_draw (defScope s_draw) := ⟨rfl, rfl, rfl, by decide +kernel, rfl, by decide +kernel, by decide +kernel⟩
abbrev s_pick : Stmt := topS 8
abbrev N_pick : List PySem.Str := ["deck", "some"]
abbrev P_pick : List PySem.Str := ["deck", "some"]
theorem sc_pick : FnScope N_pick P_pick (defScope s_pick) := ⟨rfl, rfl, rfl, by decide +kernel, rfl, by decide +kernel, by decide +kernel⟩
abbrev s_some : Stmt := topS 9
abbrev N_some : List PySem.Str := ["deck", "some", "one_in", "one"]
abbrev P_some : List PySem.Str := ["deck", "some", "one_in"]
theorem sc_some : FnScope N_some P_some (defScope s_some) := ⟨rfl, rfl, rfl, by decide +kernel, rfl, by decide +kernel, by decide +kernel⟩
abbrev s_shop : Stmt := topS 10
abbrev N_shop : List PySem.Str := ["deck", "sizes", "words", "size", "first", "shop", "k", "word", "some", "q"]
abbrev P_shop : List PySem.Str := ["deck", "sizes"]
theorem sc_shop : FnScope N_shop P_shop (defScope s_shop) := ⟨rfl, rfl, rfl, by decide +kernel, rfl, by decide +kernel, by decide +kernel⟩
abbrev s_leads : Stmt := topS 11
abbrev N_leads : List PySem.Str := ["shop", "found", "q"]
abbrev P_leads : List PySem.Str := ["shop"]
theorem sc_leads : FnScope N_leads P_leads (defScope s_leads) := ⟨rfl, rfl, rfl, by decide +kernel, rfl, by decide +kernel, by decide +kernel⟩
abbrev s_from : Stmt := topS 12
abbrev N_from : List PySem.Str := ["shop", "begin", "found", "turn", "moves", "q"]
abbrev P_from : List PySem.Str := ["shop", "begin"]
theorem sc_from : FnScope N_from P_from (defScope s_from) := ⟨rfl, rfl, rfl, by decide +kernel, rfl, by decide +kernel, by decide +kernel⟩
abbrev s_plan : Stmt := topS 13
abbrev N_plan : List PySem.Str := ["deck", "shop", "pairs", "q", "plan", "words", "first", "room", "k", "size", "name"]
abbrev P_plan : List PySem.Str := ["deck"]
theorem sc_plan : FnScope N_plan P_plan (defScope s_plan) := ⟨rfl, rfl, rfl, by decide +kernel, rfl, by decide +kernel, by decide +kernel⟩
abbrev s_parameters : Stmt := topS 14
abbrev N_parameters : List PySem.Str := ["deck", "room", "pairs", "found", "k", "size"]
abbrev P_parameters : List PySem.Str := ["deck", "room", "pairs"]
theorem sc_parameters : FnScope N_parameters P_parameters (defScope s_parameters) := ⟨rfl, rfl, rfl, by decide +kernel, rfl, by decide +kernel, by decide +kernel⟩
abbrev s_leaf : Stmt := topS 15
abbrev N_leaf : List PySem.Str := ["deck", "own", "name"]
abbrev P_leaf : List PySem.Str := ["deck", "own"]
theorem sc_leaf : FnScope N_leaf P_leaf (defScope s_leaf) := ⟨rfl, rfl, rfl, by decide +kernel, rfl, by decide +kernel, by decide +kernel⟩
abbrev s_task : Stmt := topS 16
abbrev N_task : List PySem.Str := ["deck", "plan", "own", "deep", "way", "states", "k", "given", "name", "many", "takes", "ends", "some", "one", "size"]
abbrev P_task : List PySem.Str := ["deck", "plan", "own", "deep"]
theorem sc_task : FnScope N_task P_task (defScope s_task) := ⟨rfl, rfl, rfl, by decide +kernel, rfl, by decide +kernel, by decide +kernel⟩
abbrev s_function : Stmt := topS 17
abbrev N_function : List PySem.Str := ["deck", "plan", "own", "size", "deep", "some", "k", "name", "many", "names", "takes", "ends", "one"]
abbrev P_function : List PySem.Str := ["deck", "plan", "own", "size", "deep"]
theorem sc_function : FnScope N_function P_function (defScope s_function) := ⟨rfl, rfl, rfl, by decide +kernel, rfl, by decide +kernel, by decide +kernel⟩
abbrev s_closed : Stmt := topS 18
abbrev N_closed : List PySem.Str := ["deck", "plan"]
abbrev P_closed : List PySem.Str := ["deck", "plan"]
theorem sc_closed : FnScope N_closed P_closed (defScope s_closed) := ⟨rfl, rfl, rfl, by decide +kernel, rfl, by decide +kernel, by decide +kernel⟩
abbrev s_is_term : Stmt := topS 19
abbrev N_is_term : List PySem.Str := ["thing"]
abbrev P_is_term : List PySem.Str := ["thing"]
theorem sc_is_term : FnScope N_is_term P_is_term (defScope s_is_term) := ⟨rfl, rfl, rfl, by decide +kernel, rfl, by decide +kernel, by decide +kernel⟩
abbrev s_put : Stmt := topS 20
abbrev N_put : List PySem.Str := ["term", "given", "going", "one", "takes", "ends", "into"]
abbrev P_put : List PySem.Str := ["term", "given", "going"]
theorem sc_put : FnScope N_put P_put (defScope s_put) := ⟨rfl, rfl, rfl, by decide +kernel, rfl, by decide +kernel, by decide +kernel⟩
abbrev s_body : Stmt := topS 21
abbrev N_body : List PySem.Str := ["made", "takes", "ends", "given", "pair", "one"]
abbrev P_body : List PySem.Str := ["made", "takes", "ends"]
theorem sc_body : FnScope N_body P_body (defScope s_body) := ⟨rfl, rfl, rfl, by decide +kernel, rfl, by decide +kernel, by decide +kernel⟩
abbrev s_given : Stmt := topS 22
abbrev N_given : List PySem.Str := ["deck", "plan", "made", "takes", "ends", "name", "size"]
abbrev P_given : List PySem.Str := ["deck", "plan", "made"]
theorem sc_given : FnScope N_given P_given (defScope s_given) := ⟨rfl, rfl, rfl, by decide +kernel, rfl, by decide +kernel, by decide +kernel⟩
abbrev s_right : Stmt := topS 23
abbrev N_right : List PySem.Str := ["made", "takes", "ends", "kept", "due", "told"]
abbrev P_right : List PySem.Str := ["made", "takes", "ends"]
theorem sc_right : FnScope N_right P_right (defScope s_right) := ⟨rfl, rfl, rfl, by decide +kernel, rfl, by decide +kernel, by decide +kernel⟩
abbrev s_by_hand : Stmt := topS 24
abbrev N_by_hand : List PySem.Str := ["deck", "some", "first", "a", "b", "c", "x", "y", "e", "k", "stop", "gone", "found", "call", "two", "filled", "on", "deep", "due", "own"]
abbrev P_by_hand : List PySem.Str := ["deck"]
theorem sc_by_hand : FnScope N_by_hand P_by_hand (defScope s_by_hand) := ⟨rfl, rfl, rfl, by decide +kernel, rfl, by decide +kernel, by decide +kernel⟩
abbrev s_law : Stmt := topS 25
abbrev N_law : List PySem.Str := ["script", "deck", "maker", "takes", "ends", "due", "turn", "plan", "name", "again", "more", "one", "other"]
abbrev P_law : List PySem.Str := ["script"]
theorem sc_law : FnScope N_law P_law (defScope s_law) := ⟨rfl, rfl, rfl, by decide +kernel, rfl, by decide +kernel, by decide +kernel⟩
structure Txt (K : PySem.W.Frag) (mg : PySem.Str → Option Value) : Type where
  a_call_of : Addr
  d_call_of : FuncData
  F_call_of : Fun K "call_of" "call_of" s_call_of a_call_of d_call_of
  g_call_of : mg "call_of" = some (.ref a_call_of)
  b_call_of : Binds K d_call_of P_call_of []
  a_named_with : Addr
  d_named_with : FuncData
  F_named_with : Fun K "named_with" "named_with" s_named_with a_named_with d_named_with
  g_named_with : mg "named_with" = some (.ref a_named_with)
  b_named_with : Binds K d_named_with P_named_with []
  a_term_with : Addr
  d_term_with : FuncData
  F_term_with : Fun K "term_with" "term_with" s_term_with a_term_with d_term_with
  g_term_with : mg "term_with" = some (.ref a_term_with)
  b_term_with : Binds K d_term_with P_term_with []
  a_passed : Addr
  d_passed : FuncData
  F_passed : Fun K "passed" "passed" s_passed a_passed d_passed
  g_passed : mg "passed" = some (.ref a_passed)
  b_passed : Binds K d_passed P_passed []
  a_deck : Addr
  d_deck : FuncData
  F_deck : Fun K "_law_deck" "_law_deck" s_deck a_deck d_deck
  g_deck : mg "_law_deck" = some (.ref a_deck)
  b_deck : Binds K d_deck P_deck []
  a_draw : Addr
  d_draw : FuncData
  F_draw : Fun K "_law_draw" "_law_draw" s_draw a_draw d_draw
  g_draw : mg "_law_draw" = some (.ref a_draw)
  b_draw : Binds K d_draw P_draw []
  a_pick : Addr
  d_pick : FuncData
  F_pick : Fun K "_law_pick" "_law_pick" s_pick a_pick d_pick
  g_pick : mg "_law_pick" = some (.ref a_pick)
  b_pick : Binds K d_pick P_pick []
  a_some : Addr
  d_some : FuncData
  F_some : Fun K "_law_some" "_law_some" s_some a_some d_some
  g_some : mg "_law_some" = some (.ref a_some)
  b_some : Binds K d_some P_some []
  a_shop : Addr
  d_shop : FuncData
  F_shop : Fun K "_law_shop" "_law_shop" s_shop a_shop d_shop
  g_shop : mg "_law_shop" = some (.ref a_shop)
  b_shop : Binds K d_shop P_shop []
  a_leads : Addr
  d_leads : FuncData
  F_leads : Fun K "_law_leads" "_law_leads" s_leads a_leads d_leads
  g_leads : mg "_law_leads" = some (.ref a_leads)
  b_leads : Binds K d_leads P_leads []
  a_from : Addr
  d_from : FuncData
  F_from : Fun K "_law_from" "_law_from" s_from a_from d_from
  g_from : mg "_law_from" = some (.ref a_from)
  b_from : Binds K d_from P_from []
  a_plan : Addr
  d_plan : FuncData
  F_plan : Fun K "_law_plan" "_law_plan" s_plan a_plan d_plan
  g_plan : mg "_law_plan" = some (.ref a_plan)
  b_plan : Binds K d_plan P_plan []
  a_parameters : Addr
  d_parameters : FuncData
  F_parameters : Fun K "_law_parameters" "_law_parameters" s_parameters a_parameters d_parameters
  g_parameters : mg "_law_parameters" = some (.ref a_parameters)
  b_parameters : Binds K d_parameters P_parameters []
  a_leaf : Addr
  d_leaf : FuncData
  F_leaf : Fun K "_law_leaf" "_law_leaf" s_leaf a_leaf d_leaf
  g_leaf : mg "_law_leaf" = some (.ref a_leaf)
  b_leaf : Binds K d_leaf P_leaf []
  a_task : Addr
  d_task : FuncData
  F_task : Fun K "_law_task" "_law_task" s_task a_task d_task
  g_task : mg "_law_task" = some (.ref a_task)
  b_task : Binds K d_task P_task []
  a_function : Addr
  d_function : FuncData
  F_function : Fun K "_law_function" "_law_function" s_function a_function d_function
  g_function : mg "_law_function" = some (.ref a_function)
  b_function : Binds K d_function P_function []
  a_is_term : Addr
  d_is_term : FuncData
  F_is_term : Fun K "_law_is_term" "_law_is_term" s_is_term a_is_term d_is_term
  g_is_term : mg "_law_is_term" = some (.ref a_is_term)
  b_is_term : Binds K d_is_term P_is_term []
  a_put : Addr
  d_put : FuncData
  F_put : Fun K "_law_put" "_law_put" s_put a_put d_put
  g_put : mg "_law_put" = some (.ref a_put)
  b_put : Binds K d_put P_put []
  a_body : Addr
  d_body : FuncData
  F_body : Fun K "_law_body" "_law_body" s_body a_body d_body
  g_body : mg "_law_body" = some (.ref a_body)
  b_body : Binds K d_body P_body []
  a_given : Addr
  d_given : FuncData
  F_given : Fun K "_law_given" "_law_given" s_given a_given d_given
  g_given : mg "_law_given" = some (.ref a_given)
  b_given : Binds K d_given P_given []
  a_right : Addr
  d_right : FuncData
  F_right : Fun K "_law_right" "_law_right" s_right a_right d_right
  g_right : mg "_law_right" = some (.ref a_right)
  b_right : Binds K d_right P_right []
  a_by_hand : Addr
  d_by_hand : FuncData
  F_by_hand : Fun K "_law_by_hand" "_law_by_hand" s_by_hand a_by_hand d_by_hand
  g_by_hand : mg "_law_by_hand" = some (.ref a_by_hand)
  b_by_hand : Binds K d_by_hand P_by_hand []
  a_law : Addr
  d_law : FuncData
  F_law : Fun K "law" "law" s_law a_law d_law
  g_law : mg "law" = some (.ref a_law)
  b_law : Binds K d_law P_law []
  kb_passed_tasks_functions_definition : KB0 K d_passed P_passed ["tasks", "functions", "definition"] pm210 pm210
  n_dict : mg "dict" = none
  n_int : mg "int" = none
  n_isinstance : mg "isinstance" = none
  n_len : mg "len" = none
  n_list : mg "list" = none
  n_range : mg "range" = none
  n_repr : mg "repr" = none
  n_sorted : mg "sorted" = none
  n_str : mg "str" = none
  n_sum : mg "sum" = none
  n_tuple : mg "tuple" = none
  n_zip : mg "zip" = none
/-! ### the well -/
/-- a dict of the well -/
def WK (l : Addr) (b c : Int) : List (Key × V) := [(.inr "cells", .ref l), (.inr "mixed", .int b), (.inr "turn", .int c)]
theorem wk_cells (l : Addr) (b c : Int) : valV (WK l b c) (.inr "cells") = some (.ref l) := by rfl
theorem wk_mixed (l : Addr) (b c : Int) : valV (WK l b c) (.inr "mixed") = some (.int b) := by rfl
theorem wk_turn (l : Addr) (b c : Int) : valV (WK l b c) (.inr "turn") = some (.int c) := by rfl
theorem wk_put (l : Addr) (b c d : Int) : putK (WK l b c) (.inr "turn") (.int d) = WK l b d := by rfl
/-- a well stands at w, its numbers in the list at l; so many draws at most were made -/
def Well (H : Hp) (w l : Addr) (C : Nat) : Prop := w ≠ l ∧ ∃ (b c : Int) (ns : List Int), H w = some (.dK (WK l b c)) ∧ H l = some (.lst (ns.map V.int)) ∧ 0 ≤ b ∧ b < 2147483587 ∧ 0 ≤ c ∧ c ≤ (C : Int) ∧ ns.length ≤ 63
theorem Well.mono {H : Hp} {w l : Addr} {C C' : Nat} (h : Well H w l C) (q : C ≤ C') : Well H w l C' := by
  obtain ⟨n, b, c, ns, h1, h2, h3, h4, h5, h6, h7⟩ := h
  exact ⟨n, b, c, ns, h1, h2, h3, h4, h5, by omega, h7⟩
theorem Well.same {H H' : Hp} {w l : Addr} {C : Nat} (h : Well H w l C) (k : Same H H') : Well H' w l C := by
  obtain ⟨n, b, c, ns, h1, h2, r⟩ := h
  exact ⟨n, b, c, ns, k _ _ h1, k _ _ h2, r⟩
abbrev LIM : Nat := 1000000000
section
variable {P : Program} {w : World} {K : PySem.W.Frag} {mg : PySem.Str → Option Value} {base : Heap}
def sp_deck (K : PySem.W.Frag) : Sp := fun vs H Q _ => ∃ (a : Addr) (ns : List Int), vs = [.ref a] ∧ SqL K H a (ns.map V.int) ∧ ns.length ≤ 63 ∧
  ∀ (H' : Hp) (w l : Addr), Same H H' → H w = none → H l = none → Well H' w l 0 → Q (.ref w) H'
def sp_draw : Sp := fun vs H Q _ => ∃ (w l : Addr) (m : Int) (C : Nat), vs = [.ref w, .int m] ∧ Well H w l C ∧ C < LIM ∧ 0 < m ∧ m < 1073741824 ∧
  ∀ (H' : Hp) (r : Int), Kp [w, l] H H' → Well H' w l (C + 1) → 0 ≤ r → r < m → Q (.int r) H'
theorem cut63 {ns : List Int} (h : ns.length ≤ 63) : cutV (ns.map V.int) none (some 63) = ns.map V.int := by
  unfold cutV
  rw [HT.sIx_none, show HT.sIx (ns.map V.int).length (ns.map V.int).length (some 63) = min 63 (ns.map V.int).length from HT.sIx_nat _ _ 63, List.length_map]
  rw [show min 63 ns.length = ns.length by omega]
  show List.take (ns.length - 0) (ns.map V.int) = _
  exact List.take_of_length_le (by rw [List.length_map]; omega)
theorem mod_in {a m : Int} (h : 0 < m) : 0 ≤ a % m ∧ a % m < m := ⟨Int.emod_nonneg _ (by omega), Int.emod_lt_of_pos _ h⟩
theorem cmul_mod {x m j : Int} (h : 0 < m) (h2 : m ≤ 2 ^ 64) : CMul (x % m) j := .inl ⟨by have := (mod_in (a := x) h).1; omega, by have := (mod_in (a := x) h).2; omega⟩
theorem ok_deck (T : Txt K mg) : FnOk P w K mg base CX0 1 T.a_deck T.d_deck P_deck (sp_deck K) := by
  refine T.F_deck.ok sc_deck (fun vs H Q E h => by obtain ⟨a, ns, rfl, _⟩ := h; rfl) (fun cdv A outer s H vs Q E hr h => ?_)
  refine ⟨_, (pss_cons (ps_par (i := 1) (j := 2) (by rfl) sc_deck.nd rfl rfl (by decide) rfl rfl (pa_cons (pe_callTy call_list_of (by rfl) T.n_list (by decide +kernel) (pa_cons (pe_slice sl_list (pv 0) po_none (po_some pe_int)) pa_nil)) (pa_cons pe_int pa_nil)) (by rfl))
    (pss_cons (ps_for PassesOwn.never rfl (pi_list (pv 1)) (pg_name (i := 3) sc_deck.nd rfl (Or.inl rfl)) (pss_one (ps_set (i := 2) sc_deck.nd rfl (Or.inl rfl) (pe_op op_mod (pe_callTy call_int1 (by rfl) T.n_int (by decide +kernel) (pa_cons (pe_op op_add (pe_op op_add (pe_op op_mul (pv 2) pe_int) (pe_op op_mod (pe_callTy call_int1 (by rfl) T.n_int (by decide +kernel) (pa_cons (pv 3) pa_nil)) pe_int)) pe_int) pa_nil)) pe_int))))
    (pss_one (ps_ret (pe_disp (pps_cons pe_str (pe_revL (pv 1)) (pps_cons pe_str (pv 2) (pps_cons pe_str pe_int pps_nil))) (by rfl) (by rfl) (fun z => by cases z) (by decide)))))), ?_⟩
  obtain ⟨a, ns, rfl, hS, hl, q⟩ := h
  refine ⟨_, rfl, 63, rfl, a, ns.map V.int, rfl, hS, fun p hp => ?_⟩
  rw [cut63 hl]
  refine ⟨p, _, rfl, .inl (SqL.of upd_same), fun l hl2 => ?_⟩
  refine ⟨_, _, rfl, ?_⟩
  have pl : l ≠ p := fun e => by
    rw [e, upd_same] at hl2
    cases hl2
  have hl0 : H l = none := by rw [upd_ne pl] at hl2; exact hl2
  have s1 : Same H (upd (upd H p (.lst (ns.map V.int))) l (.lst (ns.map V.int))) := fun b o e => by
    rw [upd_ne (ne_of_none e hl0), upd_ne (ne_of_none e hp)]
    exact e
  generalize hH : upd (upd H p (.lst (ns.map V.int))) l (.lst (ns.map V.int)) = H2 at s1 ⊢
  have hL : H2 l = some (.lst (ns.map V.int)) := by rw [← hH]; exact upd_same
  refine ⟨_, rfl, l, rfl, ⟨_, SqL.of hL⟩, for_list (K := K) (a := l) (xs := ns.map V.int) (fun i σ H' => ∃ (b : Int) (y : Option V), σ = [some (.ref a), some (.ref l), some (.int b), y] ∧ H' = H2 ∧ 0 ≤ b ∧ b < 2147483587)
    ⟨19031, none, rfl, rfl, by decide, by decide⟩ (fun i σ H' _ ⟨_, _, _, e, _⟩ => by rw [e]; exact SqL.of hL) ?_ ?_⟩
  · rintro i x σ H' hi ⟨b, y, rfl, rfl, hb0, hb1⟩
    obtain ⟨z, rfl⟩ : ∃ z, x = V.int z := by
      rw [List.getElem?_map] at hi
      cases e : ns[i]? with
      | none => rw [e] at hi; cases hi
      | some z => rw [e] at hi; exact ⟨z, (Option.some.inj hi).symm⟩
    refine ⟨_, rfl, _, _, rfl, rfl, .inr ⟨by decide, by decide⟩, _, rfl, .inl ⟨_, rfl, _, _, rfl, rfl, (by decide : (0 : Int) < 2147483629), _, _, rfl, rfl, _, _, rfl, rfl, .inl ⟨_, rfl, _, _, rfl, rfl, (by decide : (0 : Int) < 2147483587), ?_⟩⟩⟩
    exact ⟨_, _, rfl, rfl, (mod_in (by decide)).1, (mod_in (by decide)).2⟩
  · rintro σ H' ⟨b, y, rfl, rfl, hb0, hb1⟩
    refine fun d hd => ?_
    have dl : d ≠ l := fun e => by
      rw [e, hL] at hd
      cases hd
    refine ⟨_, rfl, l, ns.map V.int, rfl, SqL.of (by rw [upd_ne dl.symm]; exact hL), fun r hr2 => ?_⟩
    have rd : r ≠ d := fun e => by
      rw [e, upd_same] at hr2
      cases hr2
    have hr0 : H' r = none := by rw [upd_ne rd] at hr2; exact hr2
    refine ⟨_, rfl, ?_⟩
    refine ⟨by rw [upd_ne rd.symm]; exact upd_same, WK r b 0, rfl, (by show 3 ≤ 15; decide), ?_⟩
    refine q _ d r (fun x o e => ?_) (s1.free hd) (s1.free hr0) ⟨rd.symm, b, 0, ns.reverse, ?_, ?_, hb0, hb1, by decide, by decide, by rw [List.length_reverse]; exact hl⟩
    · have e2 := s1 x o e
      rw [upd_ne (ne_of_none e2 hd), upd_ne (ne_of_none e2 hr0), upd_ne (ne_of_none e2 hd)]
      exact e2
    · exact upd_same
    · rw [upd_ne rd, upd_same, List.map_reverse]

theorem ok_draw (T : Txt K mg) : FnOk P w K mg base CX0 1 T.a_draw T.d_draw P_draw sp_draw := by
  refine T.F_draw.ok sc_draw (fun vs H Q E h => by obtain ⟨w, l, m, C, rfl, _⟩ := h; rfl) (fun cdv A outer s H vs Q E hr h => ?_)
  refine ⟨_, (pss_cons (ps_par (i := 2) (j := 3) (by rfl) sc_draw.nd rfl rfl (by decide) rfl rfl (pa_cons (pe_op op_add (pe_dget (hu_of hr) (pv 0) pe_str (fun _ _ => rfl)) pe_int) (pa_cons (pe_dget (hu_of hr) (pv 0) pe_str (fun _ _ => rfl)) pa_nil)) (by rfl))
    (pss_cons (ps_dput (hu_of hr) (pv 0) pe_str (pv 2) rfl)
    (pss_cons (ps_if (pt_cmpR (op_neD hr.units) (pe_dget (hu_of hr) (pv 0) pe_str (fun _ _ => rfl)) (pe_lst pa_nil) (nomark _)) (pss_cons (ps_set (i := 3) sc_draw.nd rfl (Or.inl rfl) (pe_bm0 PySem.F.plainAttrs_list PySem.F.slot_list_pop PySem.F.type_list_pop mt_pop (pe_dget (hu_of hr) (pv 0) pe_str (fun _ _ => rfl))))
    (pss_cons (ps_if (pt_cmpR op_ge (pv 3) (pe_op op_pow pe_int pe_int) (nomark _)) (pss_cons (ps_expr (pe_bm PySem.F.plainAttrs_list PySem.F.slot_list_append PySem.F.type_list_append mt_append (pe_dget (hu_of hr) (pv 0) pe_str (fun _ _ => rfl)) (pa_cons (pe_op op_fdiv (pv 3) (pv 1)) pa_nil)))
    (pss_one (ps_ret (pe_op op_mod (pe_callTy call_int1 (by rfl) T.n_int (by decide +kernel) (pa_cons (pv 3) pa_nil)) (pv 1))))) pss_nil)
    (pss_one (ps_set (i := 3) sc_draw.nd rfl (Or.inl rfl) (pe_op op_add (pv 3) (pe_dget (hu_of hr) (pv 0) pe_str (fun _ _ => rfl))))))) pss_nil)
    (pss_cons (ps_set (i := 4) sc_draw.nd rfl (Or.inl rfl) (pe_op op_mod (pe_callTy call_int1 (by rfl) T.n_int (by decide +kernel) (pa_cons (pe_op op_mul (pe_op op_add (pe_op op_add (pe_op op_mod (pe_callTy call_int1 (by rfl) T.n_int (by decide +kernel) (pa_cons (pv 3) pa_nil)) pe_int) (pe_op op_mul (pe_op op_mul pe_int (pv 2)) (pv 2))) pe_int) pe_int) pa_nil)) pe_int))
    (pss_cons (ps_set (i := 4) sc_draw.nd rfl (Or.inl rfl) (pe_op op_mod (pe_callTy call_int1 (by rfl) T.n_int (by decide +kernel) (pa_cons (pe_op op_add (pe_op op_add (pe_op op_mul (pv 4) (pv 4)) (pe_op op_mul pe_int (pv 2))) pe_int) pa_nil)) pe_int))
    (pss_one (ps_ret (pe_op op_mod (pe_op op_fdiv (pe_op op_mod (pe_callTy call_int1 (by rfl) T.n_int (by decide +kernel) (pa_cons (pe_op op_mul (pv 4) pe_int) pa_nil)) pe_int) pe_int) (pv 1))))))))), ?_⟩
  obtain ⟨w, l, m, C, rfl, ⟨wl, b, c, ns, hw, hl, b0, b1, c0, c1, n63⟩, hC, m0, m1, q⟩ := h
  refine ⟨_, rfl, w, _, rfl, DGet.k (k := .inr "turn") hw, _, _, rfl, rfl, _, rfl, w, _, rfl, DGet.k (k := .inr "mixed") hw, _, _, rfl, ?_⟩
  refine ⟨_, rfl, _, rfl, w, _, rfl, DPut.k (k := .inr "turn") hw (by show 3 < sizeLine; decide), ?_⟩
  -- the heap with one draw more
  have k1 : Kp [w, l] H (upd H w (.dK (putK (WK l b c) (.inr "turn") (.int (c + 1))))) := (Kp.refl _ H).wr (.inl List.mem_cons_self)
  have hw1 : (upd H w (.dK (putK (WK l b c) (.inr "turn") (.int (c + 1))))) w = some (.dK (WK l b (c + 1))) := upd_same
  have hl1 : (upd H w (.dK (putK (WK l b c) (.inr "turn") (.int (c + 1))))) l = some (.lst (ns.map V.int)) := by rw [upd_ne wl.symm]; exact hl
  generalize upd H w (.dK (putK (WK l b c) (.inr "turn") (.int (c + 1)))) = H1 at k1 hw1 hl1 ⊢
  have hC' : (C : Int) < 1000000000 := Int.ofNat_lt.mpr hC
  refine ⟨_, rfl, w, _, rfl, DGet.k (k := .inr "cells") hw1, Nat.zero_le _, fun p hp => ?_⟩
  have pw : p ≠ w := fun e => by
    rw [e, hw1] at hp
    cases hp
  have pl : p ≠ l := fun e => by
    rw [e, hl1] at hp
    cases hp
  have k2 : Kp [w, l] H (upd H1 p (.lst [])) := k1.trans (Kp.new hp)
  have hw2 : (upd H1 p (.lst [])) w = some (.dK (WK l b (c + 1))) := by rw [upd_ne pw.symm]; exact hw1
  have hl2 : (upd H1 p (.lst [])) l = some (.lst (ns.map V.int)) := by rw [upd_ne pl.symm]; exact hl1
  refine ⟨.list (ns.map .int), .list [], .lst (SqL.of hl2) (dp_ints ns), .lst (SqL.of upd_same) .nil, shaped_ints ns, rfl, _, rfl, ?_⟩
  generalize upd H1 p (.lst []) = H2 at k2 hw2 hl2 ⊢
  rw [eqv_empty]
  have hW2 : ∀ ns' : List Int, ns'.length ≤ 63 → ∀ H3 : Hp, H3 w = some (.dK (WK l b (c + 1))) → H3 l = some (.lst (ns'.map V.int)) → Well H3 w l (C + 1) := fun ns' h63 H3 e1 e2 =>
    ⟨wl, b, c + 1, ns', e1, e2, b0, b1, by omega, by omega, h63⟩
  cases ns with
  | nil =>
    refine iteF ?_
    refine ⟨_, rfl, .inl ⟨_, rfl, _, _, rfl, rfl, (by decide : (0 : Int) < 2147483629), _, rfl, _, _, rfl, rfl, .inl ⟨by decide, by decide⟩, _, rfl, _, _, rfl, rfl, .inr ⟨by omega, by omega⟩, _, _, rfl, rfl, _, _, rfl, rfl, _, _, rfl, rfl, .inr ⟨by decide, by decide⟩, .inl ⟨_, rfl, _, _, rfl, rfl, (by decide : (0 : Int) < 2147483647), ?_⟩⟩⟩
    refine ⟨_, rfl, _, rfl, _, _, rfl, rfl, cmul_mod (by decide) (by decide), _, rfl, _, _, rfl, rfl, .inl ⟨by decide, by decide⟩, _, _, rfl, rfl, _, _, rfl, rfl, .inl ⟨_, rfl, _, _, rfl, rfl, (by decide : (0 : Int) < 2147483587), ?_⟩⟩
    refine ⟨_, rfl, _, _, rfl, rfl, cmul_mod (by decide) (by decide), .inl ⟨_, rfl, _, _, rfl, rfl, (by decide : (0 : Int) < 2147483563), _, _, rfl, rfl, ⟨by decide, by decide⟩, _, rfl, _, _, rfl, rfl, m0, ?_⟩⟩
    exact q _ _ k2 (hW2 [] (by decide) _ hw2 hl2) (mod_in m0).1 (mod_in m0).2
  | cons z r =>
    refine iteT ?_
    have hlast : ((z :: r).map V.int)[((z :: r).map V.int).length - 1]? = some (V.int ((z :: r).getLast (List.cons_ne_nil z r))) := by
      rw [List.length_map, List.getElem?_map, ← List.getLast?_eq_getElem?, List.getLast?_eq_getLast (List.cons_ne_nil z r)]
      rfl
    have hdrop : ((z :: r).map V.int).dropLast = (z :: r).dropLast.map V.int := by rw [List.map_dropLast]
    have hlen : ((z :: r).dropLast).length ≤ 62 := by
      rw [List.length_dropLast]
      omega
    refine ⟨_, rfl, w, _, rfl, DGet.k (k := .inr "cells") hw2, .inl ⟨rfl, _, SqL.of hl2⟩, l, _, _, rfl, rfl, hl2, hlast, ?_⟩
    generalize (z :: r).getLast (List.cons_ne_nil z r) = number
    rw [hdrop]
    generalize (z :: r).dropLast = more at hlen
    have hw3 : (upd H2 l (.lst (more.map V.int))) w = some (.dK (WK l b (c + 1))) := by rw [upd_ne wl]; exact hw2
    have hl3 : (upd H2 l (.lst (more.map V.int))) l = some (.lst (more.map V.int)) := upd_same
    have k3 : Kp [w, l] H (upd H2 l (.lst (more.map V.int))) := k2.wr (.inl (List.mem_cons_of_mem _ List.mem_cons_self))
    generalize upd H2 l (.lst (more.map V.int)) = H3 at k3 hw3 hl3 ⊢
    refine ⟨_, rfl, _, _, rfl, rfl, ⟨by decide, by decide, by decide⟩, _, _, rfl, rfl, _, rfl, ite2 (fun e => ?_) (fun e => ?_)⟩
    · refine ⟨_, rfl, w, _, rfl, DGet.k (k := .inr "cells") hw3, .inl ⟨rfl, _, SqL.of hl3⟩, _, rfl, _, rfl, _, _, rfl, rfl, ⟨m0, m1⟩, l, _, _, rfl, rfl, hl3, by rw [List.length_map, sizeLine_eq]; omega, ?_⟩
      refine ⟨_, rfl, .inl ⟨_, rfl, _, rfl, _, _, rfl, rfl, m0, ?_⟩⟩
      refine q _ _ (k3.wr (.inl (List.mem_cons_of_mem _ List.mem_cons_self))) (hW2 (more ++ [number / m]) (by rw [List.length_append, List.length_singleton]; omega) _ (by rw [upd_ne wl]; exact hw3) (by rw [upd_same, List.map_append]; rfl)) (mod_in m0).1 (mod_in m0).2
    · refine ⟨_, rfl, _, rfl, w, _, rfl, DGet.k (k := .inr "mixed") hw3, _, _, rfl, rfl, ?_⟩
      refine ⟨_, rfl, .inl ⟨_, rfl, _, _, rfl, rfl, (by decide : (0 : Int) < 2147483629), _, rfl, _, _, rfl, rfl, .inl ⟨by decide, by decide⟩, _, rfl, _, _, rfl, rfl, .inr ⟨by omega, by omega⟩, _, _, rfl, rfl, _, _, rfl, rfl, _, _, rfl, rfl, .inr ⟨by decide, by decide⟩, .inl ⟨_, rfl, _, _, rfl, rfl, (by decide : (0 : Int) < 2147483647), ?_⟩⟩⟩
      refine ⟨_, rfl, _, rfl, _, _, rfl, rfl, cmul_mod (by decide) (by decide), _, rfl, _, _, rfl, rfl, .inl ⟨by decide, by decide⟩, _, _, rfl, rfl, _, _, rfl, rfl, .inl ⟨_, rfl, _, _, rfl, rfl, (by decide : (0 : Int) < 2147483587), ?_⟩⟩
      refine ⟨_, rfl, _, _, rfl, rfl, cmul_mod (by decide) (by decide), .inl ⟨_, rfl, _, _, rfl, rfl, (by decide : (0 : Int) < 2147483563), _, _, rfl, rfl, ⟨by decide, by decide⟩, _, rfl, _, _, rfl, rfl, m0, ?_⟩⟩
      exact q _ _ k3 (hW2 more (by omega) _ hw3 hl3) (mod_in m0).1 (mod_in m0).2
end
end K19
set_option Elab.async false
set_option linter.all false
set_option maxRecDepth 100000
set_option maxHeartbeats 4000000
/-! k19: terms, what is passed. -/
namespace K19
open PySem PySem.Spec PyProof.Rows L2 Zg Zr Zd Zv
/-! ### terms -/
inductive Tm where
  | leaf (w : PySem.Str)
  | go (x : PySem.Str)
  | given (x : PySem.Str)
  | act (a : PySem.Str) (t : Tm)
  | test (s : List Int) (y n : Tm)
  | pick (ts : List Tm)
  | call (b : Bool) (x : PySem.Str) (fs ts : List Tm)
def wordC (b : Bool) : PySem.Str := if b = true then "call" else "part"
mutual
def Tm.data : Tm → PyData
  | .leaf w => .tuple [.str w]
  | .go x => .tuple [.str "go", .str x]
  | .given x => .tuple [.str "given", .str x]
  | .act a t => .tuple [.str "do", .str a, t.data]
  | .test s y n => .tuple [.str "test", .tuple (s.map .int), y.data, n.data]
  | .pick ts => .tuple (.str "pick" :: datas ts)
  | .call b x fs ts => .tuple [.str (wordC b), .str x, .tuple (datas fs), .tuple (datas ts)]
def datas : List Tm → List PyData
  | [] => []
  | t :: ts => t.data :: datas ts
end
theorem datas_map : ∀ ts : List Tm, datas ts = ts.map Tm.data
  | [] => rfl
  | t :: ts => by rw [datas, datas_map ts]; rfl
def callOf : Tm → List Tm → Tm
  | .given x, ts => .call true x [] ts
  | .call _ x fs ts0, ts => .call true x fs (ts0 ++ ts)
  | t, _ => t
mutual
def Tm.sub (gv gg : PySem.Str → Option Tm) : Tm → Tm
  | .leaf w => .leaf w
  | .go x => (gg x).getD (.go x)
  | .given x => (gv x).getD (.given x)
  | .act a t => .act a (t.sub gv gg)
  | .test s y n => .test s (y.sub gv gg) (n.sub gv gg)
  | .pick ts => .pick (subs gv gg ts)
  | .call b x fs ts => if b = true then (match gv x with
      | some f => callOf f (subs gv gg ts)
      | none => .call b x (subs gv gg fs) (subs gv gg ts)) else .call b x (subs gv gg fs) (subs gv gg ts)
def subs (gv gg : PySem.Str → Option Tm) : List Tm → List Tm
  | [] => []
  | t :: ts => t.sub gv gg :: subs gv gg ts
end
theorem subs_map (gv gg : PySem.Str → Option Tm) : ∀ ts : List Tm, subs gv gg ts = ts.map (Tm.sub gv gg)
  | [] => rfl
  | t :: ts => by rw [subs, subs_map gv gg ts]; rfl
def Nm (z : PySem.Str) : Prop := z.length ≤ 8 ∧ PyData.strOk z = true
/-- a term so deep at most, its ends among these names -/
inductive Fit (N : List PySem.Str) : Nat → Tm → Prop
  | leaf {d w} : w ∈ (["end", "wait", "fail"] : List PySem.Str) → Fit N d (.leaf w)
  | go {d x} : x ∈ N → Nm x → Fit N d (.go x)
  | given {d x} : Nm x → Fit N d (.given x)
  | act {d a t} : Nm a → Fit N d t → Fit N (d + 1) (.act a t)
  | test {d s y n} : s.length ≤ 3 → (∀ i ∈ s, 0 ≤ i ∧ i < 3) → Fit N d y → Fit N d n → Fit N (d + 1) (.test s y n)
  | pick {d ts} : 1 ≤ ts.length → ts.length ≤ 3 → (∀ t ∈ ts, Fit N d t) → Fit N (d + 1) (.pick ts)
  | call {d b x fs ts} : Nm x → fs.length ≤ 2 → ts.length ≤ 3 → (∀ t ∈ fs, Fit N d t) → (∀ t ∈ ts, Fit N d t) → Fit N (d + 1) (.call b x fs ts)
theorem Fit.mono {N : List PySem.Str} {t : Tm} : ∀ {d d' : Nat}, Fit N d t → d ≤ d' → Fit N d' t := by
  intro d d' h
  induction h generalizing d' with
  | leaf h => exact fun _ => .leaf h
  | go h n => exact fun _ => .go h n
  | given n => exact fun _ => .given n
  | act n _ ih =>
    intro e
    obtain ⟨k, rfl⟩ := Nat.exists_eq_succ_of_ne_zero (show d' ≠ 0 by omega)
    exact .act n (ih (by omega))
  | test h1 h2 _ _ i1 i2 =>
    intro e
    obtain ⟨k, rfl⟩ := Nat.exists_eq_succ_of_ne_zero (show d' ≠ 0 by omega)
    exact .test h1 h2 (i1 (by omega)) (i2 (by omega))
  | pick h1 h2 _ ih =>
    intro e
    obtain ⟨k, rfl⟩ := Nat.exists_eq_succ_of_ne_zero (show d' ≠ 0 by omega)
    exact .pick h1 h2 fun t m => ih t m (by omega)
  | call n h1 h2 _ _ i1 i2 =>
    intro e
    obtain ⟨k, rfl⟩ := Nat.exists_eq_succ_of_ne_zero (show d' ≠ 0 by omega)
    exact .call n h1 h2 (fun t m => i1 t m (by omega)) fun t m => i2 t m (by omega)
theorem Fit.names {N N' : List PySem.Str} {t : Tm} {d : Nat} (h : Fit N d t) (e : ∀ x ∈ N, x ∈ N') : Fit N' d t := by
  induction h with
  | leaf h => exact .leaf h
  | go h n => exact .go (e _ h) n
  | given n => exact .given n
  | act n _ ih => exact .act n ih
  | test h1 h2 _ _ i1 i2 => exact .test h1 h2 i1 i2
  | pick h1 h2 _ ih => exact .pick h1 h2 ih
  | call n h1 h2 _ _ i1 i2 => exact .call n h1 h2 i1 i2
theorem _root_.Zv.Dv.tup_inv {S : List Addr} {H : Hp} {v : V} {ds : List PyData} (h : Dv S H v (.tuple ds)) : ∃ a xs, v = .ref a ∧ H a = some (.tup xs) ∧ a ∉ S ∧ DvAll S H xs ds := by
  cases h with
  | tup h n t => exact ⟨_, _, rfl, h, n, t⟩
mutual
/-- no list, no dict within -/
def noL : PyData → Bool
  | .list _ | .dict _ => false
  | .tuple xs => noLAll xs
  | _ => true
def noLAll : List PyData → Bool
  | [] => true
  | x :: xs => noL x && noLAll xs
end
theorem noLAll_iff : ∀ {l : List PyData}, noLAll l = true ↔ ∀ d ∈ l, noL d = true
  | [] => by simp [noLAll]
  | x :: l => by
    rw [noLAll, Bool.and_eq_true, noLAll_iff (l := l)]
    simp
mutual
theorem tm_noL : ∀ t : Tm, noL t.data = true
  | .leaf w => rfl
  | .go x => rfl
  | .given x => rfl
  | .act a t => by
    show (true && (true && (noL t.data && true))) = true
    rw [tm_noL t]
    rfl
  | .test s y n => by
    have h : noLAll (s.map PyData.int) = true := noLAll_iff.mpr fun d hd => by
      obtain ⟨i, _, rfl⟩ := List.mem_map.mp hd
      rfl
    show (true && (noLAll (s.map PyData.int) && (noL y.data && (noL n.data && true)))) = true
    rw [tm_noL y, tm_noL n, h]
    rfl
  | .pick ts => by
    show (true && noLAll (datas ts)) = true
    rw [tms_noL ts]
    rfl
  | .call b x fs ts => by
    show (true && (true && (noLAll (datas fs) && (noLAll (datas ts) && true)))) = true
    rw [tms_noL fs, tms_noL ts]
    rfl
theorem tms_noL : ∀ ts : List Tm, noLAll (datas ts) = true
  | [] => rfl
  | t :: ts => by
    show (noL t.data && noLAll (datas ts)) = true
    rw [tm_noL t, tms_noL ts]
    rfl
end
mutual
theorem Dv_noL {H : Hp} {D : Addr} (hD : ∀ zs, H D ≠ some (.tup zs)) : ∀ {v : V} {d : PyData}, Dv [] H v d → noL d = true → Dv [D] H v d
  | _, _, .non, _ => .non
  | _, _, .bl b, _ => .bl b
  | _, _, .int i, _ => .int i
  | _, _, .str x, _ => .str x
  | _, _, .lst _ _ _, e => nomatch e
  | _, _, .tup h m t, e => .tup h (fun q => by
      rw [List.mem_singleton] at q
      exact hD _ (q ▸ h)) (DvAll_noL hD t e)
  | _, _, .dic _ _, e => nomatch e
theorem DvAll_noL {H : Hp} {D : Addr} (hD : ∀ zs, H D ≠ some (.tup zs)) : ∀ {vs : List V} {ds : List PyData}, DvAll [] H vs ds → noLAll ds = true → DvAll [D] H vs ds
  | _, _, .nil, _ => .nil
  | _, _, .cons h t, e => by
    have e' := Bool.and_eq_true_iff.mp e
    exact .cons (Dv_noL hD h e'.1) (DvAll_noL hD t e'.2)
end
theorem datas_append (l m : List Tm) : datas (l ++ m) = datas l ++ datas m := by rw [datas_map, datas_map, datas_map, List.map_append]
theorem dec_str (x y : PySem.Str) : decide (V.str x = V.str y) = (x == y) := by
  rw [Bool.eq_iff_iff, decide_eq_true_iff, beq_iff_eq]
  exact ⟨fun h => V.str.inj h, fun h => by rw [h]⟩
theorem same_put {H H' : Hp} {L : Addr} {o : HO} (k : Same H H') (n : H L = none) : Same H (upd H' L o) := fun c o eb => by
  rw [upd_ne (ne_of_none eb n)]
  exact k _ _ eb
theorem cat_any {K : PySem.W.Frag} {S : List Addr} {H : Hp} {Q : VK} {a b : Addr} {xs ys : List V} (tr : Trk S H) (ha : H a = some (.tup xs)) (na : a ∉ S) (hb : H b = some (.tup ys)) (nb : b ∉ S) (hl : xs.length + ys.length ≤ 10000) (q : ∀ (H' : Hp) (p : Addr), Same H H' → H' p = some (.tup (xs ++ ys)) → p ∉ S → Q (.ref p) H') : rCatA K (.ref a) (.ref b) H Q := by
  refine ⟨a, b, xs, ys, rfl, rfl, SqT.of ha, SqT.of hb, by rw [sizeLine_eq]; omega, fun z => ?_, fun _ z => ?_, fun _ _ p hp => ?_⟩
  · exact q H b (Same.refl H) (by rw [hb, z]; rfl) nb
  · exact q H a (Same.refl H) (by rw [ha, z, List.append_nil]) na
  · exact q _ p (same_new hp) upd_same (tr.out hp)
/-- what a dict's name stands for -/
def EnvOk (H : Hp) (g : Addr) (f : PySem.Str → Option Tm) : Prop := ∃ kvs : List (Key × V), H g = some (.dK kvs) ∧ ∀ x : PySem.Str, (valV kvs (.inr x) = none ∧ f x = none) ∨ ∃ v t, valV kvs (.inr x) = some v ∧ f x = some t ∧ Dv [] H v t.data
theorem EnvOk.same {H H' : Hp} {g : Addr} {f : PySem.Str → Option Tm} (h : EnvOk H g f) (k : Same H H') : EnvOk H' g f := by
  obtain ⟨kvs, h1, h2⟩ := h
  refine ⟨kvs, k _ _ h1, fun x => ?_⟩
  rcases h2 x with h | ⟨v, t, a, b, c⟩
  · exact .inl h
  · exact .inr ⟨v, t, a, b, c.kp (Kp.of k)⟩
/-- a function that is passed -/
def FunV (f : Tm) : Prop := (∃ x, f = .given x) ∨ ∃ x fs ts, f = .call false x fs ts ∧ ts.length ≤ 100
section
variable {P : Program} {w : World} {K : PySem.W.Frag} {mg : PySem.Str → Option Value} {base : Heap}
def sp_callof : Sp := fun vs H Q _ => ∃ (v : V) (a : Addr) (f : Tm) (ts : List Tm), vs = [v, .ref a] ∧ FunV f ∧ Dv [] H v f.data ∧ Dv [] H (.ref a) (.tuple (datas ts)) ∧ ts.length ≤ 100 ∧
  ∀ (H' : Hp) (r : V), Same H H' → Dv [] H' r (callOf f ts).data → Q r H'
theorem ok_call_of (T : Txt K mg) : FnOk P w K mg base CX0 1 T.a_call_of T.d_call_of P_call_of sp_callof := by
  refine T.F_call_of.ok sc_call_of (fun vs H Q E h => by obtain ⟨v, a, f, ts, rfl, _⟩ := h; rfl) (fun cdv A outer s H vs Q E hr h => ?_)
  refine ⟨_, (pss_cons (ps_if (pt_cmpR op_eq (pe_ix ix_tup (pv 0) pe_int (fun _ _ => rfl)) pe_str (nomark _)) (pss_one (ps_ret (pe_tup (pa_cons pe_str (pa_cons (pe_ix ix_tup (pv 0) pe_int (fun _ _ => rfl)) (pa_cons (pe_tup pa_nil) (pa_cons (pv 1) pa_nil))))))) pss_nil)
    (pss_one (ps_ret (pe_tup (pa_cons pe_str (pa_cons (pe_ix ix_tup (pv 0) pe_int (fun _ _ => rfl)) (pa_cons (pe_ix ix_tup (pv 0) pe_int (fun _ _ => rfl)) (pa_cons (pe_op op_catA (pe_ix ix_tup (pv 0) pe_int (fun _ _ => rfl)) (pv 1)) pa_nil)))))))), ?_⟩
  obtain ⟨v, a, f, ts, rfl, hf, hv, ha, hl, q⟩ := h
  obtain ⟨a', xs, e, h2, _, hx⟩ := ha.tup_inv
  cases e
  rcases hf with ⟨x, rfl⟩ | ⟨x, fs, ts0, rfl, hl0⟩
  · obtain ⟨b, ys, rfl, hb, _, hy⟩ := Dv.tup_inv (show Dv [] H v (.tuple [.str "given", .str x]) from hv)
    cases hy with
    | @cons v0 vs0 _ _ y0 hy =>
    cases hy with
    | @cons v1 vs1 _ _ y1 hy =>
    cases hy
    cases y0
    cases y1
    refine ⟨_, rfl, b, _, 0, _, rfl, rfl, SqT.of hb, atI_nat (j := 0) rfl, rfl, _, rfl, ?_⟩
    rw [dec_str]
    refine ite2 (fun _ => ?_) (fun e => absurd (by decide +kernel) e)
    refine ⟨_, rfl, b, _, 1, _, rfl, rfl, SqT.of hb, atI_nat (j := 1) rfl, by show 0 ≤ sizeLine; decide, fun p1 hp1 => ⟨_, rfl, by show 4 ≤ sizeLine; decide, fun p hp => ?_⟩⟩
    have k1 := same_new (o := .tup []) hp1
    have k2 := same_new (o := .tup [.str "call", .str x, .ref p1, .ref a]) hp
    refine q _ _ (k1.trans k2) ?_
    exact .tup upd_same (fun m => nomatch m) (.cons (.str _) (.cons (.str _) (.cons (.tup (k2 _ _ upd_same) (fun m => nomatch m) .nil) (.cons (ha.kp (Kp.of (k1.trans k2))) .nil))))
  · obtain ⟨b, ys, rfl, hb, _, hy⟩ := Dv.tup_inv (show Dv [] H v (.tuple [.str "part", .str x, .tuple (datas fs), .tuple (datas ts0)]) from hv)
    cases hy with
    | @cons v0 vs0 _ _ y0 hy =>
    cases hy with
    | @cons v1 vs1 _ _ y1 hy =>
    cases hy with
    | @cons v2 vs2 _ _ y2 hy =>
    cases hy with
    | @cons v3 vs3 _ _ y3 hy =>
    cases hy
    cases y0
    cases y1
    obtain ⟨a3, zs, rfl, h3, _, hz⟩ := y3.tup_inv
    have lz := hz.length
    have lx := hx.length
    rw [datas_map, List.length_map] at lz lx
    refine ⟨_, rfl, b, _, 0, _, rfl, rfl, SqT.of hb, atI_nat (j := 0) rfl, rfl, _, rfl, ?_⟩
    rw [dec_str]
    refine ite2 (fun e => absurd e (by decide +kernel)) (fun _ => ?_)
    refine ⟨_, rfl, b, _, 1, _, rfl, rfl, SqT.of hb, atI_nat (j := 1) rfl, _, rfl, b, _, 2, _, rfl, rfl, SqT.of hb, atI_nat (j := 2) rfl, _, rfl, b, _, 3, _, rfl, rfl, SqT.of hb, atI_nat (j := 3) rfl, _, rfl, ?_⟩
    refine cat_any (S := []) (fun a m => nomatch m) h3 (fun m => nomatch m) h2 (fun m => nomatch m) (by omega) fun H1 p1 k1 hp1 _ => ⟨by show 4 ≤ sizeLine; decide, fun p hp => ?_⟩
    have k2 := same_new (o := .tup [.str "call", .str x, v2, .ref p1]) hp
    have kk := Kp.of (S := []) (k1.trans k2)
    refine q _ _ (k1.trans k2) ?_
    refine .tup upd_same (fun m => nomatch m) (.cons (.str _) (.cons (.str _) (.cons (y2.kp kk) (.cons (.tup (k2 _ _ hp1) (fun m => nomatch m) ?_) .nil))))
    rw [datas_append]
    exact (hz.kp kk).append (hx.kp kk)
/-- a term, what is passed put in -/
def sp_tw (d : Nat) : Sp := fun vs H Q _ => ∃ (v : V) (g o : Addr) (t : Tm) (gv gg : PySem.Str → Option Tm) (N : List PySem.Str), vs = [v, .ref g, .ref o] ∧ Dv [] H v t.data ∧ Fit N d t ∧ EnvOk H g gv ∧ EnvOk H o gg ∧ (∀ x f, gv x = some f → FunV f) ∧ (∀ x ∈ N, gg x ≠ none) ∧
  ∀ (H' : Hp) (r : V), Same H H' → Dv [] H' r (t.sub gv gg).data → Q r H'
def sp_nw (d : Nat) : Sp := fun vs H Q _ => ∃ (v : V) (g o : Addr) (b : Bool) (x : PySem.Str) (fs ts : List Tm) (gv gg : PySem.Str → Option Tm) (N : List PySem.Str), vs = [v, .ref g, .ref o] ∧ Dv [] H v (Tm.call b x fs ts).data ∧ fs.length ≤ 2 ∧ ts.length ≤ 3 ∧ (∀ t ∈ fs, Fit N d t) ∧ (∀ t ∈ ts, Fit N d t) ∧ EnvOk H g gv ∧ EnvOk H o gg ∧ (∀ x f, gv x = some f → FunV f) ∧ (∀ x ∈ N, gg x ≠ none) ∧
  ∀ (H' : Hp) (r : V), Same H H' → Dv [] H' r ((Tm.call b x fs ts).sub gv gg).data → Q r H'
/-- [f(x, given, going) for x in xs] -/
theorem lc_terms {a D g o : Addr} {xs : List V} {ts : List Tm} {d n i1 i2 : Nat} {gv gg : PySem.Str → Option Tm} {N : List PySem.Str} {σ : L2.St} {H1 : Hp} {Qd : Hp → Prop} (ha : H1 a = some (.tup xs)) (hx : DvAll [] H1 xs (datas ts)) (hF : ∀ t ∈ ts, Fit N d t) (hl : ts.length ≤ 100) (hD : H1 D = none)
    (hg : EnvOk H1 g gv) (ho : EnvOk H1 o gg) (hf : ∀ x f, gv x = some f → FunV f) (hN : ∀ x ∈ N, gg x ≠ none)
    (e0 : ∀ y : V, ((wipe σ [n]).set n (some y))[n]? = some (some y)) (e1 : ∀ y : V, ((wipe σ [n]).set n (some y))[i1]? = some (some (.ref g))) (e2 : ∀ y : V, ((wipe σ [n]).set n (some y))[i2]? = some (some (.ref o))) (ew : ∀ y : V, wipe ((wipe σ [n]).set n (some y)) [n] = wipe σ [n])
    (q : ∀ H' ys, Same H1 H' → H' D = some (.lst ys) → DvAll [] H' ys (datas (subs gv gg ts)) → Qd H') :
    ∃ W : Nat → Nat → Hp → Prop, (∃ m, W 0 m (upd H1 D (.lst []))) ∧ ∀ i m H, W i m H →
      ((Itt K a).stop i H ∧ Qd H) ∨ ((Itt K a).go i H ∧ ∃ Nx : Hp → Prop, (∀ H', Nx H' → ∃ m', m' < m ∧ W (i + 1) m' H') ∧ ∀ x H', (Itt K a).yld i H x H' → gName n x (wipe σ [n]) H' fun σ2 H2 => wipe σ2 [n] = wipe σ [n] ∧ tYes σ2 H2 fun c H3 =>
        if c = true then tCall (sp_tw d) [] E0 (tCons (tVar n) (tCons (tVar i1) (tCons (tVar i2) tNil))) σ2 H3 fun y H4 => ∃ acc, H4 D = some (.lst acc) ∧ acc.length < sizeLine ∧ Nx (upd H4 D (.lst (acc ++ [y]))) else Nx H3) := by
  refine lc_tup (K := K) (a := a) (xs := xs) (fun i H' => ∃ ys, Same H1 H' ∧ H' D = some (.lst ys) ∧ DvAll [D] H' ys (datas (subs gv gg (ts.take i))) ∧ ys.length ≤ i) ⟨[], same_new hD, upd_same, .nil, Nat.le_refl _⟩ (fun i H' _ ⟨_, p, _⟩ => SqT.of (p _ _ ha)) ?_ ?_
  · rintro i x H' hi ⟨ys, k, hDl, hys, hyl⟩
    have hil := (List.getElem?_eq_some_iff.mp hi).1
    have hxl := hx.length
    rw [datas_map, List.length_map] at hxl
    obtain ⟨d', hdi, hdx⟩ := hx.get hi
    rw [datas_map, List.getElem?_map] at hdi
    cases htt : ts[i]? with
    | none => rw [htt] at hdi; cases hdi
    | some t =>
    rw [htt] at hdi
    cases hdi
    refine ⟨ew _, _, e0 _, _, e1 _, _, e2 _, x, g, o, t, gv, gg, N, rfl, hdx.kp (Kp.of k), hF t (List.mem_of_getElem? htt), hg.same k, ho.same k, hf, hN, fun H2 r k2 hr => ?_⟩
    have kk : Kp [D] H2 (upd H2 D (.lst (ys ++ [r]))) := (Kp.refl _ _).wr (.inl List.mem_cons_self)
    refine ⟨ys, k2 _ _ hDl, by rw [sizeLine_eq]; omega, ys ++ [r], same_put (k.trans k2) hD, upd_same, ?_, by rw [List.length_append, List.length_singleton]; omega⟩
    rw [subs_map, List.take_succ, htt, List.map_append, ← subs_map, datas_append]
    exact ((hys.kp (Kp.of k2)).kp kk).append (.cons ((Dv_noL (fun zs z => by rw [k2 _ _ hDl] at z; cases z) hr (tm_noL _)).kp kk) .nil)
  · rintro H' ⟨ys, k, hDl, hys, hyl⟩
    have hxl := hx.length
    rw [datas_map, List.length_map] at hxl
    rw [hxl, List.take_length] at hys
    exact q H' ys k hDl (hys.sub (S' := []) fun a m => nomatch m)
end
end K19
set_option Elab.async false
set_option linter.all false
set_option maxRecDepth 100000
set_option maxHeartbeats 4000000
/-! k19: what is passed, put in: the program's and the law's. -/
namespace K19
open PySem PySem.Spec PyProof.Rows L2 Zg Zr Zd Zv
theorem case_no {as : List PySem.Str} {tb : TS} {rest : PySem.Str → TS} {z : PySem.Str} {D : Ends} {σ : L2.St} {H : Hp} (n : z ∉ as) (h : rest z D σ H) : Ym.tCase as tb rest z D σ H := by
  unfold Ym.tCase
  rw [if_neg n]
  exact h
theorem case_yes {as : List PySem.Str} {tb : TS} {rest : PySem.Str → TS} {z : PySem.Str} {D : Ends} {σ : L2.St} {H : Hp} (n : z ∈ as) (h : tb D σ H) : Ym.tCase as tb rest z D σ H := by
  unfold Ym.tCase
  rw [if_pos n]
  exact h
theorem leaf_words : ∀ x ∈ (["end", "wait", "fail"] : List PySem.Str), x ∉ (["do"] : List PySem.Str) ∧ x ∉ (["test"] : List PySem.Str) ∧ x ∉ (["pick"] : List PySem.Str) ∧ x ∉ (["go"] : List PySem.Str) ∧ x ∉ (["given"] : List PySem.Str) ∧ x ∉ (["call", "part"] : List PySem.Str) := by decide +kernel
section
variable {P : Program} {w : World} {K : PySem.W.Frag} {mg : PySem.Str → Option Value} {base : Heap}
theorem ok_named_of (T : Txt K mg) {d : Nat} (hT : FnOk P w K mg base CX0 (2 * d + 3) T.a_term_with T.d_term_with P_term_with (sp_tw d)) : FnOk P w K mg base CX0 (2 * d + 4) T.a_named_with T.d_named_with P_named_with (sp_nw d) := by
  refine T.F_named_with.ok sc_named_with (fun vs H Q E h => by obtain ⟨v, g, o, b, x, fs, ts, gv, gg, N, rfl, _⟩ := h; rfl) (fun cdv A outer s H vs Q E hr h => ?_)
  refine ⟨_, (pss_cons (ps_asg (pv 0) (pg_tup (by rfl) (pgs_cons (pg_name (i := 3) sc_named_with.nd rfl (Or.inl rfl)) (pgs_cons (pg_name (i := 4) sc_named_with.nd rfl (Or.inl rfl)) (pgs_cons (pg_name (i := 5) sc_named_with.nd rfl (Or.inl rfl)) (pgs_cons (pg_name (i := 6) sc_named_with.nd rfl (Or.inl rfl)) pgs_nil))))))
    (pss_cons (ps_set (i := 5) sc_named_with.nd rfl (Or.inl rfl) (pe_callTy call_tuple_of (by rfl) T.n_tuple (by decide +kernel) (pa_cons (pe_lc (own := [("one", 7)]) rfl sc_named_with.nd (pi_tup (pv 5)) (blkOk_by (own := [("one", 7)]) (N := N_named_with) (sc := defScope s_named_with) (by decide +kernel)) (fun _ _ _ _ _ => (pg_name (i := 7) sc_named_with.nd rfl (Or.inl rfl))) (fun _ _ _ _ _ => pts_nil) (fun _ _ _ _ _ => (pe_call hT (hr.mono (by omega)) (by rfl) T.g_term_with T.F_term_with.kp T.b_term_with .nil pass0 (pa_cons (pv 7) (pa_cons (pv 1) (pa_cons (pv 2) pa_nil)))))) pa_nil)))
    (pss_cons (ps_set (i := 6) sc_named_with.nd rfl (Or.inl rfl) (pe_callTy call_tuple_of (by rfl) T.n_tuple (by decide +kernel) (pa_cons (pe_lc (own := [("one", 7)]) rfl sc_named_with.nd (pi_tup (pv 6)) (blkOk_by (own := [("one", 7)]) (N := N_named_with) (sc := defScope s_named_with) (by decide +kernel)) (fun _ _ _ _ _ => (pg_name (i := 7) sc_named_with.nd rfl (Or.inl rfl))) (fun _ _ _ _ _ => pts_nil) (fun _ _ _ _ _ => (pe_call hT (hr.mono (by omega)) (by rfl) T.g_term_with T.F_term_with.kp T.b_term_with .nil pass0 (pa_cons (pv 7) (pa_cons (pv 1) (pa_cons (pv 2) pa_nil)))))) pa_nil)))
    (pss_cons (ps_if (PW.pt (pw_and (pt_cmpR op_eq (pv 3) pe_str (nomark _)) (pw_and1 (pt_cmp (pc_din (hu_of hr) (pv 4) (pv 1)) rfl)))) (pss_one (ps_ret (pe_call (ok_call_of T) (hr.mono (by omega)) (by rfl) T.g_call_of T.F_call_of.kp T.b_call_of .nil pass0 (pa_cons (pe_dget (hu_of hr) (pv 1) (pv 4) (fun _ _ => rfl)) (pa_cons (pv 6) pa_nil))))) pss_nil)
    (pss_one (ps_ret (pe_tup (pa_cons (pv 3) (pa_cons (pv 4) (pa_cons (pv 5) (pa_cons (pv 6) pa_nil))))))))))), ?_⟩
  obtain ⟨v, g, o, b, x, fs, ts, gv, gg, N, rfl, hv, lf, lt, ff, ft, hg, ho, hF, hN, q⟩ := h
  obtain ⟨a, xs, rfl, ha, _, hx⟩ := Dv.tup_inv (show Dv [] H v (.tuple [.str (wordC b), .str x, .tuple (datas fs), .tuple (datas ts)]) from hv)
  cases hx with
  | @cons v0 vs0 _ _ y0 hx =>
  cases hx with
  | @cons v1 vs1 _ _ y1 hx =>
  cases hx with
  | @cons v2 vs2 _ _ y2 hx =>
  cases hx with
  | @cons v3 vs3 _ _ y3 hx =>
  cases hx
  cases y0
  cases y1
  obtain ⟨a2, zs2, rfl, h2, _, hz2⟩ := y2.tup_inv
  obtain ⟨a3, zs3, rfl, h3, _, hz3⟩ := y3.tup_inv
  refine ⟨_, rfl, a, _, rfl, SqT.of ha, rfl, _, _, rfl, _, _, rfl, _, _, rfl, _, _, rfl, rfl, ?_⟩
  dsimp only [gName]
  refine ⟨_, rfl, a2, rfl, ⟨_, SqT.of h2⟩, fun D hD => ?_⟩
  refine lc_terms (d := d) (N := N) h2 hz2 ff (by omega) hD hg ho hF hN (fun _ => rfl) (fun _ => rfl) (fun _ => rfl) (fun _ => rfl) fun H1 ys k1 hD1 hy => ?_
  refine ⟨D, ys, rfl, .inl ⟨SqL.of hD1, fun p hp => ?_⟩⟩
  dsimp only [gName]
  have kp := same_new (o := .tup ys) hp
  have k2 := k1.trans kp
  refine ⟨_, rfl, a3, rfl, ⟨_, SqT.of (k2 _ _ h3)⟩, fun D3 hD3 => ?_⟩
  refine lc_terms (d := d) (N := N) (k2 _ _ h3) (hz3.kp (Kp.of k2)) ft (by omega) hD3 (hg.same k2) (ho.same k2) hF hN (fun _ => rfl) (fun _ => rfl) (fun _ => rfl) (fun _ => rfl) fun H3 zs k3 hD4 hz => ?_
  refine ⟨D3, zs, rfl, .inl ⟨SqL.of hD4, fun p3 hp3 => ?_⟩⟩
  dsimp only [gName]
  have kp3 := same_new (o := .tup zs) hp3
  have k4 := k2.trans (k3.trans kp3)
  have hpp : (upd H3 p3 (.tup zs)) p = some (.tup ys) := kp3 _ _ (k3 _ _ upd_same)
  have hp33 : (upd H3 p3 (.tup zs)) p3 = some (.tup zs) := upd_same
  have hy' := (hy.kp (Kp.of kp)).kp (Kp.of (S := []) (k3.trans kp3))
  have hz' := hz.kp (Kp.of (S := []) kp3)
  generalize upd H3 p3 (.tup zs) = H4 at k4 hpp hp33 hy' hz' ⊢
  have hg4 := hg.same k4
  obtain ⟨gkv, hgk, hgx⟩ := hg4
  have q1 : (Tm.call b x fs ts).sub gv gg = if b = true then (match gv x with
      | some f => callOf f (subs gv gg ts)
      | none => .call b x (subs gv gg fs) (subs gv gg ts)) else .call b x (subs gv gg fs) (subs gv gg ts) := by
    rw [Tm.sub]
    try (cases b <;> cases gv x <;> rfl)
  rw [q1] at q
  have last : ∀ (H5 : Hp), Same H4 H5 → (∀ (H' : Hp) (r : V), Same H H' → Dv [] H' r (Tm.call b x (subs gv gg fs) (subs gv gg ts)).data → Q r H') → tRet (tTup (tCons (tVar 3) (tCons (tVar 4) (tCons (tVar 5) (tCons (tVar 6) tNil))))) { nx := fun x H' => Q V.non H', rt := Q } [some (.ref a), some (.ref g), some (.ref o), some (.str (wordC b)), some (.str x), some (.ref p), some (.ref p3), none] H5 := by
    intro H5 k5 q
    refine ⟨_, rfl, _, rfl, _, rfl, _, rfl, by show 4 ≤ sizeLine; decide, fun p9 hp9 => ?_⟩
    have k9 := same_new (o := .tup [.str (wordC b), .str x, .ref p, .ref p3]) hp9
    refine q _ _ (k4.trans (k5.trans k9)) ?_
    exact .tup upd_same (fun m => nomatch m) (.cons (.str _) (.cons (.str _) (.cons (.tup (k9 _ _ (k5 _ _ hpp)) (fun m => nomatch m) (hy'.kp (Kp.of (k5.trans k9)))) (.cons (.tup (k9 _ _ (k5 _ _ hp33)) (fun m => nomatch m) (hz'.kp (Kp.of (k5.trans k9)))) .nil))))
  refine ⟨_, rfl, rfl, _, rfl, ?_⟩
  rw [dec_str]
  refine ite2 (fun e => ?_) (fun e => ?_)
  · have eb : b = true := by
      cases b
      · exact absurd e (by decide +kernel)
      · rfl
    subst eb
    rw [if_pos rfl] at q
    refine ⟨_, rfl, _, rfl, g, _, rfl, DGet.k (k := .inr x) hgk, _, rfl, ?_⟩
    rcases hgx x with ⟨e1, e2⟩ | ⟨vf, f, e1, e2, hvf⟩
    · rw [e1]
      rw [e2] at q
      exact iteF (last H4 (Same.refl _) q)
    · rw [e1]
      rw [e2] at q
      refine iteT ?_
      refine ⟨_, rfl, _, rfl, g, _, rfl, e1 ▸ DGet.k (k := .inr x) hgk, _, rfl, vf, p3, f, subs gv gg ts, rfl, hF x f e2, hvf, .tup hp33 (fun m => nomatch m) hz', ?_, fun H5 r k5 hr => q H5 r (k4.trans k5) hr⟩
      rw [subs_map, List.length_map]
      omega
  · have eb : b = false := by
      cases b
      · rfl
      · exact absurd (by decide +kernel) e
    subst eb
    exact last H4 (Same.refl _) q
theorem ok_term_of (T : Txt K mg) {d : Nat} {spT spN : Sp} (hT : FnOk P w K mg base CX0 (2 * d + 1) T.a_term_with T.d_term_with P_term_with spT) (hN : FnOk P w K mg base CX0 (2 * d + 2) T.a_named_with T.d_named_with P_named_with spN) (eT : ∀ m, d = m + 1 → spT = sp_tw m) (eN : ∀ m, d = m + 1 → spN = sp_nw m) : FnOk P w K mg base CX0 (2 * d + 3) T.a_term_with T.d_term_with P_term_with (sp_tw d) := by
  refine T.F_term_with.ok sc_term_with (fun vs H Q E h => by obtain ⟨v, g, o, t, gv, gg, N, rfl, _⟩ := h; rfl) (fun cdv A outer s H vs Q E hr h => ?_)
  refine ⟨_, (pss_cons (Ym.ps_match (pe_ix ix_tup (pv 0) pe_int (fun _ _ => rfl))
      (Ym.pmc_val (pss_one (ps_ret (pe_tup (pa_cons pe_str (pa_cons (pe_ix ix_tup (pv 0) pe_int (fun _ _ => rfl)) (pa_cons (pe_call hT (hr.mono (by omega)) (by rfl) T.g_term_with T.F_term_with.kp T.b_term_with .nil pass0 (pa_cons (pe_ix ix_tup (pv 0) pe_int (fun _ _ => rfl)) (pa_cons (pv 1) (pa_cons (pv 2) pa_nil)))) pa_nil))))))
      (Ym.pmc_val (pss_one (ps_ret (pe_tup (pa_cons pe_str (pa_cons (pe_ix ix_tup (pv 0) pe_int (fun _ _ => rfl)) (pa_cons (pe_call hT (hr.mono (by omega)) (by rfl) T.g_term_with T.F_term_with.kp T.b_term_with .nil pass0 (pa_cons (pe_ix ix_tup (pv 0) pe_int (fun _ _ => rfl)) (pa_cons (pv 1) (pa_cons (pv 2) pa_nil)))) (pa_cons (pe_call hT (hr.mono (by omega)) (by rfl) T.g_term_with T.F_term_with.kp T.b_term_with .nil pass0 (pa_cons (pe_ix ix_tup (pv 0) pe_int (fun _ _ => rfl)) (pa_cons (pv 1) (pa_cons (pv 2) pa_nil)))) pa_nil)))))))
      (Ym.pmc_val (pss_one (ps_ret (pe_tup (pa_cons pe_str (StX.pa_star (pe_lc (own := [("one", 3)]) rfl sc_term_with.nd (pi_tup (pe_slice sl_tupA (pv 0) (po_some pe_int) po_none)) (blkOk_by (own := [("one", 3)]) (N := N_term_with) (sc := defScope s_term_with) (by decide +kernel)) (fun _ _ _ _ _ => (pg_name (i := 3) sc_term_with.nd rfl (Or.inl rfl))) (fun _ _ _ _ _ => pts_nil) (fun _ _ _ _ _ => (pe_call hT (hr.mono (by omega)) (by rfl) T.g_term_with T.F_term_with.kp T.b_term_with .nil pass0 (pa_cons (pv 3) (pa_cons (pv 1) (pa_cons (pv 2) pa_nil)))))) pa_nil)))))
      (Ym.pmc_val (pss_one (ps_ret (pe_dget (hu_of hr) (pv 2) (pe_ix ix_tup (pv 0) pe_int (fun _ _ => rfl)) (fun _ _ => rfl))))
      (Ym.pmc_val (pss_one (ps_ret (pe_dget2 (hu_of hr) (pv 1) (pe_ix ix_tup (pv 0) pe_int (fun _ _ => rfl)) (pv 0) ⟨by rfl, by rfl, by rfl, by rfl⟩)))
      (Ym.pmc_or (pss_one (ps_ret (pe_call hN (hr.mono (by omega)) (by rfl) T.g_named_with T.F_named_with.kp T.b_named_with .nil pass0 (pa_cons (pv 0) (pa_cons (pv 1) (pa_cons (pv 2) pa_nil))))))
      Ym.pmc_nil)))))))
    (pss_one (ps_ret (pv 0)))), ?_⟩
  obtain ⟨v, g, o, t, gv, gg, N, rfl, hv, hfit, hg, ho, hF, hNN, q⟩ := h
  have go1 : ∀ (w0 : PySem.Str) (rest : List PyData), t.data = .tuple (.str w0 :: rest) → ∃ (a : Addr) (xs : List V), v = .ref a ∧ H a = some (.tup (.str w0 :: xs)) ∧ DvAll [] H xs rest := fun w0 rest e => by
    rw [e] at hv
    obtain ⟨a, xs, rfl, ha, _, hx⟩ := hv.tup_inv
    cases hx with
    | @cons v0 vs0 _ _ y0 hx =>
    cases y0
    exact ⟨a, vs0, rfl, ha, hx⟩
  cases hfit with
  | @leaf _ w0 hw =>
    obtain ⟨a, xs, rfl, ha, hx⟩ := go1 w0 [] rfl
    obtain ⟨n1, n2, n3, n4, n5, n6⟩ := leaf_words w0 hw
    refine ⟨_, rfl, a, _, 0, _, rfl, rfl, SqT.of ha, atI_nat (j := 0) rfl, _, rfl, ?_⟩
    refine case_no n1 (case_no n2 (case_no n3 (case_no n4 (case_no n5 (case_no n6 ?_)))))
    exact ⟨_, rfl, q H _ (Same.refl H) hv⟩
  | @go _ x hx hn =>
    obtain ⟨a, xs, rfl, ha, hx'⟩ := go1 "go" [.str x] rfl
    cases hx' with
    | @cons v1 vs1 _ _ y1 hx' =>
    cases hx'
    cases y1
    refine ⟨_, rfl, a, _, 0, _, rfl, rfl, SqT.of ha, atI_nat (j := 0) rfl, _, rfl, ?_⟩
    refine case_no (by decide +kernel) ?_
    refine case_no (by decide +kernel) ?_
    refine case_no (by decide +kernel) ?_
    refine case_yes (by decide +kernel) ?_
    obtain ⟨kvs, hk, hkx⟩ := ho
    rcases hkx x with ⟨e1, e2⟩ | ⟨vt, t, e1, e2, ht⟩
    · exact absurd e2 (hNN x hx)
    · refine ⟨_, rfl, _, rfl, a, _, 1, _, rfl, rfl, SqT.of ha, atI_nat (j := 1) rfl, o, _, rfl, e1 ▸ DGet.k (k := .inr x) hk, ?_⟩
      refine q H _ (Same.refl H) ?_
      rw [Tm.sub, e2]
      exact ht
  | @given _ x hn =>
    obtain ⟨a, xs, rfl, ha, hx'⟩ := go1 "given" [.str x] rfl
    cases hx' with
    | @cons v1 vs1 _ _ y1 hx' =>
    cases hx'
    cases y1
    refine ⟨_, rfl, a, _, 0, _, rfl, rfl, SqT.of ha, atI_nat (j := 0) rfl, _, rfl, ?_⟩
    refine case_no (by decide +kernel) ?_
    refine case_no (by decide +kernel) ?_
    refine case_no (by decide +kernel) ?_
    refine case_no (by decide +kernel) ?_
    refine case_yes (by decide +kernel) ?_
    obtain ⟨kvs, hk, hkx⟩ := hg
    refine ⟨_, rfl, g, rfl, .inl ⟨kvs, .inl hk⟩, _, rfl, a, _, 1, _, rfl, rfl, SqT.of ha, atI_nat (j := 1) rfl, _, rfl, _, DGet.k (k := .inr x) hk, ?_⟩
    rcases hkx x with ⟨e1, e2⟩ | ⟨vt, t, e1, e2, ht⟩
    · rw [e1]
      refine q H _ (Same.refl H) ?_
      rw [Tm.sub, e2]
      exact hv
    · rw [e1]
      refine q H _ (Same.refl H) ?_
      rw [Tm.sub, e2]
      exact ht
  | @act d a0 t hn ht =>
    have eS := eT _ rfl
    subst eS
    obtain ⟨a, xs, rfl, ha, hx'⟩ := go1 "do" [.str a0, t.data] rfl
    cases hx' with
    | @cons v1 vs1 _ _ y1 hx' =>
    cases hx' with
    | @cons v2 vs2 _ _ y2 hx' =>
    cases hx'
    cases y1
    refine ⟨_, rfl, a, _, 0, _, rfl, rfl, SqT.of ha, atI_nat (j := 0) rfl, _, rfl, ?_⟩
    refine case_yes (by decide +kernel) ?_
    refine ⟨_, rfl, a, _, 1, _, rfl, rfl, SqT.of ha, atI_nat (j := 1) rfl, _, rfl, a, _, 2, _, rfl, rfl, SqT.of ha, atI_nat (j := 2) rfl, _, rfl, _, rfl, v2, g, o, t, gv, gg, N, rfl, y2, ht, hg, ho, hF, hNN, fun H1 r1 k1 hr1 => ⟨by show 3 ≤ sizeLine; decide, fun p hp => ?_⟩⟩
    have kp := same_new (o := .tup [.str "do", .str a0, r1]) hp
    refine q _ _ (k1.trans kp) ?_
    rw [Tm.sub]
    exact .tup upd_same (fun m => nomatch m) (.cons (.str _) (.cons (.str _) (.cons (hr1.kp (Kp.of kp)) .nil)))
  | @test d s0 y n h1 h2 h3 h4 =>
    have eS := eT _ rfl
    subst eS
    obtain ⟨a, xs, rfl, ha, hx'⟩ := go1 "test" [.tuple (s0.map .int), y.data, n.data] rfl
    cases hx' with
    | @cons v1 vs1 _ _ y1 hx' =>
    cases hx' with
    | @cons v2 vs2 _ _ y2 hx' =>
    cases hx' with
    | @cons v3 vs3 _ _ y3 hx' =>
    cases hx'
    refine ⟨_, rfl, a, _, 0, _, rfl, rfl, SqT.of ha, atI_nat (j := 0) rfl, _, rfl, ?_⟩
    refine case_no (by decide +kernel) ?_
    refine case_yes (by decide +kernel) ?_
    refine ⟨_, rfl, a, _, 1, _, rfl, rfl, SqT.of ha, atI_nat (j := 1) rfl, _, rfl, a, _, 2, _, rfl, rfl, SqT.of ha, atI_nat (j := 2) rfl, _, rfl, _, rfl, v2, g, o, y, gv, gg, N, rfl, y2, h3, hg, ho, hF, hNN, fun H1 r1 k1 hr1 => ?_⟩
    refine ⟨_, rfl, a, _, 3, _, rfl, rfl, SqT.of (k1 _ _ ha), atI_nat (j := 3) rfl, _, rfl, _, rfl, v3, g, o, n, gv, gg, N, rfl, y3.kp (Kp.of k1), h4, hg.same k1, ho.same k1, hF, hNN, fun H2 r2 k2 hr2 => ⟨by show 4 ≤ sizeLine; decide, fun p hp => ?_⟩⟩
    have kp := same_new (o := .tup [.str "test", v1, r1, r2]) hp
    refine q _ _ (k1.trans (k2.trans kp)) ?_
    rw [Tm.sub]
    exact .tup upd_same (fun m => nomatch m) (.cons (.str _) (.cons (y1.kp (Kp.of (k1.trans (k2.trans kp)))) (.cons (hr1.kp (Kp.of (k2.trans kp))) (.cons (hr2.kp (Kp.of kp)) .nil))))
  | @pick d ts h1 h2 h3 =>
    have eS := eT _ rfl
    subst eS
    obtain ⟨a, xs, rfl, ha, hx'⟩ := go1 "pick" (datas ts) rfl
    refine ⟨_, rfl, a, _, 0, _, rfl, rfl, SqT.of ha, atI_nat (j := 0) rfl, _, rfl, ?_⟩
    refine case_no (by decide +kernel) ?_
    refine case_no (by decide +kernel) ?_
    refine case_yes (by decide +kernel) ?_
    refine ⟨_, rfl, 1, rfl, ?_⟩
    dsimp only [tNoPart]
    refine slA_from (K := K) (n := 1) (k := 1) rfl ha fun H2 b k2 hb _ => ?_
    refine ⟨b, rfl, ⟨_, SqT.of hb⟩, fun D hD => ?_⟩
    refine lc_terms (d := d) (N := N) hb (hx'.kp (Kp.of k2)) h3 (by omega) hD (hg.same k2) (ho.same k2) hF hNN (fun _ => rfl) (fun _ => rfl) (fun _ => rfl) (fun _ => rfl) fun H3 ys k3 hD3 hy => ?_
    have ly := hy.length
    rw [datas_map, List.length_map, subs_map, List.length_map] at ly
    refine ⟨D, ys, rfl, .inr (SqL.of hD3), by rw [List.append_nil, List.length_cons, sizeLine_eq]; omega, fun p hp => ?_⟩
    rw [List.append_nil]
    have kp := same_new (o := .tup (.str "pick" :: ys)) hp
    refine q _ _ (k2.trans (k3.trans kp)) ?_
    rw [Tm.sub]
    exact .tup upd_same (fun m => nomatch m) (.cons (.str _) (hy.kp (Kp.of kp)))
  | @call d b x fs ts hn h1 h2 h3 h4 =>
    have eS := eN _ rfl
    subst eS
    obtain ⟨a, xs, rfl, ha, hx'⟩ := go1 (wordC b) [.str x, .tuple (datas fs), .tuple (datas ts)] rfl
    have nb : wordC b ∉ (["do"] : List PySem.Str) ∧ wordC b ∉ (["test"] : List PySem.Str) ∧ wordC b ∉ (["pick"] : List PySem.Str) ∧ wordC b ∉ (["go"] : List PySem.Str) ∧ wordC b ∉ (["given"] : List PySem.Str) ∧ wordC b ∈ (["call", "part"] : List PySem.Str) := by
      cases b <;> decide +kernel
    obtain ⟨n1, n2, n3, n4, n5, n6⟩ := nb
    refine ⟨_, rfl, a, _, 0, _, rfl, rfl, SqT.of ha, atI_nat (j := 0) rfl, _, rfl, ?_⟩
    refine case_no n1 (case_no n2 (case_no n3 (case_no n4 (case_no n5 (case_yes n6 ?_)))))
    exact ⟨_, rfl, _, rfl, _, rfl, .ref a, g, o, b, x, fs, ts, gv, gg, N, rfl, hv, h1, h2, h3, h4, hg, ho, hF, hNN, q⟩
end
end K19
set_option Elab.async false
set_option linter.all false
set_option maxRecDepth 100000
set_option maxHeartbeats 4000000
/-! k19: passed. -/
namespace K19
open PySem PySem.Spec PyProof.Rows L2 Zg Zr Zd Zv
theorem walk_zipT {K : PySem.W.Frag} {a b : Addr} {xs ys : List V} {n : Nat} (hn : n = min xs.length ys.length) : Walk (RZ.ItzT K a b) n (fun H => SqT K H a xs ∧ SqT K H b ys) (YPair (fun i => xs[i]?) (fun i => ys[i]?)) := by
  subst hn
  refine ⟨fun i _ hi q => ?_, fun _ q => ⟨xs, ys, q.1, q.2, by omega⟩, fun i H v H' _ q y => ?_⟩
  · have h1 : i < xs.length := by omega
    have h2 : i < ys.length := by omega
    exact ⟨xs, ys, xs[i], ys[i], q.1, q.2, by simp [h1], by simp [h2]⟩
  · obtain ⟨T, x, z, h1, h2, h3, h4, h5⟩ := y
    exact ⟨T, x, z, h1, h2, h3, h4 xs q.1, h5 ys q.2⟩
section
variable {J : It} {n : Nat} {G : Hp → Prop} {Y : Nat → Hp → V → Hp → Prop}
/-- a dict comprehension over a walk -/
theorem dc_it (w : Walk J n G Y) {g : TG} {tt : TT} {tk tv : TE} {vs : List Nat} {σ : L2.St} {H1 : Hp} {D : Addr} {Qd : Hp → Prop} (Pv : Nat → Hp → Prop) (h0 : Pv 0 (upd H1 D (.dK []))) (hG : ∀ i H, i ≤ n → Pv i H → G H)
    (hs : ∀ i x H H', i < n → Pv i H → Y i H x H' → g x (wipe σ vs) H' fun σ2 H2 => wipe σ2 vs = wipe σ vs ∧ tt σ2 H2 fun b H3 =>
      if b = true then tk σ2 H3 fun y H4 => tv σ2 H4 fun z H5 => ∃ kvs k, y = kV k ∧ H5 D = some (.dK kvs) ∧ kvs.length < sizeLine ∧ Pv (i + 1) (upd H5 D (.dK (putK kvs k z))) else Pv (i + 1) H3) (hd : ∀ H, Pv n H → Qd H) :
    ∃ W : Nat → Nat → Hp → Prop, (∃ m, W 0 m (upd H1 D (.dK []))) ∧ ∀ i m H, W i m H →
      (J.stop i H ∧ Qd H) ∨ (J.go i H ∧ ∃ Nx : Hp → Prop, (∀ H', Nx H' → ∃ m', m' < m ∧ W (i + 1) m' H') ∧ ∀ x H', J.yld i H x H' → g x (wipe σ vs) H' fun σ2 H2 => wipe σ2 vs = wipe σ vs ∧ tt σ2 H2 fun b H3 =>
        if b = true then tk σ2 H3 fun y H4 => tv σ2 H4 fun z H5 => ∃ kvs k, y = kV k ∧ H5 D = some (.dK kvs) ∧ kvs.length < sizeLine ∧ Nx (upd H5 D (.dK (putK kvs k z))) else Nx H3) := by
  refine ⟨fun i m H => m = n - i ∧ i ≤ n ∧ Pv i H, ⟨n, by simp, Nat.zero_le _, h0⟩, ?_⟩
  rintro i m H ⟨rfl, hi, p⟩
  have q := hG i H hi p
  by_cases hlt : i < n
  · exact .inr ⟨w.goes i H hlt q, Pv (i + 1), fun H' p' => ⟨n - (i + 1), by omega, rfl, hlt, p'⟩, fun x H' y => hs i x H H' hlt p (w.yields i H x H' hlt q y)⟩
  · have e : i = n := by omega
    subst e
    exact .inl ⟨w.stops H q, hd H p⟩
end
/-! ### what names stand for -/
def asgn (f : PySem.Str → Option Tm) (x : PySem.Str) (t : Tm) : PySem.Str → Option Tm := fun y => if y = x then some t else f y
def envOf (l : List (PySem.Str × Tm)) : PySem.Str → Option Tm := l.foldl (fun f p => asgn f p.1 p.2) fun _ => none
theorem envOf_snoc (l : List (PySem.Str × Tm)) (p : PySem.Str × Tm) : envOf (l ++ [p]) = asgn (envOf l) p.1 p.2 := by
  unfold envOf
  rw [List.foldl_append]
  rfl
@[elab_as_elim] theorem snocRec {α : Type} {motive : List α → Prop} (l : List α) (nil : motive []) (snoc : ∀ l a, motive l → motive (l ++ [a])) : motive l := by
  have h : ∀ l : List α, motive l.reverse := by
    intro l
    induction l with
    | nil => exact nil
    | cons a l ih =>
      rw [List.reverse_cons]
      exact snoc _ _ ih
  have := h l.reverse
  rwa [List.reverse_reverse] at this
theorem envOf_some {l : List (PySem.Str × Tm)} {x : PySem.Str} {t : Tm} : envOf l x = some t → ∃ p ∈ l, p.1 = x ∧ p.2 = t := by
  induction l using snocRec with
  | nil => intro h; cases h
  | snoc l p ih =>
    rw [envOf_snoc]
    intro h
    unfold asgn at h
    by_cases e : x = p.1
    · rw [if_pos e] at h
      exact ⟨p, by simp, e.symm, Option.some.inj h⟩
    · rw [if_neg e] at h
      obtain ⟨q, m, h1, h2⟩ := ih h
      exact ⟨q, List.mem_append_left _ m, h1, h2⟩
theorem envOf_mem {l : List (PySem.Str × Tm)} {x : PySem.Str} (h : ∃ p ∈ l, p.1 = x) : envOf l x ≠ none := by
  induction l using snocRec with
  | nil => obtain ⟨p, m, _⟩ := h; cases m
  | snoc l p ih =>
    rw [envOf_snoc]
    unfold asgn
    by_cases e : x = p.1
    · rw [if_pos e]
      exact fun z => nomatch z
    · rw [if_neg e]
      obtain ⟨q, m, e2⟩ := h
      rcases List.mem_append.mp m with m | m
      · exact ih ⟨q, m, e2⟩
      · rw [List.mem_singleton] at m
        exact absurd (by rw [← e2, m]) e
theorem zip_has {x : PySem.Str} : ∀ {ns : List PySem.Str} {ts : List Tm}, x ∈ ns → ns.length ≤ ts.length → ∃ p ∈ ns.zip ts, p.1 = x
  | n :: ns, [], _, h => absurd h (by simp)
  | n :: ns, t :: ts, hx, h => by
    rcases List.mem_cons.mp hx with rfl | hx
    · exact ⟨(x, t), List.mem_cons_self, rfl⟩
    · obtain ⟨p, m, e⟩ := zip_has (ts := ts) hx (by simpa using h)
      exact ⟨p, List.mem_cons_of_mem _ m, e⟩
theorem putK_len' (c : List (Key × V)) (k : Key) (x : V) : (putK c k x).length ≤ c.length + 1 := by
  unfold putK
  by_cases e : (c.any fun kv => decide (kv.1 = k)) = true
  · rw [if_pos e, List.length_map]
    omega
  · rw [if_neg e, List.length_append]
    exact Nat.le_refl _
/-- a dict's entries say what the names stand for -/
def EnvK (S : List Addr) (H : Hp) (kvs : List (Key × V)) (f : PySem.Str → Option Tm) : Prop := ∀ x : PySem.Str, (valV kvs (.inr x) = none ∧ f x = none) ∨ ∃ v t, valV kvs (.inr x) = some v ∧ f x = some t ∧ Dv S H v t.data
theorem EnvK.kp {S : List Addr} {H H' : Hp} {kvs : List (Key × V)} {f : PySem.Str → Option Tm} (h : EnvK S H kvs f) (k : Kp S H H') : EnvK S H' kvs f := fun x => by
  rcases h x with h | ⟨v, t, a, b, c⟩
  · exact .inl h
  · exact .inr ⟨v, t, a, b, c.kp k⟩
theorem EnvK.sub {S S' : List Addr} {H : Hp} {kvs : List (Key × V)} {f : PySem.Str → Option Tm} (h : EnvK S H kvs f) (k : ∀ a ∈ S', a ∈ S) : EnvK S' H kvs f := fun x => by
  rcases h x with h | ⟨v, t, a, b, c⟩
  · exact .inl h
  · exact .inr ⟨v, t, a, b, c.sub k⟩
theorem EnvK.put {S : List Addr} {H : Hp} {kvs : List (Key × V)} {f : PySem.Str → Option Tm} (h : EnvK S H kvs f) {x : PySem.Str} {v : V} {t : Tm} (hv : Dv S H v t.data) : EnvK S H (putK kvs (.inr x) v) (asgn f x t) := fun y => by
  rw [valV_put]
  unfold asgn
  by_cases e : y = x
  · rw [if_pos (by rw [e]), if_pos e]
    exact .inr ⟨v, t, rfl, rfl, hv⟩
  · rw [if_neg (fun z => e (Sum.inr.inj z)), if_neg e]
    exact h y
def prD (p : PySem.Str × Int) : PyData := .tuple [.str p.1, .int p.2]
section
variable {P : Program} {w : World} {K : PySem.W.Frag} {mg : PySem.Str → Option Value} {base : Heap}
theorem fn_none {k : Nat} {f : Addr} {fd : FuncData} {ps : List PySem.Str} : FnOk P w K mg base CX0 k f fd ps (fun _ _ _ _ => False) := ⟨fun _ _ _ _ h => h.elim, fun _ _ _ _ _ _ _ _ _ _ _ _ _ h => h.elim⟩
theorem ok_tw (T : Txt K mg) : ∀ d : Nat, FnOk P w K mg base CX0 (2 * d + 3) T.a_term_with T.d_term_with P_term_with (sp_tw d) ∧ FnOk P w K mg base CX0 (2 * d + 4) T.a_named_with T.d_named_with P_named_with (sp_nw d)
  | 0 => by
    have h := ok_term_of T (d := 0) (P := P) (w := w) (base := base) fn_none fn_none (fun m e => nomatch e) (fun m e => nomatch e)
    exact ⟨h, ok_named_of T h⟩
  | d + 1 => by
    obtain ⟨h1, h2⟩ := ok_tw T d
    have h := ok_term_of T (d := d + 1) (P := P) (w := w) (base := base) h1 h2 (fun m e => by rw [show d = m by omega]) (fun m e => by rw [show d = m by omega])
    exact ⟨h, ok_named_of T h⟩
theorem ok_term_with (T : Txt K mg) : FnOk P w K mg base CX0 19 T.a_term_with T.d_term_with P_term_with (sp_tw 8) := (ok_tw T 8).1
def sp_passed : Sp := fun vs H Q _ => ∃ (v vf vt : V) (pn : List (PySem.Str × Int)) (ns : List PySem.Str) (t : Tm) (fs ts : List Tm), vs = [v, vf, vt] ∧ Dv [] H v (.tuple [.tuple (pn.map prD), .tuple (ns.map .str), t.data]) ∧ Dv [] H vf (.tuple (datas fs)) ∧ Dv [] H vt (.tuple (datas ts)) ∧
  Fit ns 8 t ∧ (∀ f ∈ fs, FunV f) ∧ ns.length ≤ ts.length ∧ pn.length ≤ 100 ∧ ns.length ≤ 100 ∧ ∀ (H' : Hp) (r : V), Same H H' → Dv [] H' r (t.sub (envOf ((pn.map (·.1)).zip fs)) (envOf (ns.zip ts))).data → Q r H'
theorem ok_passed (T : Txt K mg) : FnOk P w K mg base CX0 20 T.a_passed T.d_passed P_passed sp_passed := by
  refine T.F_passed.ok sc_passed (fun vs H Q E h => by obtain ⟨v, vf, vt, pn, ns, t, fs, ts, rfl, _⟩ := h; rfl) (fun cdv A outer s H vs Q E hr h => ?_)
  refine ⟨_, (pss_cons (ps_asg (pv 0) (pg_tup (by rfl) (pgs_cons (pg_name (i := 3) sc_passed.nd rfl (Or.inl rfl)) (pgs_cons (pg_name (i := 4) sc_passed.nd rfl (Or.inl rfl)) (pgs_cons (pg_name (i := 5) sc_passed.nd rfl (Or.inl rfl)) pgs_nil)))))
    (pss_cons (Yd.ps_setDc (i := 6) (own := [("function", 9), ("name", 7), ("arity", 8)]) rfl sc_passed.nd rfl rfl (Yd.sw_trueD rfl rfl rfl (by decide +kernel)) (RZ.pi_zipA (by rfl) T.n_zip (pa_cons (pv 3) (pa_cons (pv 1) pa_nil))) (blkOk_by (own := [("function", 9), ("name", 7), ("arity", 8)]) (N := N_passed) (sc := defScope s_passed) (by decide +kernel)) (fun _ _ _ _ _ => (show PG _ _ (gTup K 2 _) from (pg_tup (by rfl) (pgs_cons (show PG _ _ (gTup K 2 _) from (pg_tup (by rfl) (pgs_cons (pg_name (i := 7) sc_passed.nd rfl (Or.inl rfl)) (pgs_cons (pg_name (i := 8) sc_passed.nd rfl (Or.inl rfl)) pgs_nil)))) (pgs_cons (pg_name (i := 9) sc_passed.nd rfl (Or.inl rfl)) pgs_nil))))) (fun _ _ _ _ _ => pts_nil) (fun _ _ _ _ _ => (pv 7)) (fun _ _ _ _ _ => (pv 9)))
    (pss_cons (Yd.ps_setDc (i := 10) (own := [("name", 7), ("task", 11)]) rfl sc_passed.nd rfl rfl (Yd.sw_trueD rfl rfl rfl (by decide +kernel)) (RZ.pi_zipA (by rfl) T.n_zip (pa_cons (pv 4) (pa_cons (pv 2) pa_nil))) (blkOk_by (own := [("name", 7), ("task", 11)]) (N := N_passed) (sc := defScope s_passed) (by decide +kernel)) (fun _ _ _ _ _ => (show PG _ _ (gTup K 2 _) from (pg_tup (by rfl) (pgs_cons (pg_name (i := 7) sc_passed.nd rfl (Or.inl rfl)) (pgs_cons (pg_name (i := 11) sc_passed.nd rfl (Or.inl rfl)) pgs_nil))))) (fun _ _ _ _ _ => pts_nil) (fun _ _ _ _ _ => (pv 7)) (fun _ _ _ _ _ => (pv 11)))
    (pss_one (ps_ret (pe_call (ok_term_with T) (hr.mono (by decide)) (by rfl) T.g_term_with T.F_term_with.kp T.b_term_with .nil pass0 (pa_cons (pv 5) (pa_cons (pv 6) (pa_cons (pv 10) pa_nil))))))))), ?_⟩
  obtain ⟨v, vf, vt, pn, ns, t, fs, ts, rfl, hv, hf, ht, hfit, hF, hN, lp, ln, q⟩ := h
  obtain ⟨a, xs, rfl, ha, _, hx⟩ := hv.tup_inv
  cases hx with
  | @cons v0 vs0 _ _ y0 hx =>
  cases hx with
  | @cons v1 vs1 _ _ y1 hx =>
  cases hx with
  | @cons v2 vs2 _ _ y2 hx =>
  cases hx
  obtain ⟨ap, zp, rfl, hap, _, hzp⟩ := y0.tup_inv
  obtain ⟨an, zn, rfl, han, _, hzn⟩ := y1.tup_inv
  obtain ⟨af, zf, rfl, haf, _, hzf⟩ := hf.tup_inv
  obtain ⟨at', zt, rfl, hat, _, hzt⟩ := ht.tup_inv
  refine ⟨_, rfl, a, _, rfl, SqT.of ha, rfl, _, _, rfl, _, _, rfl, _, _, rfl, rfl, ?_⟩
  dsimp only [gName]
  have lzp := hzp.length
  have lzf := hzf.length
  have lzn := hzn.length
  have lzt := hzt.length
  rw [List.length_map] at lzp lzn
  rw [datas_map, List.length_map] at lzf lzt
  -- functions
  refine ⟨_, rfl, _, rfl, ap, af, _, _, rfl, .inr ⟨SqT.of hap, SqT.of haf, fun D hD => ?_⟩⟩
  refine dc_it (walk_zipT (n := ((pn.map (·.1)).zip fs).length) (by rw [List.length_zip, List.length_map, lzp, lzf])) (fun i H' => ∃ kvs, Same H H' ∧ H' D = some (.dK kvs) ∧ kvs.length ≤ i ∧ EnvK [D] H' kvs (envOf (((pn.map (·.1)).zip fs).take i))) ⟨[], same_new hD, upd_same, Nat.le_refl _, fun x => .inl ⟨rfl, rfl⟩⟩ (fun i H' _ ⟨_, k, _⟩ => ⟨SqT.of (k _ _ hap), SqT.of (k _ _ haf)⟩) ?_ ?_
  · rintro i x H' H2 hi ⟨kvs, k, hDl, hl, hE⟩ ⟨T', y, z, rfl, hT, rfl, hy, hz⟩
    dsimp only [] at hy hz
    have hi' := hi
    rw [List.length_zip, List.length_map] at hi'
    obtain ⟨dy, e1, hdy⟩ := hzp.get hy
    obtain ⟨dz, e2, hdz⟩ := hzf.get hz
    have hip : i < pn.length := by omega
    have hif : i < fs.length := by omega
    rw [List.getElem?_map, List.getElem?_eq_getElem hip] at e1
    rw [datas_map, List.getElem?_map, List.getElem?_eq_getElem hif] at e2
    cases e1
    cases e2
    obtain ⟨b, ys, rfl, hb, _, hys⟩ := Dv.tup_inv (show Dv [] H y (.tuple [.str pn[i].1, .int pn[i].2]) from hdy)
    cases hys with
    | @cons w0 ws0 _ _ z0 hys =>
    cases hys with
    | @cons w1 ws1 _ _ z1 hys =>
    cases hys
    cases z0
    cases z1
    have kT := same_new (o := .tup [.ref b, z]) hT
    have hDT := kT _ _ hDl
    refine ⟨T', _, rfl, SqT.of upd_same, rfl, _, _, rfl, b, _, rfl, SqT.of (kT _ _ (k _ _ hb)), rfl, _, _, rfl, _, _, rfl, rfl, _, _, rfl, rfl, rfl, _, rfl, _, rfl, kvs, .inr pn[i].1, rfl, hDT, by rw [sizeLine_eq]; omega, putK kvs (.inr pn[i].1) z, same_put (k.trans kT) hD, upd_same, Nat.le_trans (putK_len' _ _ _) (Nat.succ_le_succ hl), ?_⟩
    have kw : Kp [D] (upd H' T' (.tup [.ref b, z])) (upd (upd H' T' (.tup [.ref b, z])) D (.dK (putK kvs (.inr pn[i].1) z))) := (Kp.refl _ _).wr (.inl List.mem_cons_self)
    have ez : ((pn.map (·.1)).zip fs)[i]? = some (pn[i].1, fs[i]) := by
      rw [List.getElem?_eq_getElem hi, List.getElem_zip, List.getElem_map]
    rw [List.take_succ, ez]
    show EnvK _ _ _ (envOf (_ ++ [_]))
    rw [envOf_snoc]
    exact ((hE.kp (Kp.of kT)).kp kw).put ((Dv_noL (fun zs e => by rw [hDT] at e; cases e) (hdz.kp (Kp.of (k.trans kT))) (tm_noL _)).kp kw)
  rintro H1 ⟨gk, k1, hD1, _, hE1⟩
  rw [List.take_length] at hE1
  replace hE1 := hE1.sub (S' := []) fun a m => nomatch m
  dsimp only [gName]
  -- tasks
  refine ⟨_, rfl, _, rfl, an, at', _, _, rfl, .inr ⟨SqT.of (k1 _ _ han), SqT.of (k1 _ _ hat), fun D2 hD2 => ?_⟩⟩
  refine dc_it (walk_zipT (n := (ns.zip ts).length) (by rw [List.length_zip, lzn, lzt])) (fun i H' => ∃ kvs, Same H1 H' ∧ H' D2 = some (.dK kvs) ∧ kvs.length ≤ i ∧ EnvK [D2] H' kvs (envOf ((ns.zip ts).take i))) ⟨[], same_new hD2, upd_same, Nat.le_refl _, fun x => .inl ⟨rfl, rfl⟩⟩ (fun i H' _ ⟨_, k, _⟩ => ⟨SqT.of (k _ _ (k1 _ _ han)), SqT.of (k _ _ (k1 _ _ hat))⟩) ?_ ?_
  · rintro i x H' H2 hi ⟨kvs, k, hDl, hl, hE⟩ ⟨T', y, z, rfl, hT, rfl, hy, hz⟩
    dsimp only [] at hy hz
    have hi' := hi
    rw [List.length_zip] at hi'
    obtain ⟨dy, e1, hdy⟩ := hzn.get hy
    obtain ⟨dz, e2, hdz⟩ := hzt.get hz
    have hip : i < ns.length := by omega
    have hif : i < ts.length := by omega
    rw [List.getElem?_map, List.getElem?_eq_getElem hip] at e1
    rw [datas_map, List.getElem?_map, List.getElem?_eq_getElem hif] at e2
    cases e1
    cases e2
    cases hdy
    have kT := same_new (o := .tup [.str ns[i], z]) hT
    have hDT := kT _ _ hDl
    refine ⟨T', _, rfl, SqT.of upd_same, rfl, _, _, rfl, _, _, rfl, rfl, rfl, _, rfl, _, rfl, kvs, .inr ns[i], rfl, hDT, by rw [sizeLine_eq]; omega, putK kvs (.inr ns[i]) z, same_put (k.trans kT) hD2, upd_same, Nat.le_trans (putK_len' _ _ _) (Nat.succ_le_succ hl), ?_⟩
    have kw : Kp [D2] (upd H' T' (.tup [.str ns[i], z])) (upd (upd H' T' (.tup [.str ns[i], z])) D2 (.dK (putK kvs (.inr ns[i]) z))) := (Kp.refl _ _).wr (.inl List.mem_cons_self)
    have ez : (ns.zip ts)[i]? = some (ns[i], ts[i]) := by
      rw [List.getElem?_eq_getElem hi, List.getElem_zip]
    rw [List.take_succ, ez]
    show EnvK _ _ _ (envOf (_ ++ [_]))
    rw [envOf_snoc]
    exact ((hE.kp (Kp.of kT)).kp kw).put ((Dv_noL (fun zs e => by rw [hDT] at e; cases e) (hdz.kp (Kp.of (k1.trans (k.trans kT)))) (tm_noL _)).kp kw)
  rintro H2 ⟨ok, k2, hD3, _, hE2⟩
  rw [List.take_length] at hE2
  replace hE2 := hE2.sub (S' := []) fun a m => nomatch m
  dsimp only [gName]
  have k12 := k1.trans k2
  refine ⟨_, rfl, _, rfl, _, rfl, v2, D, D2, t, _, _, ns, rfl, y2.kp (Kp.of k12), hfit, ⟨gk, k2 _ _ hD1, hE1.kp (Kp.of k2)⟩, ⟨ok, hD3, hE2⟩, fun x f e => ?_, fun x hx => ?_, fun H3 r k3 hr => q H3 r (k12.trans k3) hr⟩
  · obtain ⟨p, hp, _, rfl⟩ := envOf_some e
    exact hF _ (List.of_mem_zip hp).2
  · exact envOf_mem (zip_has hx hN)
end
end K19
set_option Elab.async false
set_option linter.all false
set_option maxRecDepth 100000
set_option maxHeartbeats 4000000
/-! k19: the law's own putting in. -/
namespace K19
open PySem PySem.Spec PyProof.Rows L2 Zg Zr Zd Zv
def isTm : PyData → Bool
  | .tuple (.str _ :: _) => true
  | _ => false
theorem tm_isTm (t : Tm) : isTm t.data = true := by cases t <;> rfl
/-- what stands in a term's places -/
def eD : PyData ⊕ Tm → PyData
  | .inl d => d
  | .inr t => t.data
def eS (gv gg : PySem.Str → Option Tm) : PyData ⊕ Tm → PyData
  | .inl d => d
  | .inr t => (t.sub gv gg).data
def EFit (N : List PySem.Str) (d : Nat) : PyData ⊕ Tm → Prop
  | .inl d => isTm d = false ∧ noL d = true
  | .inr t => Fit N d t
theorem inV_str (x : PySem.Str) (L : List PySem.Str) : inV (.str x) (L.map V.str) = decide (x ∈ L) := by
  unfold inV
  rw [List.any_map, Bool.eq_iff_iff, decide_eq_true_iff, List.any_eq_true]
  constructor
  · rintro ⟨y, hy, e⟩
    have e2 : (y == x) = true := e
    rw [beq_iff_eq] at e2
    exact e2 ▸ hy
  · intro h
    exact ⟨x, h, by show (x == x) = true; rw [beq_iff_eq]⟩
/-- what kind of term -/
theorem tm_kind {N : List PySem.Str} {d : Nat} {t : Tm} (h : Fit N d t) {gv gg : PySem.Str → Option Tm} : (∃ x, t = .go x ∧ x ∈ N) ∨ (∃ x, t = .given x) ∨
    (∃ b x fs ts m, t = .call b x fs ts ∧ d = m + 1 ∧ Nm x ∧ fs.length ≤ 2 ∧ ts.length ≤ 3 ∧ (∀ t ∈ fs, Fit N m t) ∧ ∀ t ∈ ts, Fit N m t) ∨
    ∃ (w0 : PySem.Str) (els : List (PyData ⊕ Tm)), t.data = .tuple (els.map eD) ∧ (t.sub gv gg).data = .tuple (els.map (eS gv gg)) ∧ els.length ≤ 100 ∧ (∀ e ∈ els, match e with | .inl d0 => isTm d0 = false ∧ noL d0 = true | .inr u => ∃ m, d = m + 1 ∧ Fit N m u) ∧ w0 ≠ "go" ∧ w0 ≠ "given" ∧ w0 ∉ (["call", "part"] : List PySem.Str) ∧ ∃ els0, els = .inl (.str w0) :: els0 := by
  have intsOk : ∀ s : List Int, isTm (.tuple (s.map .int)) = false ∧ noL (.tuple (s.map .int)) = true := fun s => by
    refine ⟨by cases s <;> rfl, ?_⟩
    exact noLAll_iff.mpr fun d hd => by
      obtain ⟨i, _, rfl⟩ := List.mem_map.mp hd
      rfl
  cases h with
  | @leaf _ w0 hw =>
    refine .inr (.inr (.inr ⟨w0, [.inl (.str w0)], rfl, by rw [Tm.sub]; rfl, by show 1 ≤ 100; decide, fun e m => ?_, ?_, ?_, ?_, [], rfl⟩))
    · rw [List.mem_singleton] at m
      subst m
      exact ⟨rfl, rfl⟩
    · exact fun z => absurd (z ▸ hw) (by decide +kernel)
    · exact fun z => absurd (z ▸ hw) (by decide +kernel)
    · exact (leaf_words w0 hw).2.2.2.2.2
  | @go _ x hx hn => exact .inl ⟨x, rfl, hx⟩
  | @given _ x hn => exact .inr (.inl ⟨x, rfl⟩)
  | @act m a t hn ht =>
    refine .inr (.inr (.inr ⟨"do", [.inl (.str "do"), .inl (.str a), .inr t], rfl, by rw [Tm.sub]; rfl, by show 3 ≤ 100; decide, fun e m' => ?_, by decide +kernel, by decide +kernel, by decide +kernel, _, rfl⟩))
    simp only [List.mem_cons, List.not_mem_nil, or_false] at m'
    rcases m' with rfl | rfl | rfl
    · exact ⟨rfl, rfl⟩
    · exact ⟨rfl, rfl⟩
    · exact ⟨m, rfl, ht⟩
  | @test m s y n h1 h2 h3 h4 =>
    refine .inr (.inr (.inr ⟨"test", [.inl (.str "test"), .inl (.tuple (s.map .int)), .inr y, .inr n], rfl, by rw [Tm.sub]; rfl, by show 4 ≤ 100; decide, fun e m' => ?_, by decide +kernel, by decide +kernel, by decide +kernel, _, rfl⟩))
    simp only [List.mem_cons, List.not_mem_nil, or_false] at m'
    rcases m' with rfl | rfl | rfl | rfl
    · exact ⟨rfl, rfl⟩
    · exact intsOk s
    · exact ⟨m, rfl, h3⟩
    · exact ⟨m, rfl, h4⟩
  | @pick m ts h1 h2 h3 =>
    refine .inr (.inr (.inr ⟨"pick", .inl (.str "pick") :: ts.map .inr, ?_, ?_, by rw [List.length_cons, List.length_map]; omega, fun e m' => ?_, by decide +kernel, by decide +kernel, by decide +kernel, _, rfl⟩))
    · show PyData.tuple (.str "pick" :: datas ts) = _
      rw [datas_map, List.map_cons, List.map_map]
      rfl
    · rw [Tm.sub]
      show PyData.tuple (.str "pick" :: datas (subs gv gg ts)) = _
      rw [datas_map, subs_map, List.map_cons, List.map_map, List.map_map]
      rfl
    · rcases List.mem_cons.mp m' with rfl | m'
      · exact ⟨rfl, rfl⟩
      · obtain ⟨u, hu, rfl⟩ := List.mem_map.mp m'
        exact ⟨m, rfl, h3 u hu⟩
  | @call m b x fs ts hn h1 h2 h3 h4 => exact .inr (.inr (.inl ⟨b, x, fs, ts, m, rfl, rfl, hn, h1, h2, h3, h4⟩))
section
variable {P : Program} {w : World} {K : PySem.W.Frag} {mg : PySem.Str → Option Value} {base : Heap}
def sp_isterm : Sp := fun vs H Q _ => ∃ (v : V) (d : PyData), vs = [v] ∧ Dv [] H v d ∧ ∀ (H' : Hp), Same H H' → Q (.bl (isTm d)) H'
theorem ok_is_term (T : Txt K mg) : FnOk P w K mg base CX0 1 T.a_is_term T.d_is_term P_is_term sp_isterm := by
  refine T.F_is_term.ok sc_is_term (fun vs H Q E h => by obtain ⟨v, d, rfl, _⟩ := h; rfl) (fun cdv A outer s H vs Q E hr h => ?_)
  refine ⟨_, (pss_one (ps_ret (pe_and (pe_callB call_isi (by rfl) T.n_isinstance (by decide +kernel) (pa_cons (pv 0) (pa_cons (pe_bltn (v := .ty "tuple") (u := .type "tuple") (by rfl) T.n_tuple (by decide +kernel) rfl) pa_nil))) (pe_and (pe_cmpR (op_neE (Nat.lt_of_le_of_lt (Nat.le_add_right _ 64) hr.units)) (pv 0) (pe_tup pa_nil) (nomark _)) (pe_one (pe_callB call_isi (by rfl) T.n_isinstance (by decide +kernel) (pa_cons (pe_ix ix_tup (pv 0) pe_int (fun _ _ => rfl)) (pa_cons (pe_bltn (v := .ty "str") (u := .type "str") (by rfl) T.n_str (by decide +kernel) rfl) pa_nil)))))))), ?_⟩
  obtain ⟨v, d, rfl, hd, q⟩ := h
  have qF : isTm d = false → ∀ H', Same H H' → Q (.bl false) H' := fun e H' k => by
    have q' := q H' k
    rw [e] at q'
    exact q'
  refine ⟨_, rfl, v, .ty "tuple", _, _, _, rfl, .ty _, hd.ty, kit_all K _ (by decide) _ (tyD_mem d), ?_⟩
  refine ⟨_, rfl, ite2 (fun e => ?_) (fun e => ?_)⟩
  · obtain ⟨a, xs, ds, rfl, rfl, ha, _, hx⟩ := hd.tuple e
    refine ⟨_, rfl, by show 0 ≤ sizeLine; decide, fun p hp => ⟨a, p, xs, rfl, rfl, .inr ⟨SqT.of ((same_new hp) _ _ ha), SqT.of upd_same⟩, _, rfl, ?_⟩⟩
    have kp := same_new (o := .tup []) hp
    cases hx with
    | nil => exact ite2 (fun e => nomatch e) (fun _ => qF rfl _ kp)
    | @cons v0 vs0 d0 ds0 y0 hx =>
      refine ite2 (fun _ => ?_) (fun e => absurd rfl e)
      refine ⟨_, rfl, a, _, 0, _, rfl, rfl, SqT.of (kp _ _ ha), atI_nat (j := 0) rfl, v0, .ty "str", _, _, _, rfl, .ty _, (y0.kp (Kp.of kp)).ty, kit_all K _ (by decide) _ (tyD_mem d0), ?_⟩
      have q' := q _ kp
      have e2 : isTm (.tuple (d0 :: ds0)) = isB "str" (tyD d0) := by cases d0 <;> rfl
      rw [e2] at q'
      exact q'
  · refine qF ?_ H (Same.refl H)
    cases d with
    | tuple l => exact absurd rfl e
    | _ => rfl
theorem ok_put_of (T : Txt K mg) {d : Nat} {spP : Sp} (hP : FnOk P w K mg base CX0 (d + 1) T.a_put T.d_put P_put spP) (eP : ∀ m, d = m + 1 → spP = sp_tw m) : FnOk P w K mg base CX0 (d + 2) T.a_put T.d_put P_put (sp_tw d) := by
  refine T.F_put.ok sc_put (fun vs H Q E h => by obtain ⟨v, g, o, t, gv, gg, N, rfl, _⟩ := h; rfl) (fun cdv A outer s H vs Q E hr h => ?_)
  refine ⟨_, (pss_cons (ps_if (pt_cmpR op_eq (pe_ix ix_tup (pv 0) pe_int (fun _ _ => rfl)) pe_str (nomark _)) (pss_one (ps_ret (pe_dget2 (hu_of hr) (pv 2) (pe_ix ix_tup (pv 0) pe_int (fun _ _ => rfl)) (pv 0) ⟨by rfl, by rfl, by rfl, by rfl⟩))) pss_nil)
    (pss_cons (ps_if (pt_cmpR op_eq (pe_ix ix_tup (pv 0) pe_int (fun _ _ => rfl)) pe_str (nomark _)) (pss_one (ps_ret (pe_dget2 (hu_of hr) (pv 1) (pe_ix ix_tup (pv 0) pe_int (fun _ _ => rfl)) (pv 0) ⟨by rfl, by rfl, by rfl, by rfl⟩))) pss_nil)
    (pss_cons (ps_if (pt_cmpR op_notIn_seq (pe_ix ix_tup (pv 0) pe_int (fun _ _ => rfl)) (pe_tup (pa_cons pe_str (pa_cons pe_str pa_nil))) (by rfl)) (pss_one (ps_ret (pe_callTy call_tuple_of (by rfl) T.n_tuple (by decide +kernel) (pa_cons (pe_lc (own := [("one", 3)]) rfl sc_put.nd (pi_tup (pv 0)) (blkOk_by (own := [("one", 3)]) (N := N_put) (sc := defScope s_put) (by decide +kernel)) (fun _ _ _ _ _ => (pg_name (i := 3) sc_put.nd rfl (Or.inl rfl))) (fun _ _ _ _ _ => pts_nil) (fun _ _ _ _ _ => (pe_ifExp (pt_val (pe_call (ok_is_term T) (hr.mono (by omega)) (by rfl) T.g_is_term T.F_is_term.kp T.b_is_term .nil pass0 (pa_cons (pv 3) pa_nil))) (pe_call hP (hr.mono (by omega)) (by rfl) T.g_put T.F_put.kp T.b_put .nil pass0 (pa_cons (pv 3) (pa_cons (pv 1) (pa_cons (pv 2) pa_nil)))) (pv 3)))) pa_nil)))) pss_nil)
    (pss_cons (ps_set (i := 4) sc_put.nd rfl (Or.inl rfl) (pe_callTy call_tuple_of (by rfl) T.n_tuple (by decide +kernel) (pa_cons (pe_lc (own := [("one", 3)]) rfl sc_put.nd (pi_tup (pe_ix ix_tup (pv 0) pe_int (fun _ _ => rfl))) (blkOk_by (own := [("one", 3)]) (N := N_put) (sc := defScope s_put) (by decide +kernel)) (fun _ _ _ _ _ => (pg_name (i := 3) sc_put.nd rfl (Or.inl rfl))) (fun _ _ _ _ _ => pts_nil) (fun _ _ _ _ _ => (pe_call hP (hr.mono (by omega)) (by rfl) T.g_put T.F_put.kp T.b_put .nil pass0 (pa_cons (pv 3) (pa_cons (pv 1) (pa_cons (pv 2) pa_nil)))))) pa_nil)))
    (pss_cons (ps_set (i := 5) sc_put.nd rfl (Or.inl rfl) (pe_callTy call_tuple_of (by rfl) T.n_tuple (by decide +kernel) (pa_cons (pe_lc (own := [("one", 3)]) rfl sc_put.nd (pi_tup (pe_ix ix_tup (pv 0) pe_int (fun _ _ => rfl))) (blkOk_by (own := [("one", 3)]) (N := N_put) (sc := defScope s_put) (by decide +kernel)) (fun _ _ _ _ _ => (pg_name (i := 3) sc_put.nd rfl (Or.inl rfl))) (fun _ _ _ _ _ => pts_nil) (fun _ _ _ _ _ => (pe_call hP (hr.mono (by omega)) (by rfl) T.g_put T.F_put.kp T.b_put .nil pass0 (pa_cons (pv 3) (pa_cons (pv 1) (pa_cons (pv 2) pa_nil)))))) pa_nil)))
    (pss_cons (ps_set (i := 6) sc_put.nd rfl (Or.inl rfl) (pe_ifExp (pt_cmpR op_eq (pe_ix ix_tup (pv 0) pe_int (fun _ _ => rfl)) pe_str (nomark _)) (pe_dget1 (hu_of hr) (pv 1) (pe_ix ix_tup (pv 0) pe_int (fun _ _ => rfl)) ⟨by rfl, by rfl, by rfl, by rfl⟩) pe_non))
    (pss_cons (ps_if (pt_cmpR op_isN (pv 6) pe_non (nomark _)) (pss_one (ps_ret (pe_tup (pa_cons (pe_ix ix_tup (pv 0) pe_int (fun _ _ => rfl)) (pa_cons (pe_ix ix_tup (pv 0) pe_int (fun _ _ => rfl)) (pa_cons (pv 4) (pa_cons (pv 5) pa_nil))))))) pss_nil)
    (pss_one (ps_ret (pe_op op_catA (pe_tup (pa_cons pe_str (pa_cons (pe_ix ix_tup (pv 6) pe_int (fun _ _ => rfl)) pa_nil))) (pe_ifExp (pt_cmpR op_eq (pe_ix ix_tup (pv 6) pe_int (fun _ _ => rfl)) pe_str (nomark _)) (pe_tup (pa_cons (pe_tup pa_nil) (pa_cons (pv 5) pa_nil))) (pe_tup (pa_cons (pe_ix ix_tup (pv 6) pe_int (fun _ _ => rfl)) (pa_cons (pe_op op_catA (pe_ix ix_tup (pv 6) pe_int (fun _ _ => rfl)) (pv 5)) pa_nil)))))))))))))), ?_⟩
  obtain ⟨v, g, o, t, gv, gg, N, rfl, hv, hfit, hg, ho, hF, hNN, q⟩ := h
  rcases tm_kind (gv := gv) (gg := gg) hfit with ⟨x, rfl, hx⟩ | ⟨x, rfl⟩ | ⟨b, x, fs, ts, m, rfl, rfl, hn, h1, h2, h3, h4⟩ | ⟨w0, els, e0, ht, hl, he, n1, n2, n3⟩
  · -- go
    obtain ⟨a, xs, rfl, ha, _, hx'⟩ := Dv.tup_inv (show Dv [] H v (.tuple [.str "go", .str x]) from hv)
    cases hx' with
    | @cons v0 vs0 _ _ y0 hx' =>
    cases hx' with
    | @cons v1 vs1 _ _ y1 hx' =>
    cases hx'
    cases y0
    cases y1
    refine ⟨_, rfl, a, _, 0, _, rfl, rfl, SqT.of ha, atI_nat (j := 0) rfl, rfl, _, rfl, ?_⟩
    rw [dec_str]
    refine ite2 (fun _ => ?_) (fun e => absurd (by decide +kernel) e)
    obtain ⟨kvs, hk, hkx⟩ := ho
    refine ⟨_, rfl, o, rfl, .inl ⟨kvs, .inl hk⟩, _, rfl, a, _, 1, _, rfl, rfl, SqT.of ha, atI_nat (j := 1) rfl, _, rfl, _, DGet.k (k := .inr x) hk, ?_⟩
    rcases hkx x with ⟨e1, e2⟩ | ⟨vt, t, e1, e2, ht⟩
    · exact absurd e2 (hNN x hx)
    · rw [e1]
      refine q H _ (Same.refl H) ?_
      rw [Tm.sub, e2]
      exact ht
  · -- given
    obtain ⟨a, xs, rfl, ha, _, hx'⟩ := Dv.tup_inv (show Dv [] H v (.tuple [.str "given", .str x]) from hv)
    cases hx' with
    | @cons v0 vs0 _ _ y0 hx' =>
    cases hx' with
    | @cons v1 vs1 _ _ y1 hx' =>
    cases hx'
    cases y0
    cases y1
    refine ⟨_, rfl, a, _, 0, _, rfl, rfl, SqT.of ha, atI_nat (j := 0) rfl, rfl, _, rfl, ?_⟩
    rw [dec_str]
    refine ite2 (fun e => absurd e (by decide +kernel)) (fun _ => ?_)
    refine ⟨_, rfl, a, _, 0, _, rfl, rfl, SqT.of ha, atI_nat (j := 0) rfl, rfl, _, rfl, ?_⟩
    rw [dec_str]
    refine ite2 (fun _ => ?_) (fun e => absurd (by decide +kernel) e)
    obtain ⟨kvs, hk, hkx⟩ := hg
    refine ⟨_, rfl, g, rfl, .inl ⟨kvs, .inl hk⟩, _, rfl, a, _, 1, _, rfl, rfl, SqT.of ha, atI_nat (j := 1) rfl, _, rfl, _, DGet.k (k := .inr x) hk, ?_⟩
    rcases hkx x with ⟨e1, e2⟩ | ⟨vt, t, e1, e2, ht⟩
    · rw [e1]
      refine q H _ (Same.refl H) ?_
      rw [Tm.sub, e2]
      exact hv
    · rw [e1]
      refine q H _ (Same.refl H) ?_
      rw [Tm.sub, e2]
      exact ht
  · -- call, part
    have eS' := eP m rfl
    subst eS'
    obtain ⟨a, xs, rfl, ha, _, hx'⟩ := Dv.tup_inv (show Dv [] H v (.tuple [.str (wordC b), .str x, .tuple (datas fs), .tuple (datas ts)]) from hv)
    cases hx' with
    | @cons v0 vs0 _ _ y0 hx' =>
    cases hx' with
    | @cons v1 vs1 _ _ y1 hx' =>
    cases hx' with
    | @cons v2 vs2 _ _ y2 hx' =>
    cases hx' with
    | @cons v3 vs3 _ _ y3 hx' =>
    cases hx'
    cases y0
    cases y1
    obtain ⟨a2, zs2, rfl, hz2, _, y2'⟩ := y2.tup_inv
    obtain ⟨a3, zs3, rfl, hz3, _, y3'⟩ := y3.tup_inv
    refine ⟨_, rfl, a, _, 0, _, rfl, rfl, SqT.of ha, atI_nat (j := 0) rfl, rfl, _, rfl, ?_⟩
    rw [dec_str]
    refine ite2 (fun e => absurd e (by cases b <;> decide +kernel)) (fun _ => ?_)
    refine ⟨_, rfl, a, _, 0, _, rfl, rfl, SqT.of ha, atI_nat (j := 0) rfl, rfl, _, rfl, ?_⟩
    rw [dec_str]
    refine ite2 (fun e => absurd e (by cases b <;> decide +kernel)) (fun _ => ?_)
    refine ⟨_, rfl, a, _, 0, _, rfl, rfl, SqT.of ha, atI_nat (j := 0) rfl, by show 2 ≤ sizeLine; decide, fun p0 hp0 => ⟨p0, _, rfl, .inr (SqT.of upd_same), rfl, rfl, _, rfl, ?_⟩⟩
    have k0 := same_new (o := .tup [V.str "call", .str "part"]) hp0
    show if (!inV (.str (wordC b)) ((["call", "part"] : List PySem.Str).map V.str)) = true then _ else _
    rw [inV_str, decide_eq_true (by cases b <;> decide +kernel : wordC b ∈ (["call", "part"] : List PySem.Str))]
    refine iteF ?_
    dsimp only [tNext]
    generalize upd H p0 (.tup [V.str "call", .str "part"]) = H0 at k0 ⊢
    refine ⟨_, rfl, a, _, 2, _, rfl, rfl, SqT.of (k0 _ _ ha), atI_nat (j := 2) rfl, a2, rfl, ⟨_, SqT.of (k0 _ _ hz2)⟩, fun D hD => ?_⟩
    refine lc_terms (d := m) (N := N) (k0 _ _ hz2) (y2'.kp (Kp.of k0)) h3 (by omega) hD (hg.same k0) (ho.same k0) hF hNN (fun _ => rfl) (fun _ => rfl) (fun _ => rfl) (fun _ => rfl) fun H1 ys k1 hD1 hy => ?_
    refine ⟨D, ys, rfl, .inl ⟨SqL.of hD1, fun p hp => ?_⟩⟩
    dsimp only [gName]
    have kp := same_new (o := .tup ys) hp
    have k2 := k0.trans (k1.trans kp)
    refine ⟨_, rfl, a, _, 3, _, rfl, rfl, SqT.of (k2 _ _ ha), atI_nat (j := 3) rfl, a3, rfl, ⟨_, SqT.of (k2 _ _ hz3)⟩, fun D3 hD3 => ?_⟩
    refine lc_terms (d := m) (N := N) (k2 _ _ hz3) (y3'.kp (Kp.of k2)) h4 (by omega) hD3 (hg.same k2) (ho.same k2) hF hNN (fun _ => rfl) (fun _ => rfl) (fun _ => rfl) (fun _ => rfl) fun H3 zs k3 hD4 hz => ?_
    refine ⟨D3, zs, rfl, .inl ⟨SqL.of hD4, fun p3 hp3 => ?_⟩⟩
    dsimp only [gName]
    have kp3 := same_new (o := .tup zs) hp3
    have k4 := k2.trans (k3.trans kp3)
    have hpp : (upd H3 p3 (.tup zs)) p = some (.tup ys) := kp3 _ _ (k3 _ _ upd_same)
    have hp33 : (upd H3 p3 (.tup zs)) p3 = some (.tup zs) := upd_same
    have hy' := (hy.kp (Kp.of kp)).kp (Kp.of (S := []) (k3.trans kp3))
    have hz' := hz.kp (Kp.of (S := []) kp3)
    generalize upd H3 p3 (.tup zs) = H4 at k4 hpp hp33 hy' hz' ⊢
    have ha4 := k4 _ _ ha
    obtain ⟨gkv, hgk, hgx⟩ := hg.same k4
    have q1 : (Tm.call b x fs ts).sub gv gg = if b = true then (match gv x with
        | some f => callOf f (subs gv gg ts)
        | none => .call b x (subs gv gg fs) (subs gv gg ts)) else .call b x (subs gv gg fs) (subs gv gg ts) := by
      rw [Tm.sub]
      try (cases b <;> cases gv x <;> rfl)
    rw [q1] at q
    have lz := hz'.length
    rw [datas_map, List.length_map, subs_map, List.length_map] at lz
    have last : (∀ (H' : Hp) (r : V), Same H H' → Dv [] H' r (Tm.call b x (subs gv gg fs) (subs gv gg ts)).data → Q r H') → ∀ (p9 : Addr), H4 p9 = none → Q (.ref p9) (upd H4 p9 (.tup [.str (wordC b), .str x, .ref p, .ref p3])) := by
      intro q p9 hp9
      have k9 := same_new (o := .tup [.str (wordC b), .str x, .ref p, .ref p3]) hp9
      refine q _ _ (k4.trans k9) ?_
      exact .tup upd_same (fun m => nomatch m) (.cons (.str _) (.cons (.str _) (.cons (.tup (k9 _ _ hpp) (fun m => nomatch m) (hy'.kp (Kp.of k9))) (.cons (.tup (k9 _ _ hp33) (fun m => nomatch m) (hz'.kp (Kp.of k9))) .nil))))
    refine ⟨_, rfl, a, _, 0, _, rfl, rfl, SqT.of ha4, atI_nat (j := 0) rfl, rfl, _, rfl, ?_⟩
    rw [dec_str]
    cases b with
    | false =>
      refine ite2 (fun e => absurd e (by decide +kernel)) (fun _ => ?_)
      dsimp only [gName]
      refine ⟨_, rfl, rfl, _, rfl, ?_⟩
      refine ite2 (fun _ => ?_) (fun e => absurd rfl e)
      exact ⟨_, rfl, a, _, 0, _, rfl, rfl, SqT.of ha4, atI_nat (j := 0) rfl, _, rfl, a, _, 1, _, rfl, rfl, SqT.of ha4, atI_nat (j := 1) rfl, _, rfl, _, rfl, by show 4 ≤ sizeLine; decide, last q⟩
    | true =>
      rw [if_pos rfl] at q
      refine ite2 (fun _ => ?_) (fun e => absurd (by decide +kernel) e)
      refine ⟨_, rfl, g, rfl, .inl ⟨gkv, .inl hgk⟩, _, rfl, a, _, 1, _, rfl, rfl, SqT.of ha4, atI_nat (j := 1) rfl, _, DGet.k (k := .inr x) hgk, ?_⟩
      rcases hgx x with ⟨e1, e2⟩ | ⟨vf, f, e1, e2, hvf⟩
      · rw [e1]
        rw [e2] at q
        dsimp only [gName]
        refine ⟨_, rfl, rfl, _, rfl, ?_⟩
        refine ite2 (fun _ => ?_) (fun e => absurd rfl e)
        exact ⟨_, rfl, a, _, 0, _, rfl, rfl, SqT.of ha4, atI_nat (j := 0) rfl, _, rfl, a, _, 1, _, rfl, rfl, SqT.of ha4, atI_nat (j := 1) rfl, _, rfl, _, rfl, by show 4 ≤ sizeLine; decide, last q⟩
      · rw [e1]
        rw [e2] at q
        dsimp only [gName]
        rcases hF x f e2 with ⟨x', rfl⟩ | ⟨x', fs0, ts0, rfl, hl0⟩
        · obtain ⟨b, ws, rfl, hb, _, hw⟩ := Dv.tup_inv (show Dv [] H4 vf (.tuple [.str "given", .str x']) from hvf)
          cases hw with
          | @cons w0 ws0 _ _ w0h hw =>
          cases hw with
          | @cons w1 ws1 _ _ w1h hw =>
          cases hw
          cases w0h
          cases w1h
          refine ⟨_, rfl, rfl, _, rfl, ?_⟩
          refine ite2 (fun e => nomatch e) (fun _ => ?_)
          refine ⟨_, rfl, b, _, 1, _, rfl, rfl, SqT.of hb, atI_nat (j := 1) rfl, by show 2 ≤ sizeLine; decide, fun p5 hp5 => ?_⟩
          have k5 := same_new (o := .tup [.str "call", .str x']) hp5
          refine ⟨_, rfl, b, _, 0, _, rfl, rfl, SqT.of (k5 _ _ hb), atI_nat (j := 0) rfl, rfl, _, rfl, ?_⟩
          rw [dec_str]
          refine ite2 (fun _ => ?_) (fun e => absurd (by decide +kernel) e)
          refine ⟨by show 0 ≤ sizeLine; decide, fun p6 hp6 => ⟨_, rfl, by show 2 ≤ sizeLine; decide, fun p7 hp7 => ?_⟩⟩
          have k6 := same_new (o := .tup []) hp6
          have k7 := same_new (o := .tup [.ref p6, .ref p3]) hp7
          refine cat_any (S := []) (fun a m => nomatch m) (k7 _ _ (k6 _ _ upd_same)) (fun m => nomatch m) upd_same (fun m => nomatch m) (by show 2 + 2 ≤ 10000; decide) fun H8 p8 k8 hp8 _ => ?_
          have k78 := k7.trans k8
          have k58 := k5.trans (k6.trans k78)
          refine q H8 _ (k4.trans k58) ?_
          exact .tup hp8 (fun m => nomatch m) (.cons (.str _) (.cons (.str _) (.cons (.tup (k78 _ _ upd_same) (fun m => nomatch m) .nil) (.cons (.tup (k58 _ _ hp33) (fun m => nomatch m) (hz'.kp (Kp.of k58))) .nil))))
        · obtain ⟨b, ws, rfl, hb, _, hw⟩ := Dv.tup_inv (show Dv [] H4 vf (.tuple [.str "part", .str x', .tuple (datas fs0), .tuple (datas ts0)]) from hvf)
          cases hw with
          | @cons w0 ws0 _ _ w0h hw =>
          cases hw with
          | @cons w1 ws1 _ _ w1h hw =>
          cases hw with
          | @cons w2 ws2 _ _ w2h hw =>
          cases hw with
          | @cons w3 ws3 _ _ w3h hw =>
          cases hw
          cases w0h
          cases w1h
          obtain ⟨a5, zz, rfl, h5, _, hzz⟩ := w3h.tup_inv
          have lzz := hzz.length
          rw [datas_map, List.length_map] at lzz
          refine ⟨_, rfl, rfl, _, rfl, ?_⟩
          refine ite2 (fun e => nomatch e) (fun _ => ?_)
          refine ⟨_, rfl, b, _, 1, _, rfl, rfl, SqT.of hb, atI_nat (j := 1) rfl, by show 2 ≤ sizeLine; decide, fun p5 hp5 => ?_⟩
          have k5 := same_new (o := .tup [.str "call", .str x']) hp5
          refine ⟨_, rfl, b, _, 0, _, rfl, rfl, SqT.of (k5 _ _ hb), atI_nat (j := 0) rfl, rfl, _, rfl, ?_⟩
          rw [dec_str]
          refine ite2 (fun e => absurd e (by decide +kernel)) (fun _ => ?_)
          refine ⟨_, rfl, b, _, 2, _, rfl, rfl, SqT.of (k5 _ _ hb), atI_nat (j := 2) rfl, _, rfl, b, _, 3, _, rfl, rfl, SqT.of (k5 _ _ hb), atI_nat (j := 3) rfl, _, rfl, ?_⟩
          refine cat_any (S := []) (fun a m => nomatch m) (k5 _ _ h5) (fun m => nomatch m) (k5 _ _ hp33) (fun m => nomatch m) (by omega) fun H6 p6 k6 hp6 _ => ⟨by show 2 ≤ sizeLine; decide, fun p7 hp7 => ?_⟩
          have k7 := same_new (o := .tup [w2, .ref p6]) hp7
          refine cat_any (S := []) (fun a m => nomatch m) (k7 _ _ (k6 _ _ upd_same)) (fun m => nomatch m) upd_same (fun m => nomatch m) (by show 2 + 2 ≤ 10000; decide) fun H8 p8 k8 hp8 _ => ?_
          have k78 := k7.trans k8
          have k58 := k5.trans (k6.trans k78)
          refine q H8 _ (k4.trans k58) ?_
          refine .tup hp8 (fun m => nomatch m) (.cons (.str _) (.cons (.str _) (.cons (w2h.kp (Kp.of k58)) (.cons (.tup (k78 _ _ hp6) (fun m => nomatch m) ?_) .nil))))
          rw [datas_append]
          exact (hzz.kp (Kp.of k58)).append (hz'.kp (Kp.of k58))
  · -- others
    obtain ⟨a, xs, rfl, ha, _, hx⟩ := Dv.tup_inv (show Dv [] H v (.tuple (els.map eD)) from e0 ▸ hv)
    obtain ⟨els0, rfl⟩ : ∃ els0, els = .inl (.str w0) :: els0 := n3.2
    have n3 := n3.1
    cases hx with
    | @cons v0 xs _ _ y0 hx =>
    cases y0
    have hx : DvAll [] H (.str w0 :: xs) ((.inl (.str w0) :: els0).map eD) := .cons (.str w0) hx
    refine ⟨_, rfl, a, _, 0, _, rfl, rfl, SqT.of ha, atI_nat (j := 0) rfl, rfl, _, rfl, ?_⟩
    rw [dec_str]
    refine ite2 (fun e => absurd (beq_iff_eq.mp e) n1) (fun _ => ?_)
    refine ⟨_, rfl, a, _, 0, _, rfl, rfl, SqT.of ha, atI_nat (j := 0) rfl, rfl, _, rfl, ?_⟩
    rw [dec_str]
    refine ite2 (fun e => absurd (beq_iff_eq.mp e) n2) (fun _ => ?_)
    refine ⟨_, rfl, a, _, 0, _, rfl, rfl, SqT.of ha, atI_nat (j := 0) rfl, by show 2 ≤ sizeLine; decide, fun p0 hp0 => ⟨p0, _, rfl, .inr (SqT.of upd_same), rfl, rfl, _, rfl, ?_⟩⟩
    have k0 := same_new (o := .tup [V.str "call", .str "part"]) hp0
    show if (!inV (.str w0) ((["call", "part"] : List PySem.Str).map V.str)) = true then _ else _
    rw [inV_str, decide_eq_false n3]
    refine iteT ?_
    generalize upd H p0 (.tup [V.str "call", .str "part"]) = H0 at k0 ⊢
    refine ⟨_, rfl, a, rfl, ⟨_, SqT.of (k0 _ _ ha)⟩, fun D hD => ?_⟩
    have hxl := hx.length
    rw [List.length_map] at hxl
    refine lc_tup (K := K) (a := a) (xs := .str w0 :: xs) (fun i H' => ∃ ys, Same H0 H' ∧ H' D = some (.lst ys) ∧ DvAll [D] H' ys (((.inl (.str w0) :: els0 : List (PyData ⊕ Tm)).take i).map (eS gv gg)) ∧ ys.length ≤ i) ⟨[], same_new hD, upd_same, .nil, Nat.le_refl _⟩ (fun i H' _ ⟨_, p, _⟩ => SqT.of (p _ _ (k0 _ _ ha))) ?_ ?_
    · rintro i x H' hi ⟨ys, k, hDl, hys, hyl⟩
      have hil := (List.getElem?_eq_some_iff.mp hi).1
      obtain ⟨d', hdi, hdx⟩ := hx.get hi
      rw [List.getElem?_map] at hdi
      cases hte : (.inl (.str w0) :: els0 : List (PyData ⊕ Tm))[i]? with
      | none => rw [hte] at hdi; cases hdi
      | some e =>
      rw [hte] at hdi
      cases hdi
      have hm := List.mem_of_getElem? hte
      have fin : ∀ (H2 : Hp) (r : V), Same H' H2 → Dv [] H2 r (eS gv gg e) → noL (eS gv gg e) = true → ∃ acc, H2 D = some (.lst acc) ∧ acc.length < sizeLine ∧ ∃ ys, Same H0 (upd H2 D (.lst (acc ++ [r]))) ∧ (upd H2 D (.lst (acc ++ [r]))) D = some (.lst ys) ∧ DvAll [D] (upd H2 D (.lst (acc ++ [r]))) ys (((.inl (.str w0) :: els0 : List (PyData ⊕ Tm)).take (i + 1)).map (eS gv gg)) ∧ ys.length ≤ i + 1 := by
        intro H2 r k2 hr hn
        have kk : Kp [D] H2 (upd H2 D (.lst (ys ++ [r]))) := (Kp.refl _ _).wr (.inl List.mem_cons_self)
        refine ⟨ys, k2 _ _ hDl, by rw [sizeLine_eq]; omega, ys ++ [r], same_put (k.trans k2) hD, upd_same, ?_, by rw [List.length_append, List.length_singleton]; omega⟩
        rw [List.take_succ, hte, List.map_append]
        exact ((hys.kp (Kp.of k2)).kp kk).append (.cons ((Dv_noL (fun zs z => by rw [k2 _ _ hDl] at z; cases z) hr hn).kp kk) .nil)
      have hxx := (hdx.kp (Kp.of k0)).kp (Kp.of k)
      refine ⟨rfl, _, rfl, x, eD e, rfl, hxx, fun H2 k2 => ⟨_, rfl, ?_⟩⟩
      have hee := he e hm
      cases e with
      | inl d0 =>
        have e1 : isTm (eD (.inl d0)) = false := hee.1
        rw [e1]
        refine iteF ?_
        exact ⟨_, rfl, fin H2 x k2 (hxx.kp (Kp.of k2)) hee.2⟩
      | inr u =>
        have e1 : isTm (eD (.inr u)) = true := tm_isTm u
        rw [e1]
        refine iteT ?_
        obtain ⟨m, e2, hu⟩ := hee
        have eS' := eP m e2
        subst eS'
        have kk := k0.trans (k.trans k2)
        exact ⟨_, rfl, _, rfl, _, rfl, x, g, o, u, gv, gg, N, rfl, hxx.kp (Kp.of k2), hu, hg.same kk, ho.same kk, hF, hNN, fun H3 r k3 hr => fin H3 r (k2.trans k3) hr (tm_noL _)⟩
    · rintro H' ⟨ys, k, hDl, hys, hyl⟩
      rw [hxl, List.take_length] at hys
      refine ⟨D, ys, rfl, .inl ⟨SqL.of hDl, fun p hp => ?_⟩⟩
      have kp := same_new (o := .tup ys) hp
      refine q _ _ (k0.trans (k.trans kp)) ?_
      rw [ht]
      exact .tup upd_same (fun m => nomatch m) ((hys.sub (S' := []) fun a m => nomatch m).kp (Kp.of kp))
theorem ok_put_n (T : Txt K mg) : ∀ d : Nat, FnOk P w K mg base CX0 (d + 2) T.a_put T.d_put P_put (sp_tw d)
  | 0 => ok_put_of T fn_none (fun m e => nomatch e)
  | d + 1 => ok_put_of T (d := d + 1) (ok_put_n T d) (fun m e => by rw [show d = m by omega])
theorem ok_put (T : Txt K mg) : FnOk P w K mg base CX0 10 T.a_put T.d_put P_put (sp_tw 8) := ok_put_n T 8
end
end K19
set_option Elab.async false
set_option linter.all false
set_option maxRecDepth 100000
set_option maxHeartbeats 4000000
/-! k19: the law's own body. -/
namespace K19
open PySem PySem.Spec PyProof.Rows L2 Zg Zr Zd Zv
theorem mergeK_snoc (l : List (Key × V)) (k : Key) (v : V) : mergeK [] (l ++ [(k, v)]) = putK (mergeK [] l) k v := by
  unfold mergeK
  rw [List.foldl_append]
  rfl
theorem env_merge {S : List Addr} {H : Hp} : ∀ (ks : List PySem.Str) {ys : List V} {ts : List Tm} {acc : List (Key × V)} {f : PySem.Str → Option Tm}, DvAll S H ys (datas ts) → EnvK S H acc f →
    EnvK S H (mergeK acc ((ks.zip ys).map Yz.kf)) ((ks.zip ts).foldl (fun f p => asgn f p.1 p.2) f)
  | [], _, _, _, _, _, h => h
  | _ :: _, [], [], _, _, _, h => h
  | k :: ks, y :: ys, t :: ts, acc, f, hy, h => by
    cases hy with
    | cons h1 h2 => exact env_merge ks h2 (h.put (x := k) h1)
theorem strs_inv {S : List Addr} {H : Hp} : ∀ {ns : List PySem.Str} {zs : List V}, DvAll S H zs (ns.map .str) → zs = ns.map V.str
  | [], _, h => by cases h; rfl
  | n :: ns, _, h => by
    cases h with
    | cons a t =>
      cases a
      rw [strs_inv t]
      rfl
section
variable {P : Program} {w : World} {K : PySem.W.Frag} {mg : PySem.Str → Option Value} {base : Heap}
theorem ok_body (T : Txt K mg) : FnOk P w K mg base CX0 11 T.a_body T.d_body P_body sp_passed := by
  refine T.F_body.ok sc_body (fun vs H Q E h => by obtain ⟨v, vf, vt, pn, ns, t, fs, ts, rfl, _⟩ := h; rfl) (fun cdv A outer s H vs Q E hr h => ?_)
  refine ⟨_, (pss_cons (ps_set (i := 3) sc_body.nd rfl (Or.inl rfl) (pe_callTy (call_dictP (by rfl)) (by rfl) T.n_dict (by decide +kernel) (pa_cons (pe_lc (own := [("pair", 4), ("one", 5)]) rfl sc_body.nd (RZ.pi_zipA (by rfl) T.n_zip (pa_cons (pe_ix ix_tup (pv 0) pe_int (fun _ _ => rfl)) (pa_cons (pv 1) pa_nil))) (blkOk_by (own := [("pair", 4), ("one", 5)]) (N := N_body) (sc := defScope s_body) (by decide +kernel)) (fun _ _ _ _ _ => (show PG _ _ (gTup K 2 _) from (pg_tup (by rfl) (pgs_cons (pg_name (i := 4) sc_body.nd rfl (Or.inl rfl)) (pgs_cons (pg_name (i := 5) sc_body.nd rfl (Or.inl rfl)) pgs_nil))))) (fun _ _ _ _ _ => pts_nil) (fun _ _ _ _ _ => (pe_tup (pa_cons (pe_ix (show IxR _ (rIxT K) from ix_tup) (pv 4) pe_int (fun _ _ => rfl)) (pa_cons (pv 5) pa_nil))))) pa_nil)))
    (pss_one (ps_ret (pe_call (ok_put T) (hr.mono (by decide)) (by rfl) T.g_put T.F_put.kp T.b_put .nil pass0 (pa_cons (pe_ix ix_tup (pv 0) pe_int (fun _ _ => rfl)) (pa_cons (pv 3) (pa_cons (pe_callTy (call_dictP (by rfl)) (by rfl) T.n_dict (by decide +kernel) (pa_cons (Yz.pe_listZip (by rfl) (by rfl) T.n_zip (by rfl) T.n_list (pa_cons (pe_ix ix_tup (pv 0) pe_int (fun _ _ => rfl)) (pa_cons (pv 2) pa_nil))) pa_nil)) pa_nil))))))), ?_⟩
  obtain ⟨v, vf, vt, pn, ns, t, fs, ts, rfl, hv, hf, ht, hfit, hF, hN, lp, ln, q⟩ := h
  obtain ⟨a, xs, rfl, ha, _, hx⟩ := hv.tup_inv
  cases hx with
  | @cons v0 vs0 _ _ y0 hx =>
  cases hx with
  | @cons v1 vs1 _ _ y1 hx =>
  cases hx with
  | @cons v2 vs2 _ _ y2 hx =>
  cases hx
  obtain ⟨ap, zp, rfl, hap, _, hzp⟩ := y0.tup_inv
  obtain ⟨an, zn, rfl, han, _, hzn⟩ := y1.tup_inv
  obtain ⟨af, zf, rfl, haf, _, hzf⟩ := hf.tup_inv
  obtain ⟨at', zt, rfl, hat, _, hzt⟩ := ht.tup_inv
  obtain rfl := strs_inv hzn
  have lzp := hzp.length
  have lzf := hzf.length
  have lzt := hzt.length
  rw [List.length_map] at lzp
  rw [datas_map, List.length_map] at lzf lzt
  refine ⟨_, rfl, a, _, 0, _, rfl, rfl, SqT.of ha, atI_nat (j := 0) rfl, _, rfl, ap, af, _, _, rfl, .inr ⟨SqT.of hap, SqT.of haf, fun D hD => ?_⟩⟩
  refine lc_it (walk_zipT (n := ((pn.map (·.1)).zip fs).length) (by rw [List.length_zip, List.length_map, lzp, lzf])) (fun i H' => ∃ (ps : List Addr) (kvs : List (Key × V)), Same H H' ∧ H' D = some (.lst (ps.map V.ref)) ∧ ps.length ≤ i ∧ Paired (fun p kv => H' p = some (.tup [kV kv.1, kv.2])) ps kvs ∧ EnvK [D] H' (mergeK [] kvs) (envOf (((pn.map (·.1)).zip fs).take i))) ⟨[], [], same_new hD, upd_same, Nat.le_refl _, .nil, fun x => .inl ⟨rfl, rfl⟩⟩ (fun i H' _ ⟨_, _, k, _⟩ => ⟨SqT.of (k _ _ hap), SqT.of (k _ _ haf)⟩) ?_ ?_
  · rintro i x H' H2 hi ⟨ps, kvs, k, hDl, hl, hP, hE⟩ ⟨T', y, z, rfl, hT, rfl, hy, hz⟩
    dsimp only [] at hy hz
    have hi' := hi
    rw [List.length_zip, List.length_map] at hi'
    obtain ⟨dy, e1, hdy⟩ := hzp.get hy
    obtain ⟨dz, e2, hdz⟩ := hzf.get hz
    have hip : i < pn.length := by omega
    have hif : i < fs.length := by omega
    rw [List.getElem?_map, List.getElem?_eq_getElem hip] at e1
    rw [datas_map, List.getElem?_map, List.getElem?_eq_getElem hif] at e2
    cases e1
    cases e2
    obtain ⟨b, ys, rfl, hb, _, hys⟩ := Dv.tup_inv (show Dv [] H y (.tuple [.str pn[i].1, .int pn[i].2]) from hdy)
    cases hys with
    | @cons w0 ws0 _ _ z0 hys =>
    cases z0
    have kT := same_new (o := .tup [.ref b, z]) hT
    have hDT := kT _ _ hDl
    have hlen : ps.length < sizeLine := by rw [sizeLine_eq]; omega
    refine ⟨T', _, rfl, SqT.of upd_same, rfl, _, _, rfl, _, _, rfl, rfl, rfl, _, rfl, b, _, 0, _, rfl, rfl, SqT.of (kT _ _ (k _ _ hb)), atI_nat (j := 0) rfl, _, rfl, by show 2 ≤ sizeLine; decide, fun p hp => ?_⟩
    have kp := same_new (o := .tup [.str pn[i].1, z]) hp
    have hDp := kp _ _ hDT
    have pD : p ≠ D := fun e => by rw [e, hDT] at hp; cases hp
    refine ⟨_, hDp, by rw [List.length_map]; exact hlen, ps ++ [p], kvs ++ [(.inr pn[i].1, z)], same_put (k.trans (kT.trans kp)) hD, by rw [upd_same, List.map_append]; rfl, by rw [List.length_append, List.length_singleton]; omega, ?_, ?_⟩
    · refine Paired.snoc (L2.Paired.mapP hP fun p' kv e => ?_) ?_
      · have e2 := kp _ _ (kT _ _ e)
        rw [upd_ne (fun e3 => by rw [e3, hDp] at e2; cases e2)]
        exact e2
      · show upd _ D _ p = _
        rw [upd_ne pD, upd_same]
        rfl
    · have kw : Kp [D] (upd (upd H' T' (.tup [.ref b, z])) p (.tup [.str pn[i].1, z])) (upd (upd (upd H' T' (.tup [.ref b, z])) p (.tup [.str pn[i].1, z])) D (.lst (ps.map V.ref ++ [.ref p]))) := (Kp.refl _ _).wr (.inl List.mem_cons_self)
      have ez : ((pn.map (·.1)).zip fs)[i]? = some (pn[i].1, fs[i]) := by
        rw [List.getElem?_eq_getElem hi, List.getElem_zip, List.getElem_map]
      rw [List.take_succ, ez, mergeK_snoc]
      show EnvK _ _ _ (envOf (_ ++ [_]))
      rw [envOf_snoc]
      exact ((hE.kp (Kp.of (kT.trans kp))).kp kw).put ((Dv_noL (fun zs e => by rw [hDp] at e; cases e) (hdz.kp (Kp.of (k.trans (kT.trans kp)))) (tm_noL _)).kp kw)
  rintro H1 ⟨ps, kvs, k1, hD1, _, hP, hE1⟩
  rw [List.take_length] at hE1
  replace hE1 := hE1.sub (S' := []) fun a m => nomatch m
  refine ⟨D, ps, kvs, rfl, SqL.of hD1, L2.Paired.mapP hP (fun p kv e => SqT.of e), fun g hg => ?_⟩
  have k2 := k1.trans (same_new (o := .dK (mergeK [] kvs)) hg)
  have hE2 := hE1.kp (Kp.of (S := []) (same_new (o := .dK (mergeK [] kvs)) hg))
  have hg2 : (upd H1 g (.dK (mergeK [] kvs))) g = some (.dK (mergeK [] kvs)) := upd_same
  generalize upd H1 g (.dK (mergeK [] kvs)) = H2 at k2 hE2 hg2 ⊢
  refine ⟨_, rfl, a, _, 2, _, rfl, rfl, SqT.of (k2 _ _ ha), atI_nat (j := 2) rfl, _, rfl, ?_⟩
  refine ⟨_, rfl, a, _, 1, _, rfl, rfl, SqT.of (k2 _ _ ha), atI_nat (j := 1) rfl, _, rfl, an, at', ns, _, rfl, SqT.of (k2 _ _ han), SqT.of (k2 _ _ hat), fun H3 p qs k3 hp hqs hn hp3 hq => ?_⟩
  refine ⟨p, qs, _, rfl, SqL.of hp3, L2.Paired.mapP hq (fun p kv e => SqT.of e), fun o ho => ?_⟩
  have k5 := Same.trans (show Same H2 H3 from k3) (same_new (o := .dK (mergeK [] ((ns.zip zt).map Yz.kf))) ho)
  have ho2 : (upd H3 o (.dK (mergeK [] ((ns.zip zt).map Yz.kf)))) o = some (.dK (mergeK [] ((ns.zip zt).map Yz.kf))) := upd_same
  generalize upd H3 o (.dK (mergeK [] ((ns.zip zt).map Yz.kf))) = H4 at k5 ho2 ⊢
  have k6 := k2.trans k5
  have hE4 := env_merge (S := []) ns ((hzt.kp (Kp.of k6))) (acc := []) (f := fun _ => none) fun x => .inl ⟨rfl, rfl⟩
  refine ⟨v2, g, o, t, _, _, ns, rfl, y2.kp (Kp.of k6), hfit, ⟨_, k5 _ _ hg2, hE2.kp (Kp.of k5)⟩, ⟨_, ho2, hE4⟩, fun x f e => ?_, fun x hx => ?_, fun H5 r k7 hr => q H5 r (k6.trans k7) hr⟩
  · obtain ⟨p, hp, _, rfl⟩ := envOf_some e
    exact hF _ (List.of_mem_zip hp).2
  · exact envOf_mem (zip_has hx hN)
end
end K19
set_option Elab.async false
set_option linter.all false
set_option maxRecDepth 100000
set_option maxHeartbeats 4000000
/-! k19: how big terms are; the law's test. -/
namespace K19
open PySem PySem.Spec PyProof.Rows L2 Zg Zr Zd Zv
mutual
/-- places where something may be put in -/
def Tm.pl : Tm → Nat
  | .leaf _ => 0
  | .go _ => 1
  | .given _ => 1
  | .act _ t => t.pl
  | .test _ y n => y.pl + n.pl
  | .pick ts => pls ts
  | .call b _ fs ts => (if b = true then 1 else 0) + (pls fs + pls ts)
def pls : List Tm → Nat
  | [] => 0
  | t :: ts => t.pl + pls ts
end
theorem nm_okv {x : PySem.Str} (h : Nm x) : okv (.str x) = true := by
  show (PyData.strOk x && decide (x.length ≤ 1000)) = true
  rw [h.2, decide_eq_true (Nat.le_trans h.1 (by decide))]
  rfl
theorem okv_tupI {ds : List PyData} (h1 : ds.length ≤ 1000) (h2 : ∀ d ∈ ds, okv d = true) : okv (.tuple ds) = true := by
  show (decide (ds.length ≤ 1000) && okvAll ds) = true
  rw [decide_eq_true h1, okvAll_iff.mpr h2]
  rfl
theorem datas_len (ts : List Tm) : (datas ts).length = ts.length := by rw [datas_map, List.length_map]
theorem mem_datas {ts : List Tm} {d : PyData} (h : d ∈ datas ts) : ∃ t ∈ ts, t.data = d := by
  rw [datas_map] at h
  exact List.mem_map.mp h
theorem ints_okv {s : List Int} (h1 : s.length ≤ 3) (h2 : ∀ i ∈ s, 0 ≤ i ∧ i < 3) : okv (.tuple (s.map .int)) = true := by
  refine okv_tupI (by rw [List.length_map]; omega) fun d hd => ?_
  obtain ⟨i, hi, rfl⟩ := List.mem_map.mp hd
  have := h2 i hi
  exact decide_eq_true (Nat.lt_of_lt_of_le (show i.natAbs < 3 by omega) (by decide))
theorem wordC_okv (b : Bool) : okv (.str (wordC b)) = true := by cases b <;> decide +kernel
theorem fit_okv {N : List PySem.Str} {d : Nat} {t : Tm} (h : Fit N d t) : okv t.data = true := by
  induction h with
  | leaf h =>
    refine okv_tupI (by show 1 ≤ 1000; decide) fun d hd => ?_
    rw [List.mem_singleton] at hd
    subst hd
    simp only [List.mem_cons, List.not_mem_nil, or_false] at h
    rcases h with rfl | rfl | rfl <;> decide +kernel
  | go _ n =>
    refine okv_tupI (by show 2 ≤ 1000; decide) fun d hd => ?_
    simp only [List.mem_cons, List.not_mem_nil, or_false] at hd
    rcases hd with rfl | rfl
    · decide +kernel
    · exact nm_okv n
  | given n =>
    refine okv_tupI (by show 2 ≤ 1000; decide) fun d hd => ?_
    simp only [List.mem_cons, List.not_mem_nil, or_false] at hd
    rcases hd with rfl | rfl
    · decide +kernel
    · exact nm_okv n
  | act n _ ih =>
    refine okv_tupI (by show 3 ≤ 1000; decide) fun d hd => ?_
    simp only [List.mem_cons, List.not_mem_nil, or_false] at hd
    rcases hd with rfl | rfl | rfl
    · decide +kernel
    · exact nm_okv n
    · exact ih
  | test h1 h2 _ _ i1 i2 =>
    refine okv_tupI (by show 4 ≤ 1000; decide) fun d hd => ?_
    simp only [List.mem_cons, List.not_mem_nil, or_false] at hd
    rcases hd with rfl | rfl | rfl | rfl
    · decide +kernel
    · exact ints_okv h1 h2
    · exact i1
    · exact i2
  | pick h1 h2 _ ih =>
    refine okv_tupI (by rw [List.length_cons, datas_len]; omega) fun d hd => ?_
    rcases List.mem_cons.mp hd with rfl | hd
    · decide +kernel
    · obtain ⟨t, ht, rfl⟩ := mem_datas hd
      exact ih t ht
  | @call d b x fs ts n h1 h2 _ _ i1 i2 =>
    refine okv_tupI (by show 4 ≤ 1000; decide) fun d hd => ?_
    simp only [List.mem_cons, List.not_mem_nil, or_false] at hd
    rcases hd with rfl | rfl | rfl | rfl
    · exact wordC_okv b
    · exact nm_okv n
    · refine okv_tupI (by rw [datas_len]; omega) fun d hd => ?_
      obtain ⟨t, ht, rfl⟩ := mem_datas hd
      exact i1 t ht
    · refine okv_tupI (by rw [datas_len]; omega) fun d hd => ?_
      obtain ⟨t, ht, rfl⟩ := mem_datas hd
      exact i2 t ht
abbrev Tm.bk (t : Tm) : Nat := t.data.bulk
abbrev Tm.dp (t : Tm) : Nat := t.data.depth
def bks (ts : List Tm) : Nat := PyData.bulkAll (datas ts)
def dps (ts : List Tm) : Nat := PyData.depthAll (datas ts)
theorem bk_go (x) : (Tm.go x).bk = x.cps.size + 4 := by show 2 + 1 + (x.cps.size + 1 + 0) = _; omega
theorem bk_given (x) : (Tm.given x).bk = x.cps.size + 7 := by show 5 + 1 + (x.cps.size + 1 + 0) = _; omega
theorem bk_act (a t) : (Tm.act a t).bk = a.cps.size + t.bk + 5 := by show 2 + 1 + (a.cps.size + 1 + (t.bk + 1 + 0)) = _; omega
theorem bk_test (s : List Int) (y n : Tm) : (Tm.test s y n).bk = PyData.bulkAll (s.map .int) + y.bk + n.bk + 8 := by show 4 + 1 + (PyData.bulkAll (s.map .int) + 1 + (y.bk + 1 + (n.bk + 1 + 0))) = _; omega
theorem bk_pick (ts) : (Tm.pick ts).bk = bks ts + 5 := by show 4 + 1 + bks ts = _; omega
theorem bk_call (b x fs ts) : (Tm.call b x fs ts).bk = x.cps.size + bks fs + bks ts + 8 := by
  show (wordC b).cps.size + 1 + (x.cps.size + 1 + (bks fs + 1 + (bks ts + 1 + 0))) = _
  have : (wordC b).cps.size = 4 := by cases b <;> rfl
  omega
theorem bks_cons (t ts) : bks (t :: ts) = t.bk + 1 + bks ts := rfl
theorem bks_append : ∀ l m : List Tm, bks (l ++ m) = bks l + bks m
  | [], m => by show bks m = 0 + _; omega
  | t :: l, m => by
    rw [List.cons_append, bks_cons, bks_cons, bks_append l m]
    omega
theorem dps_cons (t ts) : dps (t :: ts) = max t.dp (dps ts) := rfl
theorem dps_append : ∀ l m : List Tm, dps (l ++ m) = max (dps l) (dps m)
  | [], m => by show dps m = max 0 _; omega
  | t :: l, m => by
    rw [List.cons_append, dps_cons, dps_cons, dps_append l m]
    omega
theorem dp_call (b x fs ts) : (Tm.call b x fs ts).dp = max (dps fs + 1) (dps ts + 1) + 1 := by
  show max 0 (max 0 (max (dps fs + 1) (max (dps ts + 1) 0))) + 1 = _
  omega
theorem dp_pick (ts) : (Tm.pick ts).dp = dps ts + 1 := by
  show max 0 (dps ts) + 1 = _
  omega
theorem dp_act (a t) : (Tm.act a t).dp = t.dp + 1 := by
  show max 0 (max 0 (max t.dp 0)) + 1 = _
  omega
theorem dp_test (s : List Int) (y n : Tm) : (Tm.test s y n).dp = max (PyData.depthAll (s.map .int) + 1) (max y.dp n.dp) + 1 := by
  show max 0 (max (PyData.depthAll (s.map .int) + 1) (max y.dp (max n.dp 0))) + 1 = _
  omega
theorem dps_of (ts : List Tm) {E : Nat} (h : ∀ t ∈ ts, t.dp ≤ E) : dps ts ≤ E := by
  induction ts with
  | nil => exact Nat.zero_le _
  | cons t ts ih =>
    rw [dps_cons]
    exact Nat.max_le.mpr ⟨h t List.mem_cons_self, ih fun u m => h u (List.mem_cons_of_mem _ m)⟩
/-- small -/
structure Sm (B E : Nat) (t : Tm) : Prop where
  ok : okv t.data = true
  bk : t.bk ≤ B
  dp : t.dp ≤ E
/-- what putting in does to the size -/
structure Grow (B E : Nat) (t u : Tm) : Prop where
  ok : okv u.data = true
  bk : u.bk ≤ t.bk + t.pl * B
  dp : u.dp ≤ t.dp + E
theorem grows {B E : Nat} {gv gg : PySem.Str → Option Tm} : ∀ {ts : List Tm}, (∀ t ∈ ts, Grow B E t (t.sub gv gg)) → (∀ d ∈ datas (subs gv gg ts), okv d = true) ∧ bks (subs gv gg ts) ≤ bks ts + pls ts * B ∧ dps (subs gv gg ts) ≤ dps ts + E ∧ (subs gv gg ts).length = ts.length
  | [], _ => ⟨(fun _ m => nomatch m), Nat.le_add_right _ _, Nat.zero_le _, rfl⟩
  | t :: ts, h => by
    obtain ⟨a, b, c, d⟩ := grows (ts := ts) fun u m => h u (List.mem_cons_of_mem _ m)
    have g := h t List.mem_cons_self
    refine ⟨fun d m => ?_, ?_, ?_, ?_⟩
    · rcases List.mem_cons.mp (show d ∈ (t.sub gv gg).data :: datas (subs gv gg ts) from m) with rfl | m
      · exact g.ok
      · exact a d m
    · show (t.sub gv gg).bk + 1 + bks (subs gv gg ts) ≤ t.bk + 1 + bks ts + (t.pl + pls ts) * B
      have := g.bk
      rw [Nat.add_mul]
      omega
    · show max (t.sub gv gg).dp (dps (subs gv gg ts)) ≤ max t.dp (dps ts) + E
      have := g.dp
      omega
    · show (subs gv gg ts).length + 1 = ts.length + 1
      rw [d]
theorem call_okv {b : Bool} {x : PySem.Str} {fs ts : List Tm} (n : okv (.str x) = true) (h1 : fs.length ≤ 1000) (h2 : ts.length ≤ 1000) (h3 : ∀ d ∈ datas fs, okv d = true) (h4 : ∀ d ∈ datas ts, okv d = true) : okv (Tm.call b x fs ts).data = true := by
  refine okv_tupI (by show 4 ≤ 1000; decide) fun d hd => ?_
  simp only [List.mem_cons, List.not_mem_nil, or_false] at hd
  rcases hd with rfl | rfl | rfl | rfl
  · exact wordC_okv b
  · exact n
  · exact okv_tupI (by rw [datas_len]; exact h1) h3
  · exact okv_tupI (by rw [datas_len]; exact h2) h4
theorem grow {B E : Nat} {gv gg : PySem.Str → Option Tm} (hv : ∀ x f, gv x = some f → FunV f ∧ Sm B E f) (hg : ∀ x f, gg x = some f → Sm B E f) (hB : 1 ≤ B) {N : List PySem.Str} {d : Nat} {t : Tm} (h : Fit N d t) : Grow B E t (t.sub gv gg) := by
  induction h with
  | @leaf d w0 h =>
    rw [Tm.sub]
    exact ⟨fit_okv (.leaf (N := N) (d := d) h), Nat.le_add_right _ _, Nat.le_add_right _ _⟩
  | @go d x h n =>
    rw [Tm.sub]
    cases e : gg x with
    | none => exact ⟨fit_okv (.go h n (d := d)), Nat.le_add_right _ _, Nat.le_add_right _ _⟩
    | some f =>
      obtain ⟨a, b, c⟩ := hg x f e
      exact ⟨a, Nat.le_trans b (by show B ≤ _ + 1 * B; omega), Nat.le_trans c (Nat.le_add_left _ _)⟩
  | @given d x n =>
    rw [Tm.sub]
    cases e : gv x with
    | none => exact ⟨fit_okv (.given (N := N) n (d := d)), Nat.le_add_right _ _, Nat.le_add_right _ _⟩
    | some f =>
      obtain ⟨_, a, b, c⟩ := hv x f e
      exact ⟨a, Nat.le_trans b (by show B ≤ _ + 1 * B; omega), Nat.le_trans c (Nat.le_add_left _ _)⟩
  | @act d a t n _ ih =>
    rw [Tm.sub]
    refine ⟨?_, ?_, ?_⟩
    · refine okv_tupI (by show 3 ≤ 1000; decide) fun d hd => ?_
      simp only [List.mem_cons, List.not_mem_nil, or_false] at hd
      rcases hd with rfl | rfl | rfl
      · decide +kernel
      · exact nm_okv n
      · exact ih.ok
    · rw [bk_act, bk_act]
      have := ih.bk
      show _ ≤ _ + t.pl * B
      omega
    · rw [dp_act, dp_act]
      have := ih.dp
      omega
  | @test d s y n h1 h2 _ _ i1 i2 =>
    rw [Tm.sub]
    refine ⟨?_, ?_, ?_⟩
    · refine okv_tupI (by show 4 ≤ 1000; decide) fun d hd => ?_
      simp only [List.mem_cons, List.not_mem_nil, or_false] at hd
      rcases hd with rfl | rfl | rfl | rfl
      · decide +kernel
      · exact ints_okv h1 h2
      · exact i1.ok
      · exact i2.ok
    · rw [bk_test, bk_test]
      have := i1.bk
      have := i2.bk
      show _ ≤ _ + (y.pl + n.pl) * B
      rw [Nat.add_mul]
      omega
    · rw [dp_test, dp_test]
      have := i1.dp
      have := i2.dp
      omega
  | @pick d ts h1 h2 _ ih =>
    rw [Tm.sub]
    obtain ⟨a, b, c, l⟩ := grows ih
    refine ⟨?_, ?_, ?_⟩
    · refine okv_tupI (by rw [List.length_cons, datas_len]; omega) fun d hd => ?_
      rcases List.mem_cons.mp hd with rfl | hd
      · decide +kernel
      · exact a d hd
    · rw [bk_pick, bk_pick]
      show _ ≤ _ + pls ts * B
      omega
    · rw [dp_pick, dp_pick]
      omega
  | @call d b x fs ts n h1 h2 _ _ i1 i2 =>
    obtain ⟨a1, b1, c1, l1⟩ := grows i1
    obtain ⟨a2, b2, c2, l2⟩ := grows i2
    have plain : Grow B E (.call b x fs ts) (.call b x (subs gv gg fs) (subs gv gg ts)) := by
      refine ⟨call_okv (nm_okv n) (by omega) (by omega) a1 a2, ?_, ?_⟩
      · rw [bk_call, bk_call]
        show _ ≤ _ + ((if b = true then 1 else 0) + (pls fs + pls ts)) * B
        rw [Nat.add_mul, Nat.add_mul]
        omega
      · rw [dp_call, dp_call]
        omega
    rw [Tm.sub]
    cases b with
    | false => exact plain
    | true =>
      show Grow B E _ (match gv x with | some f => callOf f (subs gv gg ts) | none => .call true x (subs gv gg fs) (subs gv gg ts))
      cases e : gv x with
      | none => exact plain
      | some f =>
        obtain ⟨hf, a, b, c⟩ := hv x f e
        have hm : ∀ m : Nat, (1 + (pls fs + pls ts)) * B = B + (pls fs * B + pls ts * B) := fun _ => by rw [Nat.add_mul, Nat.add_mul]; omega
        rcases hf with ⟨x', rfl⟩ | ⟨x', fs0, ts0, rfl, hl⟩
        · refine ⟨call_okv ((okv_tup a).2 _ (List.mem_cons_of_mem _ List.mem_cons_self)) (Nat.zero_le _) (by omega) (fun _ m => nomatch m) a2, ?_, ?_⟩
          · show (Tm.call true x' [] (subs gv gg ts)).bk ≤ _ + (1 + (pls fs + pls ts)) * B
            rw [bk_call, bk_call, hm 0]
            rw [bk_given] at b
            show x'.cps.size + 0 + _ + 8 ≤ _
            omega
          · show (Tm.call true x' [] (subs gv gg ts)).dp ≤ _
            rw [dp_call, dp_call]
            show max (0 + 1) _ + 1 ≤ _
            omega
        · have a' := (okv_tup a).2
          have e1 := okv_tup (a' (.tuple (datas fs0)) (by simp))
          have e2 := okv_tup (a' (.tuple (datas ts0)) (by simp))
          refine ⟨call_okv (a' (.str x') (by simp)) (by rw [← datas_len]; exact e1.1) (by rw [List.length_append]; omega) e1.2 (fun d m => ?_), ?_, ?_⟩
          · rw [datas_append] at m
            rcases List.mem_append.mp m with m | m
            · exact e2.2 d m
            · exact a2 d m
          · show (Tm.call true x' fs0 (ts0 ++ subs gv gg ts)).bk ≤ _ + (1 + (pls fs + pls ts)) * B
            rw [bk_call, bk_call, hm 0, bks_append]
            rw [bk_call] at b
            omega
          · show (Tm.call true x' fs0 (ts0 ++ subs gv gg ts)).dp ≤ _
            rw [dp_call, dp_call, dps_append]
            rw [dp_call] at c
            omega
end K19
set_option Elab.async false
set_option linter.all false
set_option maxRecDepth 100000
set_option maxHeartbeats 4000000
/-! k19: the law's test. -/
namespace K19
open PySem PySem.Spec PyProof.Rows L2 Zg Zr Zd Zv
/-- a definition that is small -/
structure Mkr (pn : List (PySem.Str × Int)) (ns : List PySem.Str) (t : Tm) : Prop where
  fit : Fit ns 8 t
  lpn : pn.length ≤ 3
  pnm : ∀ p ∈ pn, Nm p.1 ∧ 0 ≤ p.2 ∧ p.2 < 10
  lns : ns.length ≤ 4
  nsm : ∀ x ∈ ns, Nm x
  sm : Sm 4401 20 t
  pl : t.pl ≤ 156
def mkD (pn : List (PySem.Str × Int)) (ns : List PySem.Str) (t : Tm) : PyData := .tuple [.tuple (pn.map prD), .tuple (ns.map .str), t.data]
theorem prs_small : ∀ {pn : List (PySem.Str × Int)}, (∀ p ∈ pn, Nm p.1 ∧ 0 ≤ p.2 ∧ p.2 < 10) → (∀ d ∈ pn.map prD, okv d = true) ∧ PyData.bulkAll (pn.map prD) ≤ pn.length * 11 ∧ PyData.depthAll (pn.map prD) ≤ 1
  | [], _ => ⟨(fun _ m => nomatch m), Nat.zero_le _, Nat.zero_le _⟩
  | p :: pn, h => by
    obtain ⟨a, b, c⟩ := prs_small (pn := pn) fun q m => h q (List.mem_cons_of_mem _ m)
    obtain ⟨n, p1, p2⟩ := h p List.mem_cons_self
    have n1 : p.1.cps.size ≤ 8 := n.1
    refine ⟨fun d m => ?_, ?_, ?_⟩
    · rcases List.mem_cons.mp (show d ∈ prD p :: pn.map prD from m) with rfl | m
      · refine okv_tupI (by show 2 ≤ 1000; decide) fun d hd => ?_
        simp only [List.mem_cons, List.not_mem_nil, or_false] at hd
        rcases hd with rfl | rfl
        · exact nm_okv n
        · exact decide_eq_true (Nat.lt_of_lt_of_le (show p.2.natAbs < 10 by omega) (by decide))
      · exact a d m
    · show (p.1.cps.size + 1 + (0 + 1 + 0)) + 1 + PyData.bulkAll (pn.map prD) ≤ (pn.length + 1) * 11
      omega
    · show max (max 0 (max 0 0) + 1) (PyData.depthAll (pn.map prD)) ≤ 1
      omega
theorem strs_small : ∀ {ns : List PySem.Str}, (∀ x ∈ ns, Nm x) → (∀ d ∈ ns.map PyData.str, okv d = true) ∧ PyData.bulkAll (ns.map .str) ≤ ns.length * 9 ∧ PyData.depthAll (ns.map .str) ≤ 0
  | [], _ => ⟨(fun _ m => nomatch m), Nat.zero_le _, Nat.zero_le _⟩
  | x :: ns, h => by
    obtain ⟨a, b, c⟩ := strs_small (ns := ns) fun q m => h q (List.mem_cons_of_mem _ m)
    have n := h x List.mem_cons_self
    have n1 : x.cps.size ≤ 8 := n.1
    refine ⟨fun d m => ?_, ?_, ?_⟩
    · rcases List.mem_cons.mp (show d ∈ PyData.str x :: ns.map PyData.str from m) with rfl | m
      · exact nm_okv n
      · exact a d m
    · show x.cps.size + 1 + PyData.bulkAll (ns.map .str) ≤ (ns.length + 1) * 9
      omega
    · show max 0 (PyData.depthAll (ns.map .str)) ≤ 0
      omega
theorem sms_small {B E : Nat} : ∀ {ts : List Tm}, (∀ t ∈ ts, Sm B E t) → (∀ d ∈ datas ts, okv d = true) ∧ bks ts ≤ ts.length * (B + 1) ∧ dps ts ≤ E
  | [], _ => ⟨(fun _ m => nomatch m), Nat.zero_le _, Nat.zero_le _⟩
  | t :: ts, h => by
    obtain ⟨a, b, c⟩ := sms_small (ts := ts) fun q m => h q (List.mem_cons_of_mem _ m)
    have n := h t List.mem_cons_self
    refine ⟨fun d m => ?_, ?_, ?_⟩
    · rcases List.mem_cons.mp (show d ∈ t.data :: datas ts from m) with rfl | m
      · exact n.ok
      · exact a d m
    · rw [bks_cons]
      have := n.bk
      show _ ≤ (ts.length + 1) * (B + 1)
      rw [Nat.add_mul]
      omega
    · rw [dps_cons]
      have := n.dp
      omega
theorem mkD_small {pn : List (PySem.Str × Int)} {ns : List PySem.Str} {t : Tm} (h : Mkr pn ns t) : okv (mkD pn ns t) = true ∧ (mkD pn ns t).bulk ≤ 4600 ∧ (mkD pn ns t).depth ≤ 21 := by
  obtain ⟨a1, b1, c1⟩ := prs_small h.pnm
  obtain ⟨a2, b2, c2⟩ := strs_small h.nsm
  have h1 := h.lpn
  have h2 := h.lns
  have h3 := h.sm.bk
  have h4 := h.sm.dp
  refine ⟨okv_tupI (by show 3 ≤ 1000; decide) fun d hd => ?_, ?_, ?_⟩
  · simp only [List.mem_cons, List.not_mem_nil, or_false] at hd
    rcases hd with rfl | rfl | rfl
    · exact okv_tupI (by rw [List.length_map]; omega) a1
    · exact okv_tupI (by rw [List.length_map]; omega) a2
    · exact h.sm.ok
  · show PyData.bulkAll (pn.map prD) + 1 + (PyData.bulkAll (ns.map .str) + 1 + (t.bk + 1 + 0)) ≤ 4600
    omega
  · show max (PyData.depthAll (pn.map prD) + 1) (max (PyData.depthAll (ns.map .str) + 1) (max t.dp 0)) + 1 ≤ 21
    omega
theorem kept_small {pn : List (PySem.Str × Int)} {ns : List PySem.Str} {t : Tm} {fs ts : List Tm} (h : Mkr pn ns t) (hf : ∀ f ∈ fs, Sm 1759 20 f) (ht : ∀ f ∈ ts, Sm 1759 20 f) (lf : fs.length ≤ 20) (lt : ts.length ≤ 20) :
    okv (.list [mkD pn ns t, .tuple (datas fs), .tuple (datas ts)]) = true ∧ (PyData.list [mkD pn ns t, .tuple (datas fs), .tuple (datas ts)]).bulk ≤ 300000 ∧ (PyData.list [mkD pn ns t, .tuple (datas fs), .tuple (datas ts)]).depth ≤ 60 := by
  obtain ⟨a1, b1, c1⟩ := mkD_small h
  obtain ⟨a2, b2, c2⟩ := sms_small hf
  obtain ⟨a3, b3, c3⟩ := sms_small ht
  refine ⟨?_, ?_, ?_⟩
  · show okv (.tuple [mkD pn ns t, .tuple (datas fs), .tuple (datas ts)]) = true
    refine okv_tupI (by show 3 ≤ 1000; decide) fun d hd => ?_
    simp only [List.mem_cons, List.not_mem_nil, or_false] at hd
    rcases hd with rfl | rfl | rfl
    · exact a1
    · exact okv_tupI (by rw [datas_len]; omega) a2
    · exact okv_tupI (by rw [datas_len]; omega) a3
  · show (mkD pn ns t).bulk + 1 + (bks fs + 1 + (bks ts + 1 + 0)) ≤ 300000
    omega
  · show max (mkD pn ns t).depth (max (dps fs + 1) (max (dps ts + 1) 0)) + 1 ≤ 60
    omega
theorem due_small {pn : List (PySem.Str × Int)} {ns : List PySem.Str} {t : Tm} {fs ts : List Tm} (h : Mkr pn ns t) (hf : ∀ f ∈ fs, FunV f ∧ Sm 1759 20 f) (ht : ∀ f ∈ ts, Sm 1759 20 f) :
    okv (t.sub (envOf ((pn.map (·.1)).zip fs)) (envOf (ns.zip ts))).data = true ∧ (t.sub (envOf ((pn.map (·.1)).zip fs)) (envOf (ns.zip ts))).data.bulk ≤ 300000 ∧ (t.sub (envOf ((pn.map (·.1)).zip fs)) (envOf (ns.zip ts))).data.depth ≤ 60 := by
  have g : Grow 1759 20 t (t.sub (envOf ((pn.map (·.1)).zip fs)) (envOf (ns.zip ts))) := grow (fun x f e => by
    obtain ⟨p, hp, _, rfl⟩ := envOf_some e
    exact hf _ (List.of_mem_zip hp).2) (fun x f e => by
    obtain ⟨p, hp, _, rfl⟩ := envOf_some e
    exact ht _ (List.of_mem_zip hp).2) (by decide) h.fit
  have h1 := h.sm.bk
  have h2 := h.sm.dp
  have h3 := h.pl
  have g1 := g.bk
  have g2 := g.dp
  refine ⟨g.ok, ?_, ?_⟩
  · show Tm.bk _ ≤ _
    omega
  · show Tm.dp _ ≤ _
    omega
section
variable {P : Program} {w : World} {K : PySem.W.Frag} {mg : PySem.Str → Option Value} {base : Heap}
def sp_right : Sp := fun vs H Q _ => ∃ (v vf vt : V) (pn : List (PySem.Str × Int)) (ns : List PySem.Str) (t : Tm) (fs ts : List Tm), vs = [v, vf, vt] ∧ Dv [] H v (mkD pn ns t) ∧ Dv [] H vf (.tuple (datas fs)) ∧ Dv [] H vt (.tuple (datas ts)) ∧
  Mkr pn ns t ∧ (∀ f ∈ fs, FunV f ∧ Sm 1759 20 f) ∧ (∀ u ∈ ts, Sm 1759 20 u) ∧ ns.length ≤ ts.length ∧ fs.length ≤ 20 ∧ ts.length ≤ 20 ∧ ∀ (H' : Hp), Same H H' → Q (.bl true) H'
theorem list3 {H : Hp} {p : Addr} {v1 v2 v3 : V} {d1 d2 d3 : PyData} (hp : H p = none) (h1 : Dv [] H v1 d1) (h2 : Dv [] H v2 d2) (h3 : Dv [] H v3 d3) : Dv [] (upd H p (.lst [v1, v2, v3])) (.ref p) (.list [d1, d2, d3]) := by
  have k := Kp.of (S := []) (same_new (o := .lst [v1, v2, v3]) hp)
  exact .lst upd_same (fun m => nomatch m) (.cons (h1.kp k) (.cons (h2.kp k) (.cons (h3.kp k) .nil)))
theorem ok_right (T : Txt K mg) : FnG P w K mg base 21 T.a_right T.d_right P_right sp_right := by
  refine okG T.F_right sc_right (fun vs H Q E h => by obtain ⟨v, vf, vt, pn, ns, t, fs, ts, rfl, _⟩ := h; rfl) (fun cdv A outer s H vs Q hgd hr h => ?_)
  refine ⟨_, (pss_cons (ps_set (i := 3) sc_right.nd rfl (Or.inl rfl) (pe_callB (cr_reprV (S := []) hgd hr) (by rfl) T.n_repr (by decide +kernel) (pa_cons (pe_lst (pa_cons (pv 0) (pa_cons (pv 1) (pa_cons (pv 2) pa_nil)))) pa_nil)))
    (pss_cons (ps_set (i := 4) sc_right.nd rfl (Or.inl rfl) (pe_callB (cr_reprV (S := []) hgd hr) (by rfl) T.n_repr (by decide +kernel) (pa_cons (pe_call (ok_body T) (hr.mono (by decide)) (by rfl) T.g_body T.F_body.kp T.b_body .nil pass0 (pa_cons (pv 0) (pa_cons (pv 1) (pa_cons (pv 2) pa_nil)))) pa_nil)))
    (pss_cons (ps_set (i := 5) sc_right.nd rfl (Or.inl rfl) (pe_lst (pa_cons (pe_call (ok_passed T) (hr.mono (by decide)) (by rfl) T.g_passed T.F_passed.kp T.b_passed .nil pass0 (pa_cons (pv 0) (pa_cons (pv 1) (pa_cons (pv 2) pa_nil)))) (pa_cons (pe_callK0 (ok_passed T) (hr.mono (by decide)) (by rfl) T.g_passed T.F_passed.kp T.kb_passed_tasks_functions_definition pass0 (pk_cons (pv 2) (pk_cons (pv 1) (pk_cons (pv 0) pk_nil)))) pa_nil))))
    (pss_one (ps_ret (pe_and (pe_cmpR op_eq (pe_callB (cr_reprV (S := []) hgd hr) (by rfl) T.n_repr (by decide +kernel) (pa_cons (pe_ix ix_list (pv 5) pe_int (fun _ _ => rfl)) pa_nil)) (pv 4) (nomark _)) (pe_and (pe_cmpR op_eq (pe_callB (cr_reprV (S := []) hgd hr) (by rfl) T.n_repr (by decide +kernel) (pa_cons (pe_ix ix_list (pv 5) pe_int (fun _ _ => rfl)) pa_nil)) (pv 4) (nomark _)) (pe_one (pe_cmpR op_eq (pe_callB (cr_reprV (S := []) hgd hr) (by rfl) T.n_repr (by decide +kernel) (pa_cons (pe_lst (pa_cons (pv 0) (pa_cons (pv 1) (pa_cons (pv 2) pa_nil)))) pa_nil)) (pv 3) (nomark _)))))))))), ?_⟩
  obtain ⟨v, vf, vt, pn, ns, t, fs, ts, rfl, hv, hf, ht, hM, hF, hT, hN, lf, lt, q⟩ := h
  obtain ⟨e1, e2, e3⟩ := kept_small hM (fun f m => (hF f m).2) hT lf lt
  obtain ⟨d1, d2, d3⟩ := due_small hM hF hT
  generalize hdue : (t.sub (envOf ((pn.map (·.1)).zip fs)) (envOf (ns.zip ts))).data = due at d1 d2 d3
  have pass : ∀ {H' : Hp} {R : VK}, Same H H' → (∀ (H2 : Hp) (r : V), Same H' H2 → Dv [] H2 r due → R r H2) → sp_passed [v, vf, vt] H' R E0 := fun {H' R} k h =>
    ⟨v, vf, vt, pn, ns, t, fs, ts, rfl, hv.kp (Kp.of k), hf.kp (Kp.of k), ht.kp (Kp.of k), hM.fit, fun f m => (hF f m).1, hN, by have := hM.lpn; omega, by have := hM.lns; omega, fun H2 r k2 hr => h H2 r k2 (hdue ▸ hr)⟩
  generalize hkept : PyData.list [mkD pn ns t, .tuple (datas fs), .tuple (datas ts)] = kept at e1 e2 e3
  have rkept : ∀ {H' : Hp}, Same H H' → ∀ {p : Addr}, H' p = none → Dv [] (upd H' p (.lst [v, vf, vt])) (.ref p) kept := fun {H'} k {p} hp => hkept ▸ list3 hp (hv.kp (Kp.of k)) (hf.kp (Kp.of k)) (ht.kp (Kp.of k))
  have fk := okv_fits e1 e2
  have fd := okv_fits d1 d2
  refine ⟨_, rfl, _, rfl, _, rfl, by show 3 ≤ sizeLine; decide, fun p hp => ⟨.ref p, kept, rfl, rkept (Same.refl H) hp, (okv_short _ e1).2, e3, fk, ?_⟩⟩
  have k1 := same_new (o := .lst [v, vf, vt]) hp
  refine ⟨_, rfl, _, rfl, _, rfl, pass k1 fun H2 r k2 hr2 => ⟨r, due, rfl, hr2, (okv_short _ d1).2, d3, fd, ?_⟩⟩
  have k3 := k1.trans k2
  refine ⟨_, rfl, _, rfl, _, rfl, pass k3 fun H3 r3 k4 hr3 => ?_⟩
  have k5 := k3.trans k4
  refine ⟨_, rfl, _, rfl, _, rfl, rfl, pass k5 fun H6 r6 k6 hr6 => ⟨by show 2 ≤ sizeLine; decide, fun pt hpt => ?_⟩⟩
  have k7 := k5.trans k6
  have k8 := same_new (o := .lst [r3, r6]) hpt
  have k9 := k7.trans k8
  have hpt2 : (upd H6 pt (.lst [r3, r6])) pt = some (.lst [r3, r6]) := upd_same
  have g3 := hr3.kp (Kp.of (S := []) (k6.trans k8))
  have g6 := hr6.kp (Kp.of (S := []) k8)
  generalize upd H6 pt (.lst [r3, r6]) = H9 at k9 hpt2 g3 g6 ⊢
  dsimp only [gName]
  refine ⟨_, rfl, _, _, 0, _, rfl, rfl, SqL.of hpt2, atI_nat (j := 0) rfl, r3, due, rfl, g3, (okv_short _ d1).2, d3, fd, _, rfl, rfl, _, rfl, ?_⟩
  refine ite2 (fun _ => ?_) (fun e => absurd (decide_eq_true rfl) e)
  refine ⟨_, rfl, _, _, 1, _, rfl, rfl, SqL.of hpt2, atI_nat (j := 1) rfl, r6, due, rfl, g6, (okv_short _ d1).2, d3, fd, _, rfl, rfl, _, rfl, ?_⟩
  refine ite2 (fun _ => ?_) (fun e => absurd (decide_eq_true rfl) e)
  refine ⟨_, rfl, _, rfl, _, rfl, by show 3 ≤ sizeLine; decide, fun p2 hp2 => ⟨.ref p2, kept, rfl, rkept k9 hp2, (okv_short _ e1).2, e3, fk, _, rfl, rfl, ?_⟩⟩
  rw [decide_eq_true rfl]
  exact q _ (k9.trans (same_new hp2))
end
end K19
set_option Elab.async false
set_option linter.all false
set_option maxRecDepth 100000
set_option maxHeartbeats 4000000
/-! k19: the cases by hand. -/
namespace K19
open PySem PySem.Spec PyProof.Rows L2 Zg Zr Zd Zv
/-! ### how big a term is at most -/
def Bf : Nat → Nat
  | 0 => 15
  | d + 1 => 5 * Bf d + 21
def Pf : Nat → Nat
  | 0 => 1
  | d + 1 => 5 * Pf d + 1
theorem bks_le {B : Nat} : ∀ {ts : List Tm}, (∀ t ∈ ts, t.bk ≤ B) → bks ts ≤ ts.length * (B + 1)
  | [], _ => Nat.zero_le _
  | t :: ts, h => by
    have := bks_le (ts := ts) fun q m => h q (List.mem_cons_of_mem _ m)
    have n := h t List.mem_cons_self
    rw [bks_cons]
    show _ ≤ (ts.length + 1) * (B + 1)
    rw [Nat.add_mul]
    omega
theorem pls_le {B : Nat} : ∀ {ts : List Tm}, (∀ t ∈ ts, t.pl ≤ B) → pls ts ≤ ts.length * B
  | [], _ => Nat.zero_le _
  | t :: ts, h => by
    have := pls_le (ts := ts) fun q m => h q (List.mem_cons_of_mem _ m)
    have n := h t List.mem_cons_self
    show t.pl + pls ts ≤ (ts.length + 1) * B
    rw [Nat.add_mul]
    omega
theorem dps_le {B : Nat} {ts : List Tm} (h : ∀ t ∈ ts, t.dp ≤ B) : dps ts ≤ B := dps_of ts h
theorem ints_bulk : ∀ s : List Int, PyData.bulkAll (s.map .int) = s.length
  | [] => rfl
  | i :: s => by
    show 0 + 1 + PyData.bulkAll (s.map .int) = s.length + 1
    rw [ints_bulk s]
    omega
theorem ints_depth : ∀ s : List Int, PyData.depthAll (s.map .int) = 0
  | [] => rfl
  | i :: s => by
    show max 0 (PyData.depthAll (s.map .int)) = 0
    rw [ints_depth s]
    rfl
theorem nm_size {x : PySem.Str} (h : Nm x) : x.cps.size ≤ 8 := h.1
theorem bf_pos : ∀ d, 15 ≤ Bf d
  | 0 => Nat.le_refl _
  | d + 1 => by
    have := bf_pos d
    show 15 ≤ 5 * Bf d + 21
    omega
theorem pf_pos : ∀ d, 1 ≤ Pf d
  | 0 => Nat.le_refl _
  | d + 1 => Nat.le_add_left _ _
theorem mul_le3 {n m B : Nat} (h : n ≤ m) : n * B ≤ m * B := Nat.mul_le_mul_right B h
theorem fit_size {N : List PySem.Str} {d : Nat} {t : Tm} (h : Fit N d t) : t.bk ≤ Bf d ∧ t.pl ≤ Pf d ∧ t.dp ≤ 2 * d + 2 := by
  induction h with
  | @leaf d w0 h =>
    refine ⟨Nat.le_trans ?_ (bf_pos d), Nat.zero_le _, ?_⟩
    · show w0.cps.size + 1 + 0 ≤ 15
      simp only [List.mem_cons, List.not_mem_nil, or_false] at h
      rcases h with rfl | rfl | rfl <;> decide +kernel
    · show max 0 0 + 1 ≤ _
      omega
  | @go d x _ n =>
    have := nm_size n
    refine ⟨Nat.le_trans ?_ (bf_pos d), pf_pos d, ?_⟩
    · rw [bk_go]
      omega
    · show max 0 (max 0 0) + 1 ≤ _
      omega
  | @given d x n =>
    have := nm_size n
    refine ⟨Nat.le_trans ?_ (bf_pos d), pf_pos d, ?_⟩
    · rw [bk_given]
      omega
    · show max 0 (max 0 0) + 1 ≤ _
      omega
  | @act d a t n _ ih =>
    have := nm_size n
    obtain ⟨i1, i2, i3⟩ := ih
    refine ⟨?_, ?_, ?_⟩
    · rw [bk_act]
      show _ ≤ 5 * Bf d + 21
      omega
    · show t.pl ≤ 5 * Pf d + 1
      omega
    · rw [dp_act]
      omega
  | @test d s y n h1 h2 _ _ i1 i2 =>
    obtain ⟨a1, a2, a3⟩ := i1
    obtain ⟨b1, b2, b3⟩ := i2
    refine ⟨?_, ?_, ?_⟩
    · rw [bk_test, ints_bulk]
      show _ ≤ 5 * Bf d + 21
      omega
    · show y.pl + n.pl ≤ 5 * Pf d + 1
      omega
    · rw [dp_test, ints_depth]
      omega
  | @pick d ts h1 h2 _ ih =>
    have b := bks_le (B := Bf d) fun t m => (ih t m).1
    have p := pls_le (B := Pf d) fun t m => (ih t m).2.1
    have e := dps_le (B := 2 * d + 2) fun t m => (ih t m).2.2
    have b2 := mul_le3 (B := Bf d + 1) h2
    have p2 := mul_le3 (B := Pf d) h2
    refine ⟨?_, ?_, ?_⟩
    · rw [bk_pick]
      show _ ≤ 5 * Bf d + 21
      omega
    · show pls ts ≤ 5 * Pf d + 1
      omega
    · rw [dp_pick]
      omega
  | @call d b x fs ts n h1 h2 _ _ i1 i2 =>
    have := nm_size n
    have b1 := bks_le (B := Bf d) fun t m => (i1 t m).1
    have p1 := pls_le (B := Pf d) fun t m => (i1 t m).2.1
    have e1 := dps_le (B := 2 * d + 2) fun t m => (i1 t m).2.2
    have b2 := mul_le3 (B := Bf d + 1) h1
    have p2 := mul_le3 (B := Pf d) h1
    have b3 := bks_le (B := Bf d) fun t m => (i2 t m).1
    have p3 := pls_le (B := Pf d) fun t m => (i2 t m).2.1
    have e3 := dps_le (B := 2 * d + 2) fun t m => (i2 t m).2.2
    have b4 := mul_le3 (B := Bf d + 1) h2
    have p4 := mul_le3 (B := Pf d) h2
    refine ⟨?_, ?_, ?_⟩
    · rw [bk_call]
      show _ ≤ 5 * Bf d + 21
      omega
    · show (if b = true then 1 else 0) + (pls fs + pls ts) ≤ 5 * Pf d + 1
      have : (if b = true then 1 else 0) ≤ 1 := by cases b <;> decide
      omega
    · rw [dp_call]
      omega
theorem sm_of {N : List PySem.Str} {t : Tm} (h : Fit N 2 t) : Sm 1759 20 t := by
  obtain ⟨a, _, c⟩ := fit_size h
  exact ⟨fit_okv h, Nat.le_trans a (by decide), Nat.le_trans c (by decide)⟩
theorem mkr_of {N : List PySem.Str} {t : Tm} {pn : List (PySem.Str × Int)} (h : Fit N 3 t) (lp : pn.length ≤ 3) (hp : ∀ p ∈ pn, Nm p.1 ∧ 0 ≤ p.2 ∧ p.2 < 10) (ln : N.length ≤ 4) (hn : ∀ x ∈ N, Nm x) : Mkr pn N t := by
  obtain ⟨a, b, c⟩ := fit_size h
  exact ⟨h.mono (by decide), lp, hp, ln, hn, ⟨fit_okv h, Nat.le_trans a (by decide), Nat.le_trans c (by decide)⟩, Nat.le_trans b (by decide)⟩
/-! ### the cases -/
structure Case where
  pn : List (PySem.Str × Int)
  ns : List PySem.Str
  t : Tm
  fs : List Tm
  ts : List Tm
  u : Tm
def Case.data (c : Case) : PyData := .tuple [mkD c.pn c.ns c.t, .tuple (datas c.fs), .tuple (datas c.ts), c.u.data]
structure Case.Ok (c : Case) : Prop where
  mkr : Mkr c.pn c.ns c.t
  fs : ∀ f ∈ c.fs, FunV f ∧ Sm 1759 20 f
  ts : ∀ u ∈ c.ts, Sm 1759 20 u
  len : c.ns.length ≤ c.ts.length
  lf : c.fs.length ≤ 20
  lt : c.ts.length ≤ 20
  eq : c.t.sub (envOf ((c.pn.map (·.1)).zip c.fs)) (envOf (c.ns.zip c.ts)) = c.u
def filled (c e : PySem.Str) : Tm := .call false c [.given e] [.leaf "fail"]
def gone (a : PySem.Str) : Tm := .act a (.leaf "end")
def hands (a b c x y e : PySem.Str) : List Case := [
  ⟨[], [x], .act a (.go x), [], [.leaf "end"], gone a⟩,
  ⟨[], [], .leaf "fail", [], [], .leaf "fail"⟩,
  ⟨[(b, 2)], [x, y], .call true b [] [.go x, .go y], [.given e], [.leaf "end", .leaf "wait"], .call true e [] [.leaf "end", .leaf "wait"]⟩,
  ⟨[(b, 2)], [x, y], .call true b [] [.go x, .go y], [filled c e], [.leaf "end", .leaf "wait"], .call true c [.given e] [.leaf "fail", .leaf "end", .leaf "wait"]⟩,
  ⟨[(b, 1)], [x], .call true a [.given b, .given e] [.go x], [filled c e], [.leaf "end"], .call true a [filled c e, .given e] [.leaf "end"]⟩,
  ⟨[(b, 1)], [x], .test [0] (.pick [.go x, .call true b [] [.go x]]) (.leaf "wait"), [filled c e], [gone a], .test [0] (.pick [gone a, .call true c [.given e] [.leaf "fail", gone a]]) (.leaf "wait")⟩,
  ⟨[(b, 1)], [x, y], .call true a [.call false c [.given b] [.go y]] [.go x], [.given e], [gone a, .leaf "end"], .call true a [.call false c [.given e] [.leaf "end"]] [gone a]⟩]
section
variable {a b c x y e : PySem.Str}
theorem all1 {α : Type} {p : α → Prop} {u : α} (h : p u) : ∀ v ∈ [u], p v := fun v m => by
  rw [List.mem_singleton] at m
  exact m ▸ h
theorem all2 {α : Type} {p : α → Prop} {u u' : α} (h : p u) (h' : p u') : ∀ v ∈ [u, u'], p v := fun v m => by
  simp only [List.mem_cons, List.not_mem_nil, or_false] at m
  rcases m with rfl | rfl
  · exact h
  · exact h'
theorem leafE {N : List PySem.Str} {d : Nat} : Fit N d (.leaf "end") := .leaf (by simp)
theorem leafW {N : List PySem.Str} {d : Nat} : Fit N d (.leaf "wait") := .leaf (by simp)
theorem leafF {N : List PySem.Str} {d : Nat} : Fit N d (.leaf "fail") := .leaf (by simp)
theorem hands_ok (na : Nm a) (nb : Nm b) (nc : Nm c) (nx : Nm x) (ny : Nm y) (ne : Nm e) (ab : a ≠ b) (eb : e ≠ b) (xy : x ≠ y) : ∀ k ∈ hands a b c x y e, k.Ok := by
  have fg : ∀ d, Fit [] (d + 1) (gone a) := fun d => .act na leafE
  have ff : ∀ d, Fit [] (d + 1) (filled c e) := fun d => .call nc (by show 1 ≤ 2; decide) (by show 1 ≤ 3; decide) (all1 (.given ne)) (all1 leafF)
  have uf : FunV (filled c e) := .inr ⟨c, [.given e], [.leaf "fail"], rfl, by show 1 ≤ 100; decide⟩
  have sE : Sm 1759 20 (.leaf "end") := sm_of (N := []) leafE
  have sW : Sm 1759 20 (.leaf "wait") := sm_of (N := []) leafW
  have sG : Sm 1759 20 (gone a) := sm_of (N := []) (fg 1)
  have sF : Sm 1759 20 (filled c e) := sm_of (N := []) (ff 1)
  have sV : Sm 1759 20 (.given e) := sm_of (N := []) (.given ne)
  have uV : FunV (.given e) := .inl ⟨e, rfl⟩
  have p1 : ∀ p ∈ [(b, (1 : Int))], Nm p.1 ∧ 0 ≤ p.2 ∧ p.2 < 10 := all1 ⟨nb, by show (0 : Int) ≤ 1; decide, by show (1 : Int) < 10; decide⟩
  have p2 : ∀ p ∈ [(b, (2 : Int))], Nm p.1 ∧ 0 ≤ p.2 ∧ p.2 < 10 := all1 ⟨nb, by show (0 : Int) ≤ 2; decide, by show (2 : Int) < 10; decide⟩
  have n1 : ∀ z ∈ [x], Nm z := all1 nx
  have n2 : ∀ z ∈ [x, y], Nm z := all2 nx ny
  have two : Mkr [(b, 2)] [x, y] (.call true b [] [.go x, .go y]) := mkr_of (.call nb (Nat.zero_le _) (by show 2 ≤ 3; decide) (fun _ m => nomatch m) (all2 (.go (by simp) nx) (.go (by simp) ny))) (by show 1 ≤ 3; decide) p2 (by show 2 ≤ 4; decide) n2
  intro k hk
  unfold hands at hk
  simp only [List.mem_cons, List.not_mem_nil, or_false] at hk
  rcases hk with rfl | rfl | rfl | rfl | rfl | rfl | rfl
  · exact ⟨mkr_of (.act na (.go (by simp) nx)) (Nat.zero_le _) (fun _ m => nomatch m) (by show 1 ≤ 4; decide) n1, (fun _ m => nomatch m), all1 sE, Nat.le_refl _, Nat.zero_le _, by show 1 ≤ 20; decide, by simp [Tm.sub, subs, envOf, asgn, gone]⟩
  · exact ⟨mkr_of leafF (Nat.zero_le _) (fun _ m => nomatch m) (Nat.zero_le _) (fun _ m => nomatch m), (fun _ m => nomatch m), (fun _ m => nomatch m), Nat.le_refl _, Nat.zero_le _, Nat.zero_le _, by simp [Tm.sub]⟩
  · exact ⟨two, all1 ⟨uV, sV⟩, all2 sE sW, Nat.le_refl _, by show 1 ≤ 20; decide, by show 2 ≤ 20; decide, by simp [Tm.sub, subs, envOf, asgn, callOf, xy]⟩
  · exact ⟨two, all1 ⟨uf, sF⟩, all2 sE sW, Nat.le_refl _, by show 1 ≤ 20; decide, by show 2 ≤ 20; decide, by simp [Tm.sub, subs, envOf, asgn, callOf, filled, xy]⟩
  · exact ⟨mkr_of (.call na (by show 2 ≤ 2; decide) (by show 1 ≤ 3; decide) (all2 (.given nb) (.given ne)) (all1 (.go (by simp) nx))) (by show 1 ≤ 3; decide) p1 (by show 1 ≤ 4; decide) n1, all1 ⟨uf, sF⟩, all1 sE, Nat.le_refl _, by show 1 ≤ 20; decide, by show 1 ≤ 20; decide, by simp [Tm.sub, subs, envOf, asgn, callOf, filled, ab, eb]⟩
  · exact ⟨mkr_of (.test (by show 1 ≤ 3; decide) (all1 ⟨by decide, by decide⟩) (.pick (by show 1 ≤ 2; decide) (by show 2 ≤ 3; decide) (all2 (.go (by simp) nx) (.call nb (Nat.zero_le _) (by show 1 ≤ 3; decide) (fun _ m => nomatch m) (all1 (.go (by simp) nx))))) leafW) (by show 1 ≤ 3; decide) p1 (by show 1 ≤ 4; decide) n1, all1 ⟨uf, sF⟩, all1 sG, Nat.le_refl _, by show 1 ≤ 20; decide, by show 1 ≤ 20; decide, by simp [Tm.sub, subs, envOf, asgn, callOf, filled, gone]⟩
  · exact ⟨mkr_of (.call na (by show 1 ≤ 2; decide) (by show 1 ≤ 3; decide) (all1 (.call nc (by show 1 ≤ 2; decide) (by show 1 ≤ 3; decide) (all1 (.given nb)) (all1 (.go (by simp) ny)))) (all1 (.go (by simp) nx))) (by show 1 ≤ 3; decide) p1 (by show 2 ≤ 4; decide) n2, all1 ⟨uV, sV⟩, all2 sG sE, Nat.le_refl _, by show 1 ≤ 20; decide, by show 2 ≤ 20; decide, by simp [Tm.sub, subs, envOf, asgn, callOf, gone, ab, xy]⟩
end
end K19
set_option Elab.async false
set_option linter.all false
set_option maxRecDepth 100000
set_option maxHeartbeats 4000000
/-! k19: the walk of the cases by hand. -/
namespace K19
open PySem PySem.Spec PyProof.Rows L2 Zg Zr Zd Zv
/-- what the names hold -/
def GE (S : List Addr) (H : Hp) (σ : L2.St) (Γ : List (Nat × PyData)) : Prop := ∀ i d, Γ.lookup i = some d → ∃ v, σ[i]? = some (some v) ∧ Dv S H v d
theorem GE.kp {S : List Addr} {H H' : Hp} {σ : L2.St} {Γ : List (Nat × PyData)} (h : GE S H σ Γ) (k : Kp S H H') : GE S H' σ Γ := fun i d e => by
  obtain ⟨v, a, b⟩ := h i d e
  exact ⟨v, a, b.kp k⟩
theorem GE.set {S : List Addr} {H : Hp} {σ : L2.St} {Γ : List (Nat × PyData)} (h : GE S H σ Γ) {j : Nat} {v : V} {d : PyData} (hj : j < σ.length) (hv : Dv S H v d) : GE S H (σ.set j (some v)) ((j, d) :: Γ) := fun i d' e => by
  rw [List.lookup_cons] at e
  by_cases q : i = j
  · subst q
    rw [beq_self_eq_true] at e
    cases e
    exact ⟨v, List.getElem?_set_self hj, hv⟩
  · rw [beq_eq_false_iff_ne.mpr q] at e
    obtain ⟨u, a, b⟩ := h i d' e
    exact ⟨u, by rw [List.getElem?_set_ne (Ne.symm q)]; exact a, b⟩
theorem GE.off {S : List Addr} {H : Hp} {σ : L2.St} {Γ : List (Nat × PyData)} (h : GE S H σ Γ) {j : Nat} {u : Option V} (hn : Γ.lookup j = none) : GE S H (σ.set j u) Γ := fun i d e => by
  obtain ⟨v, a, b⟩ := h i d e
  exact ⟨v, by rw [List.getElem?_set_ne (fun q => by rw [q, e] at hn; cases hn)]; exact a, b⟩
/-- an expression whose value is this -/
def MkE (S : List Addr) (Γ : List (Nat × PyData)) (t : TE) (d : PyData) : Prop := ∀ (σ : L2.St) (H : Hp) (Q : VK), GE S H σ Γ → Trk S H → (∀ v H', Same H H' → Trk S H' → Dv S H' v d → Q v H') → t σ H Q
def MkEL (S : List Addr) (Γ : List (Nat × PyData)) (t : TA) (ds : List PyData) : Prop := ∀ (σ : L2.St) (H : Hp) (Q : List V → Hp → Prop), GE S H σ Γ → Trk S H → (∀ vs H', Same H H' → Trk S H' → DvAll S H' vs ds → Q vs H') → t σ H Q
section
variable {S : List Addr} {Γ : List (Nat × PyData)} {t : TE} {ts : TA} {d : PyData} {ds : List PyData}
theorem mke_str {x : PySem.Str} : MkE S Γ (tC (.str x)) (.str x) := fun σ H Q _ tr q => q _ H (Same.refl H) tr (.str x)
theorem mke_int {i : Int} : MkE S Γ (tC (.int i)) (.int i) := fun σ H Q _ tr q => q _ H (Same.refl H) tr (.int i)
theorem mke_var {i : Nat} (e : Γ.lookup i = some d) : MkE S Γ (tVar i) d := fun σ H Q g tr q => by
  obtain ⟨v, a, b⟩ := g i d e
  exact ⟨v, a, q v H (Same.refl H) tr b⟩
theorem mke_nil : MkEL S Γ tNil [] := fun σ H Q _ tr q => q [] H (Same.refl H) tr .nil
theorem mke_cons (h : MkE S Γ t d) (hs : MkEL S Γ ts ds) : MkEL S Γ (tCons t ts) (d :: ds) := fun σ H Q g tr q => h σ H _ g tr fun v H1 s1 t1 g1 =>
  hs σ H1 _ (g.kp (Kp.of s1)) t1 fun vs H2 s2 t2 g2 => q (v :: vs) H2 (s1.trans s2) t2 (.cons (g1.kp (Kp.of s2)) g2)
theorem mke_tup (h : MkEL S Γ ts ds) (hn : ds.length ≤ 400) : MkE S Γ (tTup ts) (.tuple ds) := fun σ H Q g tr q => h σ H _ g tr fun vs H1 s1 t1 g1 =>
  ⟨by rw [g1.length, sizeLine_eq]; omega, fun p hp => q _ _ (s1.trans (same_new hp)) (t1.same (same_new hp)) (.tup upd_same (t1.out hp) (g1.kp (Kp.new hp)))⟩
theorem mke_lst (h : MkEL S Γ ts ds) (hn : ds.length ≤ 400) : MkE S Γ (tLst ts) (.list ds) := fun σ H Q g tr q => h σ H _ g tr fun vs H1 s1 t1 g1 =>
  ⟨by rw [g1.length, sizeLine_eq]; omega, fun p hp => q _ _ (s1.trans (same_new hp)) (t1.same (same_new hp)) (.lst upd_same (t1.out hp) (g1.kp (Kp.new hp)))⟩
/-- a display, set to a name -/
theorem set_mke {σ : L2.St} {H : Hp} {j : Nat} {u : TS} {D : Ends} (h : MkE S Γ t d) (g : GE S H σ Γ) (tr : Trk S H) (hj : j < σ.length) (q : ∀ v H', Same H H' → Trk S H' → GE S H' (σ.set j (some v)) ((j, d) :: Γ) → u D (σ.set j (some v)) H') : tSeq (tAsg t (gName j)) u D σ H :=
  h σ H _ g tr fun v H1 s1 t1 g1 => q v H1 s1 t1 ((g.kp (Kp.of s1)).set hj g1)
end
section
variable {S : List Addr} {Γ : List (Nat × PyData)} {t : TE} {ts : TA} {d d' : PyData} {ds : List PyData}
/-- two displays, set to two names -/
theorem par_mke {σ : L2.St} {H : Hp} {i j : Nat} {u : TS} {D : Ends} (h : MkEL S Γ ts [d, d']) (g : GE S H σ Γ) (tr : Trk S H) (hi : i < σ.length) (hj : j < σ.length) (q : ∀ v v' H', Same H H' → Trk S H' → GE S H' ((σ.set i (some v)).set j (some v')) ((j, d') :: (i, d) :: Γ) → u D ((σ.set i (some v)).set j (some v')) H') : tSeq (tPar i j ts) u D σ H :=
  h σ H _ g tr fun vs H1 s1 t1 g1 => by
    cases g1 with
    | @cons v _ _ _ a g1 =>
    cases g1 with
    | @cons v' _ _ _ a' g1 =>
    cases g1
    exact ⟨v, v', rfl, q v v' H1 s1 t1 (((g.kp (Kp.of s1)).set hi a).set (by rw [List.length_set]; exact hj) a')⟩
theorem GE.sub {S S' : List Addr} {H : Hp} {σ : L2.St} {Γ : List (Nat × PyData)} (h : GE S H σ Γ) (k : ∀ a ∈ S', a ∈ S) : GE S' H σ Γ := fun i d e => by
  obtain ⟨v, a, b⟩ := h i d e
  exact ⟨v, a, b.sub k⟩
theorem GE.fresh {S : List Addr} {H : Hp} {σ : L2.St} {Γ : List (Nat × PyData)} {p : Addr} (n : H p = none) (h : GE S H σ Γ) : GE (p :: S) H σ Γ := fun i d e => by
  obtain ⟨v, a, b⟩ := h i d e
  exact ⟨v, a, b.fresh n⟩
/-- a list that is written later on, set to a name -/
theorem list_mke {σ : L2.St} {H : Hp} {j : Nat} {u : TS} {D : Ends} (h : MkEL [] Γ ts ds) (g : GE [] H σ Γ) (hn : ds.length ≤ 400) (hj : Γ.lookup j = none) (q : ∀ F H' vs, H F = none → Same H H' → H' F = some (.lst vs) → DvAll [F] H' vs ds → GE [F] H' (σ.set j (some (.ref F))) Γ → u D (σ.set j (some (.ref F))) H') : tSeq (tAsg (tLst ts) (gName j)) u D σ H :=
  h σ H _ g (fun _ m => nomatch m) fun vs H1 s1 t1 g1 => ⟨by rw [g1.length, sizeLine_eq]; omega, fun F hF =>
    q F _ vs (s1.free hF) (s1.trans (same_new hF)) upd_same ((g1.fresh hF).kp (Kp.of (same_new hF))) ((((g.kp (Kp.of s1)).fresh hF).kp (Kp.of (same_new hF))).off hj)⟩
/-- one more in that list -/
theorem app_mke {K : PySem.W.Frag} {σ : L2.St} {H Hb : Hp} {F : Addr} {j : Nat} {vs : List V} {u : TS} {D : Ends} (h : MkE [F] Γ t d) (g : GE [F] H σ Γ) (k : Same Hb H) (nb : Hb F = none) (hF : σ[j]? = some (some (.ref F))) (hl : H F = some (.lst vs)) (hv : DvAll [F] H vs ds) (hn : ds.length ≤ 400)
    (q : ∀ H' vs', Same Hb H' → H' F = some (.lst vs') → DvAll [F] H' vs' (ds ++ [d]) → GE [F] H' σ Γ → u D σ H') : tSeq (tDrop (tBM K "list" rAppend (tVar j) (tCons t tNil))) u D σ H := by
  refine ⟨_, hF, .inl ⟨rfl, _, SqL.of hl⟩, h σ H _ g (fun a m => ?_) fun v H1 s1 t1 g1 => ⟨F, vs, v, rfl, rfl, s1 _ _ hl, by rw [hv.length, sizeLine_eq]; omega, ?_⟩⟩
  · rw [List.mem_singleton] at m
    rw [m, hl]
    exact fun z => nomatch z
  · have kw : Kp [F] H1 (upd H1 F (.lst (vs ++ [v]))) := (Kp.refl _ _).wr (.inl List.mem_cons_self)
    exact q _ (vs ++ [v]) (same_put (k.trans s1) nb) upd_same (((hv.kp (Kp.of s1)).kp kw).append (.cons (g1.kp kw) .nil)) ((g.kp (Kp.of s1)).kp kw)
theorem trk1 {H : Hp} {F : Addr} {o : HO} (h : H F = some o) : Trk [F] H := fun a m => by
  rw [List.mem_singleton] at m
  rw [m, h]
  exact fun z => nomatch z
theorem mke_cut3 {K : PySem.W.Frag} {i : Nat} {d0 d1 d2 d3 : PyData} (e : Γ.lookup i = some (.tuple [d0, d1, d2, d3])) (h : MkEL S Γ ts ds) (hn : ds.length ≤ 400) : MkE S Γ (tOp (rCatA K) (tSl (rSlA K) (tVar i) tNoPart (tPart (tC (V.int 3)))) (tTup ts)) (.tuple (d0 :: d1 :: d2 :: ds)) := fun σ H Q g tr q => by
  obtain ⟨v, a, b⟩ := g i _ e
  obtain ⟨p, xs, rfl, hp, np, hx⟩ := b.tup_inv
  cases hx with
  | @cons v0 _ _ _ x0 hx =>
  cases hx with
  | @cons v1 _ _ _ x1 hx =>
  cases hx with
  | @cons v2 _ _ _ x2 hx =>
  cases hx with
  | @cons v3 _ _ _ x3 hx =>
  cases hx
  refine ⟨_, a, ?_⟩
  dsimp only [tNoPart]
  refine ⟨_, rfl, p, _, rfl, SqT.of hp, fun hw => absurd hw.2 (by show ¬ HT.sIx 4 4 (some 3) = 4; decide), fun _ r hr => ?_⟩
  have kr := same_new (o := .tup [v0, v1, v2]) hr
  have tr1 := tr.same kr
  have hr2 : (upd H r (.tup [v0, v1, v2])) r = some (.tup [v0, v1, v2]) := upd_same
  have nr := tr.out hr
  show tTup ts σ (upd H r (.tup [v0, v1, v2])) _
  generalize upd H r (.tup [v0, v1, v2]) = H1 at kr tr1 hr2
  refine mke_tup h hn σ H1 _ (g.kp (Kp.of kr)) tr1 fun v H2 s2 t2 g2 => ?_
  obtain ⟨b2, ys, rfl, hb2, nb2, hy⟩ := g2.tup_inv
  refine cat_any (S := S) t2 (s2 _ _ hr2) nr hb2 nb2 (by show 3 + ys.length ≤ 10000; rw [hy.length]; omega) fun H3 p3 k3 hp3 np3 => ?_
  have k13 := Kp.of (S := S) (kr.trans (s2.trans k3))
  refine q _ H3 (kr.trans (s2.trans k3)) (t2.same k3) (.tup hp3 np3 ?_)
  exact .cons (x0.kp k13) (.cons (x1.kp k13) (.cons (x2.kp k13) (hy.kp (Kp.of k3))))
end
section
variable {P : Program} {w : World} {K : PySem.W.Frag} {mg : PySem.Str → Option Value} {base : Heap}
def sp_hand : Sp := fun vs H Q _ => ∃ (wd l : Addr) (C : Nat), vs = [.ref wd] ∧ Well H wd l C ∧ C < LIM ∧
  ∀ (H' : Hp) (p : Addr) (cs : List Case), Kp [wd, l] H H' → Well H' wd l (C + 1) → Dv [] H' (.ref p) (.list (cs.map Case.data)) → (∀ c ∈ cs, c.Ok) → cs.length ≤ 10 → Q (.ref p) H'
def pk (nm : List PySem.Str) (r k : Nat) : PySem.Str := nm.getD ((r + k) % 8) ""
def nm8 : List PySem.Str := ["f", "given", "call", "part", "go", "zzzzzzzz", "a", "end"]
theorem pk_ok : ∀ r : Fin 8, (∀ k : Fin 6, (pk nm8 r k).length ≤ 8 ∧ PyData.strOk (pk nm8 r k) = true) ∧ pk nm8 r 0 ≠ pk nm8 r 1 ∧ pk nm8 r 5 ≠ pk nm8 r 1 ∧ pk nm8 r 3 ≠ pk nm8 r 4 := by decide +kernel
theorem ok_by_hand (T : Txt K mg) : FnOk P w K mg base CX0 2 T.a_by_hand T.d_by_hand P_by_hand sp_hand := by
  refine T.F_by_hand.ok sc_by_hand (fun vs H Q E h => by obtain ⟨wd, l, C, rfl, _⟩ := h; rfl) (fun cdv A outer s H vs Q E hr h => ?_)
  refine ⟨_, (pss_cons (ps_set (i := 1) sc_by_hand.nd rfl (Or.inr rfl) (pe_lst (pa_cons pe_str (pa_cons pe_str (pa_cons pe_str (pa_cons pe_str (pa_cons pe_str (pa_cons pe_str (pa_cons pe_str (pa_cons pe_str pa_nil))))))))))
    (pss_cons (ps_set (i := 2) sc_by_hand.nd rfl (Or.inr rfl) (pe_call (ok_draw T) (hr.mono (by decide)) (by rfl) T.g_draw T.F_draw.kp T.b_draw .nil pass0 (pa_cons (pv 0) (pa_cons pe_int pa_nil))))
    (pss_cons (ps_asg (pe_lc (own := [("k", 9)]) rfl sc_by_hand.nd (pi_range1 (by rfl) T.n_range (pa_cons pe_int pa_nil)) (blkOk_by (own := [("k", 9)]) (N := N_by_hand) (sc := defScope s_by_hand) (by decide +kernel)) (fun _ _ _ _ _ => (pg_name (i := 9) sc_by_hand.nd rfl (Or.inl rfl))) (fun _ _ _ _ _ => pts_nil) (fun _ _ _ _ _ => (pe_ix (show IxR _ (rIxL K) from ix_list) (pv 1) (pe_op op_mod (pe_callTy call_int1 (by rfl) T.n_int (by decide +kernel) (pa_cons (pe_op op_add (pv 2) (pv 9)) pa_nil)) pe_int) (fun _ _ => rfl)))) (pg_lst (by rfl) (pgs_cons (pg_name (i := 3) sc_by_hand.nd rfl (Or.inl rfl)) (pgs_cons (pg_name (i := 4) sc_by_hand.nd rfl (Or.inl rfl)) (pgs_cons (pg_name (i := 5) sc_by_hand.nd rfl (Or.inl rfl)) (pgs_cons (pg_name (i := 6) sc_by_hand.nd rfl (Or.inl rfl)) (pgs_cons (pg_name (i := 7) sc_by_hand.nd rfl (Or.inl rfl)) (pgs_cons (pg_name (i := 8) sc_by_hand.nd rfl (Or.inl rfl)) pgs_nil))))))))
    (pss_cons (ps_par (i := 10) (j := 11) (by rfl) sc_by_hand.nd rfl rfl (by decide) rfl rfl (pa_cons (pe_tup (pa_cons pe_str pa_nil)) (pa_cons (pe_tup (pa_cons pe_str (pa_cons (pv 3) (pa_cons (pe_tup (pa_cons pe_str pa_nil)) pa_nil)))) pa_nil)) (by rfl))
    (pss_cons (ps_set (i := 12) sc_by_hand.nd rfl (Or.inl rfl) (pe_lst (pa_cons (pe_tup (pa_cons (pe_tup (pa_cons (pe_tup pa_nil) (pa_cons (pe_tup (pa_cons (pv 6) pa_nil)) (pa_cons (pe_tup (pa_cons pe_str (pa_cons (pv 3) (pa_cons (pe_tup (pa_cons pe_str (pa_cons (pv 6) pa_nil))) pa_nil)))) pa_nil)))) (pa_cons (pe_tup pa_nil) (pa_cons (pe_tup (pa_cons (pv 10) pa_nil)) (pa_cons (pv 11) pa_nil))))) (pa_cons (pe_tup (pa_cons (pe_tup (pa_cons (pe_tup pa_nil) (pa_cons (pe_tup pa_nil) (pa_cons (pe_tup (pa_cons pe_str pa_nil)) pa_nil)))) (pa_cons (pe_tup pa_nil) (pa_cons (pe_tup pa_nil) (pa_cons (pe_tup (pa_cons pe_str pa_nil)) pa_nil))))) pa_nil))))
    (pss_cons (ps_set (i := 13) sc_by_hand.nd rfl (Or.inl rfl) (pe_tup (pa_cons pe_str (pa_cons (pv 4) (pa_cons (pe_tup pa_nil) (pa_cons (pe_tup (pa_cons (pe_tup (pa_cons pe_str (pa_cons (pv 6) pa_nil))) (pa_cons (pe_tup (pa_cons pe_str (pa_cons (pv 7) pa_nil))) pa_nil))) pa_nil))))))
    (pss_cons (ps_set (i := 14) sc_by_hand.nd rfl (Or.inl rfl) (pe_tup (pa_cons (pe_tup (pa_cons (pe_tup (pa_cons (pv 4) (pa_cons pe_int pa_nil))) pa_nil)) (pa_cons (pe_tup (pa_cons (pv 6) (pa_cons (pv 7) pa_nil))) (pa_cons (pv 13) pa_nil)))))
    (pss_cons (ps_expr (pe_bm PySem.F.plainAttrs_list PySem.F.slot_list_append PySem.F.type_list_append mt_append (pv 12) (pa_cons (pe_tup (pa_cons (pv 14) (pa_cons (pe_tup (pa_cons (pe_tup (pa_cons pe_str (pa_cons (pv 8) pa_nil))) pa_nil)) (pa_cons (pe_tup (pa_cons (pv 10) (pa_cons (pe_tup (pa_cons pe_str pa_nil)) pa_nil))) (pa_cons (pe_tup (pa_cons pe_str (pa_cons (pv 8) (pa_cons (pe_tup pa_nil) (pa_cons (pe_tup (pa_cons (pv 10) (pa_cons (pe_tup (pa_cons pe_str pa_nil)) pa_nil))) pa_nil))))) pa_nil))))) pa_nil)))
    (pss_cons (ps_set (i := 15) sc_by_hand.nd rfl (Or.inl rfl) (pe_tup (pa_cons pe_str (pa_cons (pv 5) (pa_cons (pe_tup (pa_cons (pe_tup (pa_cons pe_str (pa_cons (pv 8) pa_nil))) pa_nil)) (pa_cons (pe_tup (pa_cons (pe_tup (pa_cons pe_str pa_nil)) pa_nil)) pa_nil))))))
    (pss_cons (ps_expr (pe_bm PySem.F.plainAttrs_list PySem.F.slot_list_append PySem.F.type_list_append mt_append (pv 12) (pa_cons (pe_tup (pa_cons (pv 14) (pa_cons (pe_tup (pa_cons (pv 15) pa_nil)) (pa_cons (pe_tup (pa_cons (pv 10) (pa_cons (pe_tup (pa_cons pe_str pa_nil)) pa_nil))) (pa_cons (pe_tup (pa_cons pe_str (pa_cons (pv 5) (pa_cons (pe_tup (pa_cons (pe_tup (pa_cons pe_str (pa_cons (pv 8) pa_nil))) pa_nil)) (pa_cons (pe_tup (pa_cons (pe_tup (pa_cons pe_str pa_nil)) (pa_cons (pv 10) (pa_cons (pe_tup (pa_cons pe_str pa_nil)) pa_nil)))) pa_nil))))) pa_nil))))) pa_nil)))
    (pss_cons (ps_set (i := 16) sc_by_hand.nd rfl (Or.inl rfl) (pe_tup (pa_cons (pe_tup (pa_cons (pe_tup (pa_cons (pv 4) (pa_cons pe_int pa_nil))) pa_nil)) (pa_cons (pe_tup (pa_cons (pv 6) pa_nil)) (pa_cons (pe_tup (pa_cons pe_str (pa_cons (pv 3) (pa_cons (pe_tup (pa_cons (pe_tup (pa_cons pe_str (pa_cons (pv 4) pa_nil))) (pa_cons (pe_tup (pa_cons pe_str (pa_cons (pv 8) pa_nil))) pa_nil))) (pa_cons (pe_tup (pa_cons (pe_tup (pa_cons pe_str (pa_cons (pv 6) pa_nil))) pa_nil)) pa_nil))))) pa_nil)))))
    (pss_cons (ps_expr (pe_bm PySem.F.plainAttrs_list PySem.F.slot_list_append PySem.F.type_list_append mt_append (pv 12) (pa_cons (pe_tup (pa_cons (pv 16) (pa_cons (pe_tup (pa_cons (pv 15) pa_nil)) (pa_cons (pe_tup (pa_cons (pv 10) pa_nil)) (pa_cons (pe_tup (pa_cons pe_str (pa_cons (pv 3) (pa_cons (pe_tup (pa_cons (pv 15) (pa_cons (pe_tup (pa_cons pe_str (pa_cons (pv 8) pa_nil))) pa_nil))) (pa_cons (pe_tup (pa_cons (pv 10) pa_nil)) pa_nil))))) pa_nil))))) pa_nil)))
    (pss_cons (ps_set (i := 17) sc_by_hand.nd rfl (Or.inl rfl) (pe_tup (pa_cons (pe_tup (pa_cons (pe_tup (pa_cons (pv 4) (pa_cons pe_int pa_nil))) pa_nil)) (pa_cons (pe_tup (pa_cons (pv 6) pa_nil)) (pa_cons (pe_tup (pa_cons pe_str (pa_cons (pe_tup (pa_cons pe_int pa_nil)) (pa_cons (pe_tup (pa_cons pe_str (pa_cons (pe_tup (pa_cons pe_str (pa_cons (pv 6) pa_nil))) (pa_cons (pe_op op_catA (pe_slice sl_tupA (pv 13) po_none (po_some pe_int)) (pe_tup (pa_cons (pe_tup (pa_cons (pe_tup (pa_cons pe_str (pa_cons (pv 6) pa_nil))) pa_nil)) pa_nil))) pa_nil)))) (pa_cons (pe_tup (pa_cons pe_str pa_nil)) pa_nil))))) pa_nil)))))
    (pss_cons (ps_set (i := 18) sc_by_hand.nd rfl (Or.inl rfl) (pe_tup (pa_cons pe_str (pa_cons (pv 5) (pa_cons (pe_tup (pa_cons (pe_tup (pa_cons pe_str (pa_cons (pv 8) pa_nil))) pa_nil)) (pa_cons (pe_tup (pa_cons (pe_tup (pa_cons pe_str pa_nil)) (pa_cons (pv 11) pa_nil))) pa_nil))))))
    (pss_cons (ps_expr (pe_bm PySem.F.plainAttrs_list PySem.F.slot_list_append PySem.F.type_list_append mt_append (pv 12) (pa_cons (pe_tup (pa_cons (pv 17) (pa_cons (pe_tup (pa_cons (pv 15) pa_nil)) (pa_cons (pe_tup (pa_cons (pv 11) pa_nil)) (pa_cons (pe_tup (pa_cons pe_str (pa_cons (pe_tup (pa_cons pe_int pa_nil)) (pa_cons (pe_tup (pa_cons pe_str (pa_cons (pv 11) (pa_cons (pv 18) pa_nil)))) (pa_cons (pe_tup (pa_cons pe_str pa_nil)) pa_nil))))) pa_nil))))) pa_nil)))
    (pss_cons (ps_set (i := 19) sc_by_hand.nd rfl (Or.inl rfl) (pe_tup (pa_cons (pe_tup (pa_cons (pe_tup (pa_cons (pv 4) (pa_cons pe_int pa_nil))) pa_nil)) (pa_cons (pe_tup (pa_cons (pv 6) (pa_cons (pv 7) pa_nil))) (pa_cons (pe_tup (pa_cons pe_str (pa_cons (pv 3) (pa_cons (pe_tup (pa_cons (pe_tup (pa_cons pe_str (pa_cons (pv 5) (pa_cons (pe_tup (pa_cons (pe_tup (pa_cons pe_str (pa_cons (pv 4) pa_nil))) pa_nil)) (pa_cons (pe_tup (pa_cons (pe_tup (pa_cons pe_str (pa_cons (pv 7) pa_nil))) pa_nil)) pa_nil))))) pa_nil)) (pa_cons (pe_tup (pa_cons (pe_tup (pa_cons pe_str (pa_cons (pv 6) pa_nil))) pa_nil)) pa_nil))))) pa_nil)))))
    (pss_cons (ps_set (i := 18) sc_by_hand.nd rfl (Or.inl rfl) (pe_tup (pa_cons pe_str (pa_cons (pv 3) (pa_cons (pe_tup (pa_cons (pe_tup (pa_cons pe_str (pa_cons (pv 5) (pa_cons (pe_tup (pa_cons (pe_tup (pa_cons pe_str (pa_cons (pv 8) pa_nil))) pa_nil)) (pa_cons (pe_tup (pa_cons (pv 10) pa_nil)) pa_nil))))) pa_nil)) (pa_cons (pe_tup (pa_cons (pv 11) pa_nil)) pa_nil))))))
    (pss_one (ps_ret (pe_op op_cat (pv 12) (pe_lst (pa_cons (pe_tup (pa_cons (pv 19) (pa_cons (pe_tup (pa_cons (pe_tup (pa_cons pe_str (pa_cons (pv 8) pa_nil))) pa_nil)) (pa_cons (pe_tup (pa_cons (pv 11) (pa_cons (pv 10) pa_nil))) (pa_cons (pv 18) pa_nil))))) pa_nil)))))))))))))))))))))), ?_⟩
  obtain ⟨wd, l, C, rfl, hW, hC, q⟩ := h
  refine ⟨by show 8 ≤ sizeLine; decide, fun p hp => ?_⟩
  dsimp only [gName]
  have k1 := same_new (o := .lst (nm8.map V.str)) hp
  have hp1 : (upd H p (.lst (nm8.map V.str))) p = some (.lst (nm8.map V.str)) := upd_same
  have hW1 := hW.same k1
  show tSeq _ _ _ _ (upd H p (.lst (nm8.map V.str)))
  generalize upd H p (.lst (nm8.map V.str)) = H1 at k1 hp1 hW1 ⊢
  refine ⟨_, rfl, wd, l, 8, C, rfl, hW1, hC, by decide, by decide, fun H2 r k2 hW2 r0 r8 => ?_⟩
  dsimp only [gName]
  have pw : p ∉ [wd, l] := fun m => by
    obtain ⟨_, _, _, _, h, h', _⟩ := hW
    simp only [List.mem_cons, List.not_mem_nil, or_false] at m
    rcases m with rfl | rfl
    · rw [hp] at h
      cases h
    · rw [hp] at h'
      cases h'
  have hp2 : H2 p = some (.lst (nm8.map V.str)) := k2 _ _ pw hp1
  have kk : Kp [wd, l] H H2 := (Kp.of k1).trans k2
  obtain ⟨rn, rfl⟩ : ∃ rn : Nat, r = (rn : Int) := ⟨r.toNat, by omega⟩
  have r8' : rn < 8 := by omega
  refine ⟨6, rfl, by decide, by decide, fun D hD => ?_⟩
  refine lc_it walk_range (fun i H' => ∃ ys, Same H2 H' ∧ H' D = some (.lst (ys.map V.str)) ∧ ys = (List.range i).map (pk nm8 rn)) ⟨[], same_new hD, upd_same, rfl⟩ (fun _ _ _ _ => trivial) ?_ ?_
  · rintro i x H' H'' hi ⟨ys, k, hDl, rfl⟩ ⟨rfl, rfl⟩
    have hi6 : i < 6 := hi
    have e8 : ((rn : Int) + (0 + (i : Int))) % 8 = (((rn + i) % 8 : Nat) : Int) := by omega
    refine ⟨rfl, _, rfl, _, rfl, _, rfl, _, _, rfl, rfl, .inl ⟨_, rfl, _, _, rfl, rfl, (by decide : (0 : Int) < 8), ?_⟩⟩
    show rIxL K (V.ref p) (.int (((rn : Int) + (0 + (i : Int))) % 8)) H'' _
    rw [e8]
    refine ⟨p, _, _, .str (pk nm8 rn i), rfl, rfl, SqL.of (k _ _ hp2), atI_nat ?_, _, hDl, by rw [List.length_map, List.length_map, List.length_range, sizeLine_eq]; omega, _, same_put k hD, ?_, rfl⟩
    · have h8 : (rn + i) % 8 < 8 := Nat.mod_lt _ (by decide)
      rw [List.getElem?_map]
      show Option.map V.str nm8[(rn + i) % 8]? = _
      unfold pk
      rw [List.getD_eq_getElem?_getD]
      generalize (rn + i) % 8 = j at h8
      have : j < nm8.length := h8
      rw [List.getElem?_eq_getElem this]
      rfl
    · rw [upd_same, List.range_succ, List.map_append, List.map_append]
      rfl
  · rintro H3 ⟨ys, k3, hDl, rfl⟩
    refine ⟨D, _, rfl, SqL.of hDl, rfl, ?_⟩
    refine ⟨_, _, rfl, _, _, rfl, _, _, rfl, _, _, rfl, _, _, rfl, _, _, rfl, rfl, ?_⟩
    dsimp only [gName, gNil]
    obtain ⟨nm, ab, eb, xy⟩ := pk_ok ⟨rn, r8'⟩
    have na : Nm (pk nm8 rn 0) := nm ⟨0, by decide⟩
    have nb : Nm (pk nm8 rn 1) := nm ⟨1, by decide⟩
    have nc : Nm (pk nm8 rn 2) := nm ⟨2, by decide⟩
    have nx : Nm (pk nm8 rn 3) := nm ⟨3, by decide⟩
    have ny : Nm (pk nm8 rn 4) := nm ⟨4, by decide⟩
    have ne : Nm (pk nm8 rn 5) := nm ⟨5, by decide⟩
    replace ab : pk nm8 rn 0 ≠ pk nm8 rn 1 := ab
    replace eb : pk nm8 rn 5 ≠ pk nm8 rn 1 := eb
    replace xy : pk nm8 rn 3 ≠ pk nm8 rn 4 := xy
    clear nm
    generalize pk nm8 rn 0 = a at *
    generalize pk nm8 rn 1 = b at *
    generalize pk nm8 rn 2 = c at *
    generalize pk nm8 rn 3 = x at *
    generalize pk nm8 rn 4 = y at *
    generalize pk nm8 rn 5 = e at *
    have hok := hands_ok na nb nc nx ny ne ab eb xy
    have hlen : ∀ σ : L2.St, σ.length = 20 → (((((((σ.set 3 (some (V.str a))).set 4 (some (V.str b))).set 5 (some (V.str c))).set 6 (some (V.str x))).set 7 (some (V.str y))).set 8 (some (V.str e)))).length = 20 := fun σ h => by simp [h]
    have ge : ∀ σ : L2.St, σ.length = 20 → GE [] H3 ((((((σ.set 3 (some (V.str a))).set 4 (some (V.str b))).set 5 (some (V.str c))).set 6 (some (V.str x))).set 7 (some (V.str y))).set 8 (some (V.str e))) [(8, .str e), (7, .str y), (6, .str x), (5, .str c), (4, .str b), (3, .str a)] := fun σ h =>
      GE.set (GE.set (GE.set (GE.set (GE.set (GE.set (fun _ _ z => by simp at z) (by simp [h]) (.str a)) (by simp [h]) (.str b)) (by simp [h]) (.str c)) (by simp [h]) (.str x)) (by simp [h]) (.str y)) (by simp [h]) (.str e)
    have hl := hlen ((List.set (L2.start N_by_hand [V.ref wd]) 1 (some (V.ref p))).set 2 (some (V.int (rn : Int)))) rfl
    have g0 := ge ((List.set (L2.start N_by_hand [V.ref wd]) 1 (some (V.ref p))).set 2 (some (V.int (rn : Int)))) rfl
    show tSeq _ _ _ (List.set (List.set (List.set (List.set (List.set (List.set _ 3 _) 4 _) 5 _) 6 _) 7 _) 8 _) _
    generalize (((((((List.set (L2.start N_by_hand [V.ref wd]) 1 (some (V.ref p))).set 2 (some (V.int (rn : Int)))).set 3 (some (V.str a))).set 4 (some (V.str b))).set 5 (some (V.str c))).set 6 (some (V.str x))).set 7 (some (V.str y))).set 8 (some (V.str e)) = σ0 at hl g0 ⊢
    clear hlen ge
    refine par_mke (mke_cons (mke_tup (mke_cons mke_str mke_nil) (by exact Nat.le_of_ble_eq_true rfl)) (mke_cons (mke_tup (mke_cons mke_str (mke_cons (mke_var rfl) (mke_cons (mke_tup (mke_cons mke_str mke_nil) (by exact Nat.le_of_ble_eq_true rfl)) mke_nil))) (by exact Nat.le_of_ble_eq_true rfl)) mke_nil)) g0 (fun _ m => nomatch m) (by simp [hl]) (by simp [hl]) fun v10 v11 H4 k4 _ g4 => ?_
    refine list_mke (mke_cons (mke_tup (mke_cons (mke_tup (mke_cons (mke_tup mke_nil (by exact Nat.le_of_ble_eq_true rfl)) (mke_cons (mke_tup (mke_cons (mke_var rfl) mke_nil) (by exact Nat.le_of_ble_eq_true rfl)) (mke_cons (mke_tup (mke_cons mke_str (mke_cons (mke_var rfl) (mke_cons (mke_tup (mke_cons mke_str (mke_cons (mke_var rfl) mke_nil)) (by exact Nat.le_of_ble_eq_true rfl)) mke_nil))) (by exact Nat.le_of_ble_eq_true rfl)) mke_nil))) (by exact Nat.le_of_ble_eq_true rfl)) (mke_cons (mke_tup mke_nil (by exact Nat.le_of_ble_eq_true rfl)) (mke_cons (mke_tup (mke_cons (mke_var rfl) mke_nil) (by exact Nat.le_of_ble_eq_true rfl)) (mke_cons (mke_var rfl) mke_nil)))) (by exact Nat.le_of_ble_eq_true rfl)) (mke_cons (mke_tup (mke_cons (mke_tup (mke_cons (mke_tup mke_nil (by exact Nat.le_of_ble_eq_true rfl)) (mke_cons (mke_tup mke_nil (by exact Nat.le_of_ble_eq_true rfl)) (mke_cons (mke_tup (mke_cons mke_str mke_nil) (by exact Nat.le_of_ble_eq_true rfl)) mke_nil))) (by exact Nat.le_of_ble_eq_true rfl)) (mke_cons (mke_tup mke_nil (by exact Nat.le_of_ble_eq_true rfl)) (mke_cons (mke_tup mke_nil (by exact Nat.le_of_ble_eq_true rfl)) (mke_cons (mke_tup (mke_cons mke_str mke_nil) (by exact Nat.le_of_ble_eq_true rfl)) mke_nil)))) (by exact Nat.le_of_ble_eq_true rfl)) mke_nil)) g4 (by exact Nat.le_of_ble_eq_true rfl) rfl fun F H5 vs5 nF k5 hF5 hv5 g5 => ?_
    have nF4 : H4 F = none := nF
    refine set_mke (mke_tup (mke_cons mke_str (mke_cons (mke_var rfl) (mke_cons (mke_tup mke_nil (by exact Nat.le_of_ble_eq_true rfl)) (mke_cons (mke_tup (mke_cons (mke_tup (mke_cons mke_str (mke_cons (mke_var rfl) mke_nil)) (by exact Nat.le_of_ble_eq_true rfl)) (mke_cons (mke_tup (mke_cons mke_str (mke_cons (mke_var rfl) mke_nil)) (by exact Nat.le_of_ble_eq_true rfl)) mke_nil)) (by exact Nat.le_of_ble_eq_true rfl)) mke_nil)))) (by exact Nat.le_of_ble_eq_true rfl)) g5 (trk1 hF5) (by simp [hl]) fun v105 H105 j105 _ g105 => ?_
    have hF105 := j105 _ _ hF5
    have hv105 := hv5.kp (Kp.of j105)
    have k105 := k5.trans j105
    refine set_mke (mke_tup (mke_cons (mke_tup (mke_cons (mke_tup (mke_cons (mke_var rfl) (mke_cons mke_int mke_nil)) (by exact Nat.le_of_ble_eq_true rfl)) mke_nil) (by exact Nat.le_of_ble_eq_true rfl)) (mke_cons (mke_tup (mke_cons (mke_var rfl) (mke_cons (mke_var rfl) mke_nil)) (by exact Nat.le_of_ble_eq_true rfl)) (mke_cons (mke_var rfl) mke_nil))) (by exact Nat.le_of_ble_eq_true rfl)) g105 (trk1 hF105) (by simp [hl]) fun v106 H106 j106 _ g106 => ?_
    have hF106 := j106 _ _ hF105
    have hv106 := hv105.kp (Kp.of j106)
    have k106 := k105.trans j106
    refine app_mke (mke_tup (mke_cons (mke_var rfl) (mke_cons (mke_tup (mke_cons (mke_tup (mke_cons mke_str (mke_cons (mke_var rfl) mke_nil)) (by exact Nat.le_of_ble_eq_true rfl)) mke_nil) (by exact Nat.le_of_ble_eq_true rfl)) (mke_cons (mke_tup (mke_cons (mke_var rfl) (mke_cons (mke_tup (mke_cons mke_str mke_nil) (by exact Nat.le_of_ble_eq_true rfl)) mke_nil)) (by exact Nat.le_of_ble_eq_true rfl)) (mke_cons (mke_tup (mke_cons mke_str (mke_cons (mke_var rfl) (mke_cons (mke_tup mke_nil (by exact Nat.le_of_ble_eq_true rfl)) (mke_cons (mke_tup (mke_cons (mke_var rfl) (mke_cons (mke_tup (mke_cons mke_str mke_nil) (by exact Nat.le_of_ble_eq_true rfl)) mke_nil)) (by exact Nat.le_of_ble_eq_true rfl)) mke_nil)))) (by exact Nat.le_of_ble_eq_true rfl)) mke_nil)))) (by exact Nat.le_of_ble_eq_true rfl)) g106 k106 nF4 (by simp [hl]) hF106 hv106 (by exact Nat.le_of_ble_eq_true rfl) fun H107 vs107 k107 hF107 hv107 g107 => ?_
    refine set_mke (mke_tup (mke_cons mke_str (mke_cons (mke_var rfl) (mke_cons (mke_tup (mke_cons (mke_tup (mke_cons mke_str (mke_cons (mke_var rfl) mke_nil)) (by exact Nat.le_of_ble_eq_true rfl)) mke_nil) (by exact Nat.le_of_ble_eq_true rfl)) (mke_cons (mke_tup (mke_cons (mke_tup (mke_cons mke_str mke_nil) (by exact Nat.le_of_ble_eq_true rfl)) mke_nil) (by exact Nat.le_of_ble_eq_true rfl)) mke_nil)))) (by exact Nat.le_of_ble_eq_true rfl)) g107 (trk1 hF107) (by simp [hl]) fun v108 H108 j108 _ g108 => ?_
    have hF108 := j108 _ _ hF107
    have hv108 := hv107.kp (Kp.of j108)
    have k108 := k107.trans j108
    refine app_mke (mke_tup (mke_cons (mke_var rfl) (mke_cons (mke_tup (mke_cons (mke_var rfl) mke_nil) (by exact Nat.le_of_ble_eq_true rfl)) (mke_cons (mke_tup (mke_cons (mke_var rfl) (mke_cons (mke_tup (mke_cons mke_str mke_nil) (by exact Nat.le_of_ble_eq_true rfl)) mke_nil)) (by exact Nat.le_of_ble_eq_true rfl)) (mke_cons (mke_tup (mke_cons mke_str (mke_cons (mke_var rfl) (mke_cons (mke_tup (mke_cons (mke_tup (mke_cons mke_str (mke_cons (mke_var rfl) mke_nil)) (by exact Nat.le_of_ble_eq_true rfl)) mke_nil) (by exact Nat.le_of_ble_eq_true rfl)) (mke_cons (mke_tup (mke_cons (mke_tup (mke_cons mke_str mke_nil) (by exact Nat.le_of_ble_eq_true rfl)) (mke_cons (mke_var rfl) (mke_cons (mke_tup (mke_cons mke_str mke_nil) (by exact Nat.le_of_ble_eq_true rfl)) mke_nil))) (by exact Nat.le_of_ble_eq_true rfl)) mke_nil)))) (by exact Nat.le_of_ble_eq_true rfl)) mke_nil)))) (by exact Nat.le_of_ble_eq_true rfl)) g108 k108 nF4 (by simp [hl]) hF108 hv108 (by exact Nat.le_of_ble_eq_true rfl) fun H109 vs109 k109 hF109 hv109 g109 => ?_
    refine set_mke (mke_tup (mke_cons (mke_tup (mke_cons (mke_tup (mke_cons (mke_var rfl) (mke_cons mke_int mke_nil)) (by exact Nat.le_of_ble_eq_true rfl)) mke_nil) (by exact Nat.le_of_ble_eq_true rfl)) (mke_cons (mke_tup (mke_cons (mke_var rfl) mke_nil) (by exact Nat.le_of_ble_eq_true rfl)) (mke_cons (mke_tup (mke_cons mke_str (mke_cons (mke_var rfl) (mke_cons (mke_tup (mke_cons (mke_tup (mke_cons mke_str (mke_cons (mke_var rfl) mke_nil)) (by exact Nat.le_of_ble_eq_true rfl)) (mke_cons (mke_tup (mke_cons mke_str (mke_cons (mke_var rfl) mke_nil)) (by exact Nat.le_of_ble_eq_true rfl)) mke_nil)) (by exact Nat.le_of_ble_eq_true rfl)) (mke_cons (mke_tup (mke_cons (mke_tup (mke_cons mke_str (mke_cons (mke_var rfl) mke_nil)) (by exact Nat.le_of_ble_eq_true rfl)) mke_nil) (by exact Nat.le_of_ble_eq_true rfl)) mke_nil)))) (by exact Nat.le_of_ble_eq_true rfl)) mke_nil))) (by exact Nat.le_of_ble_eq_true rfl)) g109 (trk1 hF109) (by simp [hl]) fun v110 H110 j110 _ g110 => ?_
    have hF110 := j110 _ _ hF109
    have hv110 := hv109.kp (Kp.of j110)
    have k110 := k109.trans j110
    refine app_mke (mke_tup (mke_cons (mke_var rfl) (mke_cons (mke_tup (mke_cons (mke_var rfl) mke_nil) (by exact Nat.le_of_ble_eq_true rfl)) (mke_cons (mke_tup (mke_cons (mke_var rfl) mke_nil) (by exact Nat.le_of_ble_eq_true rfl)) (mke_cons (mke_tup (mke_cons mke_str (mke_cons (mke_var rfl) (mke_cons (mke_tup (mke_cons (mke_var rfl) (mke_cons (mke_tup (mke_cons mke_str (mke_cons (mke_var rfl) mke_nil)) (by exact Nat.le_of_ble_eq_true rfl)) mke_nil)) (by exact Nat.le_of_ble_eq_true rfl)) (mke_cons (mke_tup (mke_cons (mke_var rfl) mke_nil) (by exact Nat.le_of_ble_eq_true rfl)) mke_nil)))) (by exact Nat.le_of_ble_eq_true rfl)) mke_nil)))) (by exact Nat.le_of_ble_eq_true rfl)) g110 k110 nF4 (by simp [hl]) hF110 hv110 (by exact Nat.le_of_ble_eq_true rfl) fun H111 vs111 k111 hF111 hv111 g111 => ?_
    refine set_mke (mke_tup (mke_cons (mke_tup (mke_cons (mke_tup (mke_cons (mke_var rfl) (mke_cons mke_int mke_nil)) (by exact Nat.le_of_ble_eq_true rfl)) mke_nil) (by exact Nat.le_of_ble_eq_true rfl)) (mke_cons (mke_tup (mke_cons (mke_var rfl) mke_nil) (by exact Nat.le_of_ble_eq_true rfl)) (mke_cons (mke_tup (mke_cons mke_str (mke_cons (mke_tup (mke_cons mke_int mke_nil) (by exact Nat.le_of_ble_eq_true rfl)) (mke_cons (mke_tup (mke_cons mke_str (mke_cons (mke_tup (mke_cons mke_str (mke_cons (mke_var rfl) mke_nil)) (by exact Nat.le_of_ble_eq_true rfl)) (mke_cons (mke_cut3 rfl (mke_cons (mke_tup (mke_cons (mke_tup (mke_cons mke_str (mke_cons (mke_var rfl) mke_nil)) (by exact Nat.le_of_ble_eq_true rfl)) mke_nil) (by exact Nat.le_of_ble_eq_true rfl)) mke_nil) (by exact Nat.le_of_ble_eq_true rfl)) mke_nil))) (by exact Nat.le_of_ble_eq_true rfl)) (mke_cons (mke_tup (mke_cons mke_str mke_nil) (by exact Nat.le_of_ble_eq_true rfl)) mke_nil)))) (by exact Nat.le_of_ble_eq_true rfl)) mke_nil))) (by exact Nat.le_of_ble_eq_true rfl)) g111 (trk1 hF111) (by simp [hl]) fun v112 H112 j112 _ g112 => ?_
    have hF112 := j112 _ _ hF111
    have hv112 := hv111.kp (Kp.of j112)
    have k112 := k111.trans j112
    refine set_mke (mke_tup (mke_cons mke_str (mke_cons (mke_var rfl) (mke_cons (mke_tup (mke_cons (mke_tup (mke_cons mke_str (mke_cons (mke_var rfl) mke_nil)) (by exact Nat.le_of_ble_eq_true rfl)) mke_nil) (by exact Nat.le_of_ble_eq_true rfl)) (mke_cons (mke_tup (mke_cons (mke_tup (mke_cons mke_str mke_nil) (by exact Nat.le_of_ble_eq_true rfl)) (mke_cons (mke_var rfl) mke_nil)) (by exact Nat.le_of_ble_eq_true rfl)) mke_nil)))) (by exact Nat.le_of_ble_eq_true rfl)) g112 (trk1 hF112) (by simp [hl]) fun v113 H113 j113 _ g113 => ?_
    have hF113 := j113 _ _ hF112
    have hv113 := hv112.kp (Kp.of j113)
    have k113 := k112.trans j113
    refine app_mke (mke_tup (mke_cons (mke_var rfl) (mke_cons (mke_tup (mke_cons (mke_var rfl) mke_nil) (by exact Nat.le_of_ble_eq_true rfl)) (mke_cons (mke_tup (mke_cons (mke_var rfl) mke_nil) (by exact Nat.le_of_ble_eq_true rfl)) (mke_cons (mke_tup (mke_cons mke_str (mke_cons (mke_tup (mke_cons mke_int mke_nil) (by exact Nat.le_of_ble_eq_true rfl)) (mke_cons (mke_tup (mke_cons mke_str (mke_cons (mke_var rfl) (mke_cons (mke_var rfl) mke_nil))) (by exact Nat.le_of_ble_eq_true rfl)) (mke_cons (mke_tup (mke_cons mke_str mke_nil) (by exact Nat.le_of_ble_eq_true rfl)) mke_nil)))) (by exact Nat.le_of_ble_eq_true rfl)) mke_nil)))) (by exact Nat.le_of_ble_eq_true rfl)) g113 k113 nF4 (by simp [hl]) hF113 hv113 (by exact Nat.le_of_ble_eq_true rfl) fun H114 vs114 k114 hF114 hv114 g114 => ?_
    refine set_mke (mke_tup (mke_cons (mke_tup (mke_cons (mke_tup (mke_cons (mke_var rfl) (mke_cons mke_int mke_nil)) (by exact Nat.le_of_ble_eq_true rfl)) mke_nil) (by exact Nat.le_of_ble_eq_true rfl)) (mke_cons (mke_tup (mke_cons (mke_var rfl) (mke_cons (mke_var rfl) mke_nil)) (by exact Nat.le_of_ble_eq_true rfl)) (mke_cons (mke_tup (mke_cons mke_str (mke_cons (mke_var rfl) (mke_cons (mke_tup (mke_cons (mke_tup (mke_cons mke_str (mke_cons (mke_var rfl) (mke_cons (mke_tup (mke_cons (mke_tup (mke_cons mke_str (mke_cons (mke_var rfl) mke_nil)) (by exact Nat.le_of_ble_eq_true rfl)) mke_nil) (by exact Nat.le_of_ble_eq_true rfl)) (mke_cons (mke_tup (mke_cons (mke_tup (mke_cons mke_str (mke_cons (mke_var rfl) mke_nil)) (by exact Nat.le_of_ble_eq_true rfl)) mke_nil) (by exact Nat.le_of_ble_eq_true rfl)) mke_nil)))) (by exact Nat.le_of_ble_eq_true rfl)) mke_nil) (by exact Nat.le_of_ble_eq_true rfl)) (mke_cons (mke_tup (mke_cons (mke_tup (mke_cons mke_str (mke_cons (mke_var rfl) mke_nil)) (by exact Nat.le_of_ble_eq_true rfl)) mke_nil) (by exact Nat.le_of_ble_eq_true rfl)) mke_nil)))) (by exact Nat.le_of_ble_eq_true rfl)) mke_nil))) (by exact Nat.le_of_ble_eq_true rfl)) g114 (trk1 hF114) (by simp [hl]) fun v115 H115 j115 _ g115 => ?_
    have hF115 := j115 _ _ hF114
    have hv115 := hv114.kp (Kp.of j115)
    have k115 := k114.trans j115
    refine set_mke (mke_tup (mke_cons mke_str (mke_cons (mke_var rfl) (mke_cons (mke_tup (mke_cons (mke_tup (mke_cons mke_str (mke_cons (mke_var rfl) (mke_cons (mke_tup (mke_cons (mke_tup (mke_cons mke_str (mke_cons (mke_var rfl) mke_nil)) (by exact Nat.le_of_ble_eq_true rfl)) mke_nil) (by exact Nat.le_of_ble_eq_true rfl)) (mke_cons (mke_tup (mke_cons (mke_var rfl) mke_nil) (by exact Nat.le_of_ble_eq_true rfl)) mke_nil)))) (by exact Nat.le_of_ble_eq_true rfl)) mke_nil) (by exact Nat.le_of_ble_eq_true rfl)) (mke_cons (mke_tup (mke_cons (mke_var rfl) mke_nil) (by exact Nat.le_of_ble_eq_true rfl)) mke_nil)))) (by exact Nat.le_of_ble_eq_true rfl)) g115 (trk1 hF115) (by simp [hl]) fun v116 H116 j116 _ g116 => ?_
    have hF116 := j116 _ _ hF115
    have hv116 := hv115.kp (Kp.of j116)
    have k116 := k115.trans j116
    refine ⟨_, by simp [hl]; rfl, ?_⟩
    refine mke_lst (S := [F]) (mke_cons (mke_tup (mke_cons (mke_var rfl) (mke_cons (mke_tup (mke_cons (mke_tup (mke_cons mke_str (mke_cons (mke_var rfl) mke_nil)) (by exact Nat.le_of_ble_eq_true rfl)) mke_nil) (by exact Nat.le_of_ble_eq_true rfl)) (mke_cons (mke_tup (mke_cons (mke_var rfl) (mke_cons (mke_var rfl) mke_nil)) (by exact Nat.le_of_ble_eq_true rfl)) (mke_cons (mke_var rfl) mke_nil)))) (by exact Nat.le_of_ble_eq_true rfl)) mke_nil) (by exact Nat.le_of_ble_eq_true rfl) _ _ _ g116 (trk1 hF116) fun v18 H18 k18 _ g18 => ?_
    obtain ⟨b18, ws, rfl, hb18, nb18, hw18⟩ : ∃ b18 ws, v18 = .ref b18 ∧ H18 b18 = some (.lst ws) ∧ b18 ∉ [F] ∧ DvAll [F] H18 ws _ := by
      cases g18 with
      | lst h n t => exact ⟨_, _, rfl, h, n, t⟩
    refine ⟨F, b18, _, _, rfl, rfl, k18 _ _ hF116, hb18, by rw [hv116.length, hw18.length, sizeLine_eq]; exact Nat.le_of_ble_eq_true rfl, fun p19 hp19 => ?_⟩
    have hall := ((hv116.kp (Kp.of k18)).append hw18).sub (S' := []) fun a m => nomatch m
    have k20 := k3.trans (k4.trans (k116.trans (k18.trans (same_new (o := .lst (vs114 ++ ws)) hp19))))
    exact q _ p19 (hands a b c x y e) (kk.trans (Kp.of k20)) (hW2.same k20) (.lst upd_same (fun m => nomatch m) (hall.kp (Kp.of (same_new hp19)))) hok (by show 7 ≤ 10; decide)
end
end K19
set_option Elab.async false
set_option linter.all false
set_option maxRecDepth 100000
set_option maxHeartbeats 4000000
/-! k19: picks. -/
namespace K19
open PySem PySem.Spec PyProof.Rows L2 Zg Zr Zd Zv
theorem well_in {H : Hp} {wd l : Addr} {C : Nat} (h : Well H wd l C) {a : Addr} {xs : List V} (ha : H a = some (.tup xs)) : a ∉ [wd, l] := fun m => by
  obtain ⟨_, _, _, _, h1, h2, _⟩ := h
  simp only [List.mem_cons, List.not_mem_nil, or_false] at m
  rcases m with rfl | rfl
  · rw [ha] at h1
    cases h1
  · rw [ha] at h2
    cases h2
theorem well_trk {H : Hp} {wd l : Addr} {C : Nat} (h : Well H wd l C) {p : Addr} (hp : H p = none) : p ∉ [wd, l] := fun m => by
  obtain ⟨_, _, _, _, h1, h2, _⟩ := h
  simp only [List.mem_cons, List.not_mem_nil, or_false] at m
  rcases m with rfl | rfl
  · rw [hp] at h1
    cases h1
  · rw [hp] at h2
    cases h2
theorem Well.put {H : Hp} {wd l : Addr} {C : Nat} (h : Well H wd l C) {p : Addr} {o : HO} (hp : p ∉ [wd, l]) : Well (upd H p o) wd l C := by
  obtain ⟨n, b, c, ns, h1, h2, r⟩ := h
  simp only [List.mem_cons, List.not_mem_nil, or_false, not_or] at hp
  exact ⟨n, b, c, ns, by rw [upd_ne (Ne.symm hp.1)]; exact h1, by rw [upd_ne (Ne.symm hp.2)]; exact h2, r⟩
section
variable {P : Program} {w : World} {K : PySem.W.Frag} {mg : PySem.Str → Option Value} {base : Heap}
def sp_pick : Sp := fun vs H Q _ => ∃ (wd l a : Addr) (C : Nat) (xs : List V), vs = [.ref wd, .ref a] ∧ Well H wd l C ∧ C < LIM ∧ a ∉ [wd, l] ∧ H a = some (.lst xs) ∧ xs ≠ [] ∧ xs.length ≤ 1000 ∧
  ∀ (H' : Hp) (x : V), Kp [wd, l] H H' → Well H' wd l (C + 1) → x ∈ xs → Q x H'
theorem ok_pick (T : Txt K mg) : FnOk P w K mg base CX0 2 T.a_pick T.d_pick P_pick sp_pick := by
  refine T.F_pick.ok sc_pick (fun vs H Q E h => by obtain ⟨wd, l, a, C, xs, rfl, _⟩ := h; rfl) (fun cdv A outer s H vs Q E hr h => ?_)
  refine ⟨_, (pss_one (ps_ret (pe_ix ix_list (pv 1) (pe_call (ok_draw T) (hr.mono (by decide)) (by rfl) T.g_draw T.F_draw.kp T.b_draw .nil pass0 (pa_cons (pv 0) (pa_cons (pe_callB call_len_seq (by rfl) T.n_len (by decide +kernel) (pa_cons (pv 1) pa_nil)) pa_nil))) (fun _ _ => rfl)))), ?_⟩
  obtain ⟨wd, l, a, C, xs, rfl, hW, hC, na, ha, hx, hl, q⟩ := h
  have hpos : 0 < xs.length := List.length_pos_iff.mpr hx
  refine ⟨_, rfl, _, rfl, _, rfl, a, xs, rfl, .inl (SqL.of ha), wd, l, _, C, rfl, hW, hC, Int.natCast_pos.mpr hpos, by omega, fun H' r k hW' r0 r1 => ?_⟩
  obtain ⟨n, rfl⟩ : ∃ n : Nat, r = (n : Int) := ⟨r.toNat, by omega⟩
  have hn : n < xs.length := by omega
  exact ⟨a, xs, _, xs[n], rfl, rfl, SqL.of (k _ _ na ha), atI_nat (List.getElem?_eq_getElem hn), q H' _ k hW' (List.getElem_mem hn)⟩
def sp_some : Sp := fun vs H Q _ => ∃ (wd l a : Addr) (m : Int) (C : Nat) (xs : List V), vs = [.ref wd, .ref a, .int m] ∧ Well H wd l C ∧ C + xs.length < LIM ∧ a ∉ [wd, l] ∧ H a = some (.lst xs) ∧ xs.length ≤ 1000 ∧ 0 < m ∧ m < 1073741824 ∧
  ∀ (H' : Hp) (p : Addr) (ys : List V), Kp [wd, l] H H' → Well H' wd l (C + xs.length) → H p = none → H' p = some (.lst ys) → (∀ y ∈ ys, y ∈ xs) → ys.length ≤ xs.length → Q (.ref p) H'
theorem ok_some (T : Txt K mg) : FnOk P w K mg base CX0 2 T.a_some T.d_some P_some sp_some := by
  refine T.F_some.ok sc_some (fun vs H Q E h => by obtain ⟨wd, l, a, m, C, xs, rfl, _⟩ := h; rfl) (fun cdv A outer s H vs Q E hr h => ?_)
  refine ⟨_, (pss_one (ps_ret (pe_lc (own := [("one", 3)]) rfl sc_some.nd (pi_list (pv 1)) (blkOk_by (own := [("one", 3)]) (N := N_some) (sc := defScope s_some) (by decide +kernel)) (fun _ _ _ _ _ => (pg_name (i := 3) sc_some.nd rfl (Or.inl rfl))) (fun _ _ _ _ _ => (pts_one (pt_cmpR op_eq (pe_call (ok_draw T) (hr.mono (by decide)) (by rfl) T.g_draw T.F_draw.kp T.b_draw .nil pass0 (pa_cons (pv 0) (pa_cons (pv 2) pa_nil))) pe_int (nomark _)))) (fun _ _ _ _ _ => (pv 3))))), ?_⟩
  obtain ⟨wd, l, a, m, C, xs, rfl, hW, hC, na, ha, hl, m0, m1, q⟩ := h
  refine ⟨_, rfl, a, rfl, ⟨_, SqL.of ha⟩, fun D hD => ?_⟩
  have nD := well_trk hW hD
  refine lc_it (walk_list (K := K) (a := a) (xs := xs)) (fun i H' => ∃ ys, Kp [wd, l] H H' ∧ Well H' wd l (C + i) ∧ H' D = some (.lst ys) ∧ (∀ y ∈ ys, y ∈ xs) ∧ ys.length ≤ i) ⟨[], Kp.new hD, hW.put nD, upd_same, (fun _ z => nomatch z), Nat.le_refl _⟩ (fun i H' _ ⟨_, k, _⟩ => SqL.of (k _ _ na ha)) ?_ ?_
  · rintro i x H' H'' hi ⟨ys, k, hW', hDl, hy, hyl⟩ ⟨rfl, hx⟩
    refine ⟨rfl, _, rfl, _, rfl, wd, l, m, C + i, rfl, hW', by omega, m0, m1, fun H2 r k2 hW2 r0 r1 => ⟨rfl, _, rfl, ?_⟩⟩
    have kk := k.trans k2
    have hD2 := k2 _ _ nD hDl
    refine ite2 (fun _ => ?_) (fun _ => ⟨ys, kk, hW2, hD2, hy, Nat.le_succ_of_le hyl⟩)
    refine ⟨_, rfl, ys, hD2, by rw [sizeLine_eq]; omega, ys ++ [x], fun b o nb e => ?_, hW2.put nD, upd_same, fun y hy' => ?_, by rw [List.length_append, List.length_singleton]; omega⟩
    · rw [upd_ne (fun z => by rw [z, hD] at e; cases e)]
      exact kk _ _ nb e
    · rcases List.mem_append.mp hy' with h | h
      · exact hy y h
      · rw [List.mem_singleton] at h
        rw [h]
        exact List.mem_of_getElem? hx
  · rintro H' ⟨ys, k, hW', hDl, hy, hyl⟩
    exact q H' D ys k hW' hD hDl hy hyl
end
end K19
set_option Elab.async false
set_option linter.all false
set_option maxRecDepth 100000
set_option maxHeartbeats 4000000
/-! k19: leaves; what a drawn term is. -/
namespace K19
open PySem PySem.Spec PyProof.Rows L2 Zg Zr Zd Zv
def Gf : Nat → Nat
  | 0 => 30
  | d + 1 => 5 * Gf d + 21
theorem gf_pos : ∀ d, 30 ≤ Gf d
  | 0 => Nat.le_refl _
  | d + 1 => by
    have := gf_pos d
    show 30 ≤ 5 * Gf d + 21
    omega
/-- a term that was drawn, so deep -/
structure Gen (N : List PySem.Str) (d : Nat) (t : Tm) : Prop where
  fit : Fit N (d + 1) t
  bk : t.bk ≤ Gf d
  pl : t.pl ≤ Pf d
  dp : t.dp ≤ 2 * d + 4
section
variable {N : List PySem.Str} {d : Nat}
theorem gen_leaf {w0 : PySem.Str} (h : w0 ∈ (["end", "wait", "fail"] : List PySem.Str)) : Gen N d (.leaf w0) := by
  refine ⟨.leaf h, Nat.le_trans ?_ (gf_pos d), Nat.zero_le _, ?_⟩
  · exact Nat.le_trans (fit_size (N := []) (d := 0) (.leaf h)).1 (by decide)
  · show 0 + 1 ≤ _
    omega
theorem gen_go {x : PySem.Str} (h : x ∈ N) (n : Nm x) : Gen N d (.go x) := by
  refine ⟨.go h n, Nat.le_trans ?_ (gf_pos d), pf_pos d, ?_⟩
  · exact Nat.le_trans (fit_size (N := N) (d := 0) (.go h n)).1 (by decide)
  · show 0 + 1 ≤ _
    omega
theorem gen_given {x : PySem.Str} (n : Nm x) : Gen N d (.given x) := by
  refine ⟨.given n, Nat.le_trans ?_ (gf_pos d), pf_pos d, ?_⟩
  · exact Nat.le_trans (fit_size (N := N) (d := 0) (.given n)).1 (by decide)
  · show 0 + 1 ≤ _
    omega
theorem gen_act {a : PySem.Str} {t : Tm} (n : Nm a) (h : Gen N d t) : Gen N (d + 1) (.act a t) := by
  have := nm_size n
  have h1 := h.bk
  have h2 := h.pl
  have h3 := h.dp
  refine ⟨.act n h.fit, ?_, ?_, ?_⟩
  · rw [bk_act]
    show _ ≤ 5 * Gf d + 21
    omega
  · show t.pl ≤ 5 * Pf d + 1
    omega
  · rw [dp_act]
    omega
theorem gen_test {s : List Int} {y n : Tm} (h1 : s.length ≤ 3) (h2 : ∀ i ∈ s, 0 ≤ i ∧ i < 3) (hy : Gen N d y) (hn : Gen N d n) : Gen N (d + 1) (.test s y n) := by
  have a1 := hy.bk
  have a2 := hy.pl
  have a3 := hy.dp
  have b1 := hn.bk
  have b2 := hn.pl
  have b3 := hn.dp
  refine ⟨.test h1 h2 hy.fit hn.fit, ?_, ?_, ?_⟩
  · rw [bk_test, ints_bulk]
    show _ ≤ 5 * Gf d + 21
    omega
  · show y.pl + n.pl ≤ 5 * Pf d + 1
    omega
  · rw [dp_test, ints_depth]
    omega
theorem gen_pick {ts : List Tm} (h1 : 1 ≤ ts.length) (h2 : ts.length ≤ 3) (h : ∀ t ∈ ts, Gen N d t) : Gen N (d + 1) (.pick ts) := by
  have b := bks_le (B := Gf d) fun t m => (h t m).bk
  have p := pls_le (B := Pf d) fun t m => (h t m).pl
  have e := dps_le (B := 2 * d + 4) fun t m => (h t m).dp
  have b2 := mul_le3 (B := Gf d + 1) h2
  have p2 := mul_le3 (B := Pf d) h2
  refine ⟨.pick h1 h2 fun t m => (h t m).fit, ?_, ?_, ?_⟩
  · rw [bk_pick]
    show _ ≤ 5 * Gf d + 21
    omega
  · show pls ts ≤ 5 * Pf d + 1
    omega
  · rw [dp_pick]
    omega
theorem gen_call {b : Bool} {x : PySem.Str} {fs ts : List Tm} (n : Nm x) (h1 : fs.length ≤ 2) (h2 : ts.length ≤ 3) (hf : ∀ t ∈ fs, Gen N d t) (ht : ∀ t ∈ ts, Gen N d t) : Gen N (d + 1) (.call b x fs ts) := by
  have := nm_size n
  have b1 := bks_le (B := Gf d) fun t m => (hf t m).bk
  have p1 := pls_le (B := Pf d) fun t m => (hf t m).pl
  have e1 := dps_le (B := 2 * d + 4) fun t m => (hf t m).dp
  have b2 := mul_le3 (B := Gf d + 1) h1
  have p2 := mul_le3 (B := Pf d) h1
  have b3 := bks_le (B := Gf d) fun t m => (ht t m).bk
  have p3 := pls_le (B := Pf d) fun t m => (ht t m).pl
  have e3 := dps_le (B := 2 * d + 4) fun t m => (ht t m).dp
  have b4 := mul_le3 (B := Gf d + 1) h2
  have p4 := mul_le3 (B := Pf d) h2
  refine ⟨.call n h1 h2 (fun t m => (hf t m).fit) (fun t m => (ht t m).fit), ?_, ?_, ?_⟩
  · rw [bk_call]
    show _ ≤ 5 * Gf d + 21
    omega
  · show (if b = true then 1 else 0) + (pls fs + pls ts) ≤ 5 * Pf d + 1
    have : (if b = true then 1 else 0) ≤ 1 := by cases b <;> decide
    omega
  · rw [dp_call]
    omega
/-- what stands ready where nothing is drawn further: a part of the base with one leaf at most -/
theorem gen_base {x : PySem.Str} {ts : List Tm} (n : Nm x) (h2 : ts.length ≤ 1) (ht : ∀ t ∈ ts, (∃ w0, t = .leaf w0 ∧ w0 ∈ (["end", "wait", "fail"] : List PySem.Str)) ∨ ∃ y, t = .go y ∧ y ∈ N ∧ Nm y) : Gen N d (.call false x [] ts) := by
  have hf : ∀ t ∈ ts, Fit N 0 t ∧ t.dp ≤ 1 ∧ t.bk ≤ 12 := fun t m => by
    rcases ht t m with ⟨w0, rfl, h⟩ | ⟨y, rfl, h, ny⟩
    · refine ⟨.leaf h, by show 0 + 1 ≤ 1; omega, ?_⟩
      show w0.cps.size + 1 + 0 ≤ 12
      simp only [List.mem_cons, List.not_mem_nil, or_false] at h
      rcases h with rfl | rfl | rfl <;> decide +kernel
    · have := nm_size ny
      exact ⟨.go h ny, by show 0 + 1 ≤ 1; omega, by rw [bk_go]; omega⟩
  have := nm_size n
  have b3 := bks_le (B := 12) fun t m => (hf t m).2.2
  have p3 := pls_le (B := 1) fun t m => (fit_size (hf t m).1).2.1
  have e3 := dps_le (B := 1) fun t m => (hf t m).2.1
  have b4 := mul_le3 (B := 12 + 1) h2
  have p4 := mul_le3 (B := 1) h2
  refine ⟨.call n (Nat.zero_le _) (by omega) (fun _ m => nomatch m) (fun t m => (hf t m).1.mono (Nat.zero_le _)), ?_, ?_, ?_⟩
  · rw [bk_call]
    have := gf_pos d
    show _ + 0 + _ + 8 ≤ _
    omega
  · show 0 + (0 + pls ts) ≤ _
    have := pf_pos d
    omega
  · rw [dp_call]
    show max (0 + 1) _ + 1 ≤ _
    omega
end
def headD (pn : List (PySem.Str × Int)) (ns : List PySem.Str) : PyData := .tuple [.tuple (pn.map prD), .tuple (ns.map .str)]
theorem _root_.Zv.DvAll.memV {S : List Addr} {H : Hp} : ∀ {vs : List V} {ds : List PyData}, DvAll S H vs ds → ∀ {v : V}, v ∈ vs → ∃ d ∈ ds, Dv S H v d
  | _, _, .nil, _, m => nomatch m
  | _, _, .cons (v := v0) h t, v, m => by
    rcases List.mem_cons.mp m with rfl | m
    · exact ⟨_, List.mem_cons_self, h⟩
    · obtain ⟨d, md, hd⟩ := t.memV m
      exact ⟨d, List.mem_cons_of_mem _ md, hd⟩
theorem cons_of {ta : TE} {tr : TA} {σ : L2.St} {H : Hp} {Q : List V → Hp → Prop} (h : ta σ H fun x H1 => tr σ H1 fun xs H2 => Q (x :: xs) H2) : tCons ta tr σ H Q := h
theorem op_of {r : R2} {ta tb : TE} {σ : L2.St} {H : Hp} {Q : VK} (h : ta σ H fun x H1 => tb σ H1 fun y H2 => r x y H2 Q) : tOp r ta tb σ H Q := h
/-- a leaf -/
def Lf (N : List PySem.Str) (t : Tm) : Prop := (∃ w0, t = .leaf w0 ∧ w0 ∈ (["end", "wait", "fail"] : List PySem.Str)) ∨ ∃ y, t = .go y ∧ y ∈ N ∧ Nm y
theorem Lf.gen {N : List PySem.Str} {t : Tm} (h : Lf N t) (d : Nat) : Gen N d t := by
  rcases h with ⟨w0, rfl, h⟩ | ⟨y, rfl, h, n⟩
  · exact gen_leaf h
  · exact gen_go h n
section
variable {P : Program} {w : World} {K : PySem.W.Frag} {mg : PySem.Str → Option Value} {base : Heap}
def sp_leaf : Sp := fun vs H Q _ => ∃ (wd l : Addr) (v : V) (S : List Addr) (C : Nat) (pn : List (PySem.Str × Int)) (N : List PySem.Str), vs = [.ref wd, v] ∧ Well H wd l C ∧ C < LIM ∧ wd ∈ S ∧ l ∈ S ∧ Trk S H ∧ Dv S H v (headD pn N) ∧ N.length ≤ 3 ∧ (∀ x ∈ N, Nm x) ∧
  ∀ (H' : Hp) (r : V) (t : Tm), Kp [wd, l] H H' → Well H' wd l (C + 1) → Dv S H' r t.data → Lf N t → Q r H'
theorem ok_leaf (T : Txt K mg) : FnOk P w K mg base CX0 3 T.a_leaf T.d_leaf P_leaf sp_leaf := by
  refine T.F_leaf.ok sc_leaf (fun vs H Q E h => by obtain ⟨wd, l, v, S, C, pn, N, rfl, _⟩ := h; rfl) (fun cdv A outer s H vs Q E hr h => ?_)
  refine ⟨_, (pss_one (ps_ret (pe_call (ok_pick T) (hr.mono (by decide)) (by rfl) T.g_pick T.F_pick.kp T.b_pick .nil pass0 (pa_cons (pv 0) (pa_cons (pe_op op_cat (pe_lst (pa_cons (pe_tup (pa_cons pe_str pa_nil)) (pa_cons (pe_tup (pa_cons pe_str pa_nil)) (pa_cons (pe_tup (pa_cons pe_str pa_nil)) (pa_cons (pe_tup (pa_cons pe_str pa_nil)) pa_nil))))) (pe_op op_rep (pe_lc (own := [("name", 2)]) rfl sc_leaf.nd (pi_tup (pe_ix ix_tup (pv 1) pe_int (fun _ _ => rfl))) (blkOk_by (own := [("name", 2)]) (N := N_leaf) (sc := defScope s_leaf) (by decide +kernel)) (fun _ _ _ _ _ => (pg_name (i := 2) sc_leaf.nd rfl (Or.inl rfl))) (fun _ _ _ _ _ => pts_nil) (fun _ _ _ _ _ => (pe_tup (pa_cons pe_str (pa_cons (pv 2) pa_nil))))) pe_int)) pa_nil))))), ?_⟩
  obtain ⟨wd, l, v, S, C, pn, N, rfl, hW, hC, mw, ml, tr, hv, lN, hN, q⟩ := h
  obtain ⟨o, xs, rfl, ho, no, hx⟩ := Dv.tup_inv hv
  cases hx with
  | @cons v0 _ _ _ x0 hx =>
  cases hx with
  | @cons v1 _ _ _ x1 hx =>
  cases hx
  obtain ⟨o2, zs, rfl, ho2, no2, hz⟩ := x1.tup_inv
  obtain rfl := strs_inv hz
  refine ⟨_, rfl, ?_⟩
  show tCons _ _ _ _ _
  refine cons_of (op_of ?_)
  refine mke_lst (S := S) (Γ := []) (mke_cons (mke_tup (mke_cons mke_str mke_nil) (by exact Nat.le_of_ble_eq_true rfl)) (mke_cons (mke_tup (mke_cons mke_str mke_nil) (by exact Nat.le_of_ble_eq_true rfl)) (mke_cons (mke_tup (mke_cons mke_str mke_nil) (by exact Nat.le_of_ble_eq_true rfl)) (mke_cons (mke_tup (mke_cons mke_str mke_nil) (by exact Nat.le_of_ble_eq_true rfl)) mke_nil)))) (by exact Nat.le_of_ble_eq_true rfl) _ H _ (fun _ _ z => by simp at z) tr fun va H1 k1 tr1 ga => ?_
  obtain ⟨a, ws, rfl, ha, na, hws⟩ : ∃ a ws, va = .ref a ∧ H1 a = some (.lst ws) ∧ a ∉ S ∧ DvAll S H1 ws _ := by
    cases ga with
    | lst h n t => exact ⟨_, _, rfl, h, n, t⟩
  refine ⟨_, rfl, o, _, 1, _, rfl, rfl, SqT.of (k1 _ _ ho), atI_nat (j := 1) rfl, o2, rfl, ⟨_, SqT.of (k1 _ _ ho2)⟩, fun D hD => ?_⟩
  refine lc_it (walk_tup (K := K) (a := o2) (xs := N.map V.str)) (fun i H' => ∃ ys, Same H1 H' ∧ H' D = some (.lst ys) ∧ DvAll (D :: S) H' ys ((N.take i).map fun x => (Tm.go x).data) ∧ ys.length ≤ i) ⟨[], same_new hD, upd_same, .nil, Nat.le_refl _⟩ (fun i H' _ ⟨_, k, _⟩ => SqT.of (k _ _ (k1 _ _ ho2))) ?_ ?_
  · rintro i x H' H'' hi ⟨ys, k, hDl, hys, hyl⟩ ⟨rfl, hx⟩
    rw [List.getElem?_map] at hx
    cases hNi : N[i]? with
    | none => rw [hNi] at hx; cases hx
    | some y =>
    rw [hNi] at hx
    cases hx
    refine ⟨rfl, _, rfl, by show 2 ≤ sizeLine; decide, fun p hp => ?_⟩
    have kp := same_new (o := .tup [.str "go", .str y]) hp
    have hD2 := kp _ _ hDl
    have tr1' : Trk (D :: S) H'' := fun b m => by
      rcases List.mem_cons.mp m with rfl | m
      · rw [hDl]
        exact fun z => nomatch z
      · exact (tr1.same k) b m
    have kw : Kp (D :: S) (upd H'' p (.tup [.str "go", .str y])) (upd (upd H'' p (.tup [.str "go", .str y])) D (.lst (ys ++ [.ref p]))) := (Kp.refl _ _).wr (.inl List.mem_cons_self)
    refine ⟨ys, hD2, by rw [sizeLine_eq]; rw [List.length_map] at hi; omega, ys ++ [.ref p], same_put (k.trans kp) hD, upd_same, ?_, by rw [List.length_append, List.length_singleton]; omega⟩
    rw [List.take_succ, hNi, List.map_append]
    exact ((hys.kp (Kp.of kp)).append (.cons (.tup upd_same (tr1'.out hp) (.cons (.str _) (.cons (.str _) .nil))) .nil)).kp kw
  · rintro H2 ⟨ys, k2, hD2, hys, hyl⟩
    rw [List.length_map] at hyl hys
    refine ⟨D, 3, ys, rfl, rfl, hD2, by decide, by decide, by rw [sizeLine_eq]; show ys.length * 3 ≤ _; omega, fun p2 hp2 => ?_⟩
    have k3 := same_new (o := .lst (List.replicate (Int.toNat 3) ys).flatten) hp2
    have hp2' : (upd H2 p2 (.lst (List.replicate (Int.toNat 3) ys).flatten)) p2 = some (.lst (List.replicate (Int.toNat 3) ys).flatten) := upd_same
    have l3 : (List.replicate (Int.toNat 3) ys).flatten.length ≤ 9 := by
      show (ys ++ (ys ++ (ys ++ []))).length ≤ 9
      simp only [List.length_append, List.length_nil]
      omega
    have m3 : ∀ x ∈ (List.replicate (Int.toNat 3) ys).flatten, x ∈ ys := fun x m => by
      obtain ⟨z, hz, hm⟩ := List.mem_flatten.mp m
      exact (List.mem_replicate.mp hz).2 ▸ hm
    generalize (List.replicate (Int.toNat 3) ys).flatten = zs at k3 hp2' l3 m3
    have lw := hws.length
    have k23 := k2.trans k3
    refine ⟨a, p2, ws, zs, rfl, rfl, k23 _ _ ha, hp2', by rw [sizeLine_eq, lw]; show 4 + _ ≤ _; omega, fun p4 hp4 => ?_⟩
    have k4 := same_new (o := .lst (ws ++ zs)) hp4
    have k14 := k1.trans (k23.trans k4)
    have n4 : p4 ∉ [wd, l] := well_trk (hW.same (k1.trans k23)) hp4
    refine ⟨wd, l, p4, C, ws ++ zs, rfl, hW.same k14, hC, n4, upd_same, fun z => ?_, by rw [List.length_append, lw]; show 4 + _ ≤ _; omega, fun H' x k hW' hx => ?_⟩
    · have := congrArg List.length z
      rw [List.length_append, lw] at this
      exact absurd this (by show ¬ 4 + _ = 0; omega)
    · have kS : Kp S _ H' := k.sub (S' := S) fun b m => by
        simp only [List.mem_cons, List.not_mem_nil, or_false] at m
        rcases m with rfl | rfl
        · exact mw
        · exact ml
      have kq : Kp [wd, l] H H' := (Kp.of k14).trans k
      rcases List.mem_append.mp hx with m | m
      · obtain ⟨d, md, hd⟩ := hws.memV m
        have hd' := (hd.kp (Kp.of (k23.trans k4))).kp kS
        simp only [List.mem_cons, List.not_mem_nil, or_false] at md
        rcases md with rfl | rfl | rfl | rfl
        · exact q H' x (.leaf "end") kq hW' hd' (.inl ⟨_, rfl, by simp⟩)
        · exact q H' x (.leaf "wait") kq hW' hd' (.inl ⟨_, rfl, by simp⟩)
        · exact q H' x (.leaf "fail") kq hW' hd' (.inl ⟨_, rfl, by simp⟩)
        · exact q H' x (.leaf "end") kq hW' hd' (.inl ⟨_, rfl, by simp⟩)
      · obtain ⟨d, md, hd⟩ := (hys.sub (S' := S) fun b m => List.mem_cons_of_mem _ m).memV (m3 x m)
        have hd' := (hd.kp (Kp.of (k3.trans k4))).kp kS
        obtain ⟨y, hy, rfl⟩ := List.mem_map.mp md
        have hy' := List.mem_of_mem_take hy
        exact q H' x (.go y) kq hW' hd' (.inr ⟨y, rfl, hy', hN y hy'⟩)
end
end K19
set_option Elab.async false
set_option linter.all false
set_option maxRecDepth 100000
set_option maxHeartbeats 4000000
/-! k19: a plan, drawn lists of terms. -/
namespace K19
open PySem PySem.Spec PyProof.Rows L2 Zg Zr Zd Zv
/-- what a plan holds -/
structure Pl where
  sh : Addr
  ex : Addr
  hd : Addr
  md : Addr
  mo : Addr
  b : PySem.Str
  skv : List (Key × V)
  mkv : List (Key × V)
  hkv : List (Key × V)
  ms : List PySem.Str
  ks : List PySem.Str
  es : List (PySem.Str × Int)
  sz : Nat
  hget : PySem.Str → List (PySem.Str × Int) × List PySem.Str
def PK (sh ex hd md : Addr) (n : Int) (b : PySem.Str) : List (Key × V) := [(.inr "shop", .ref sh), (.inr "externals", .ref ex), (.inr "heads", .ref hd), (.inr "made", .ref md), (.inr "left", .int n), (.inr "base", .str b)]
theorem pk_put (sh ex hd md : Addr) (n n' : Int) (b : PySem.Str) : putK (PK sh ex hd md n b) (.inr "left") (.int n') = PK sh ex hd md n' b := by rfl
structure HeadOk (pn : List (PySem.Str × Int)) (ns : List PySem.Str) : Prop where
  lp : pn.length ≤ 2
  pp : ∀ p ∈ pn, Nm p.1 ∧ 1 ≤ p.2 ∧ p.2 ≤ 2
  ln : ns.length ≤ 3
  nn : ∀ x ∈ ns, Nm x
structure Pl.Ok (pl : Pl) : Prop where
  sz1 : 1 ≤ pl.sz
  sz3 : pl.sz ≤ 3
  m0 : pl.ms ≠ []
  m64 : pl.ms.length < 64
  mn : ∀ x ∈ pl.ms, Nm x
  e4 : pl.es.length ≤ 4
  en : ∀ p ∈ pl.es, Nm p.1 ∧ 1 ≤ p.2 ∧ p.2 ≤ 2
  k64 : pl.ks.length < 64
  kn : ∀ y ∈ pl.ks, Nm y ∧ HeadOk (pl.hget y).1 (pl.hget y).2
  two : ∃ y ∈ pl.ks, 2 ≤ (pl.hget y).2.length
  bn : Nm pl.b
structure Pl.At (pl : Pl) (S : List Addr) (H : Hp) : Prop where
  sh : H pl.sh = some (.dK pl.skv)
  nsh : pl.sh ∉ S
  size : valV pl.skv (.inr "size") = some (.int (pl.sz : Int))
  moves : valV pl.skv (.inr "moves") = some (.ref pl.mo)
  mo : H pl.mo = some (.dK pl.mkv)
  nmo : pl.mo ∉ S
  mks : pl.mkv.map (·.1) = pl.ms.map Sum.inr
  ex : H pl.ex = some (.dK (pl.es.map fun e => (.inr e.1, .int e.2)))
  nex : pl.ex ∉ S
  hd : H pl.hd = some (.dK pl.hkv)
  nhd : pl.hd ∉ S
  hk : pl.hkv.map (·.1) = pl.ks.map Sum.inr
  hv : ∀ y ∈ pl.ks, ∃ v, valV pl.hkv (.inr y) = some v ∧ Dv S H v (headD (pl.hget y).1 (pl.hget y).2)
theorem Pl.At.kp {pl : Pl} {S : List Addr} {H H' : Hp} (h : pl.At S H) (k : Kp S H H') : pl.At S H' := ⟨k _ _ h.nsh h.sh, h.nsh, h.size, h.moves, k _ _ h.nmo h.mo, h.nmo, h.mks, k _ _ h.nex h.ex, h.nex, k _ _ h.nhd h.hd, h.nhd, h.hk, fun y m => by
  obtain ⟨v, a, b⟩ := h.hv y m
  exact ⟨v, a, b.kp k⟩⟩
theorem Pl.At.fresh {pl : Pl} {S : List Addr} {H : Hp} {D : Addr} (h : pl.At S H) (n : H D = none) : pl.At (D :: S) H := by
  have ne : ∀ {a : Addr} {o : HO}, H a = some o → a ∉ S → a ∉ D :: S := fun {a o} e m z => by
    rcases List.mem_cons.mp z with rfl | z
    · rw [n] at e
      cases e
    · exact m z
  exact ⟨h.sh, ne h.sh h.nsh, h.size, h.moves, h.mo, ne h.mo h.nmo, h.mks, h.ex, ne h.ex h.nex, h.hd, ne h.hd h.nhd, h.hk, fun y m => by
    obtain ⟨v, a, b⟩ := h.hv y m
    exact ⟨v, a, b.fresh n⟩⟩
theorem Pl.At.sub {pl : Pl} {S S' : List Addr} {H : Hp} (h : pl.At S H) (e : ∀ a ∈ S', a ∈ S) : pl.At S' H :=
  ⟨h.sh, fun m => h.nsh (e _ m), h.size, h.moves, h.mo, fun m => h.nmo (e _ m), h.mks, h.ex, fun m => h.nex (e _ m), h.hd, fun m => h.nhd (e _ m), h.hk, fun y m => by
    obtain ⟨v, a, b⟩ := h.hv y m
    exact ⟨v, a, b.sub e⟩⟩
/-- a drawing under way -/
structure Fr (S : List Addr) (H : Hp) (wd l p : Addr) (pl : Pl) (C : Nat) (n : Int) : Prop where
  well : Well H wd l C
  pk : H p = some (.dK (PK pl.sh pl.ex pl.hd pl.md n pl.b))
  np : p ∉ [wd, l]
  pl : pl.At S H
  trk : Trk S H
  mw : wd ∈ S
  ml : l ∈ S
  mp : p ∈ S
theorem kp2 {wd l p : Addr} {H H' : Hp} (k : Kp [wd, l] H H') : Kp [wd, l, p] H H' := k.sub fun a m => by
  simp only [List.mem_cons, List.not_mem_nil, or_false] at m ⊢
  rcases m with h | h
  · exact .inl h
  · exact .inr (.inl h)
section
variable {S : List Addr} {H H' : Hp} {wd l p : Addr} {pl : Pl} {C C' : Nat} {n n' : Int}
theorem Fr.kS (f : Fr S H wd l p pl C n) {H1 H2 : Hp} (k : Kp [wd, l, p] H1 H2) : Kp S H1 H2 := k.sub fun a m => by
  simp only [List.mem_cons, List.not_mem_nil, or_false] at m
  rcases m with rfl | rfl | rfl
  · exact f.mw
  · exact f.ml
  · exact f.mp
theorem Fr.mono (f : Fr S H wd l p pl C n) (h : C ≤ C') : Fr S H wd l p pl C' n := ⟨f.well.mono h, f.pk, f.np, f.pl, f.trk, f.mw, f.ml, f.mp⟩
theorem Fr.same (f : Fr S H wd l p pl C n) (k : Same H H') : Fr S H' wd l p pl C n := ⟨f.well.same k, k _ _ f.pk, f.np, f.pl.kp (Kp.of k), f.trk.same k, f.mw, f.ml, f.mp⟩
theorem trk_kp {S T : List Addr} (t : Trk S H) (k : Kp T H H') (h : ∀ a ∈ T, H' a ≠ none) : Trk S H' := fun a m => by
  by_cases q : a ∈ T
  · exact h a q
  · cases e : H a with
    | none => exact absurd e (t a m)
    | some o =>
      rw [k _ _ q e]
      exact fun z => nomatch z
theorem Fr.draw (f : Fr S H wd l p pl C n) (k : Kp [wd, l] H H') (hW : Well H' wd l C') : Fr S H' wd l p pl C' n := by
  refine ⟨hW, k _ _ f.np f.pk, f.np, f.pl.kp (f.kS (kp2 k)), trk_kp f.trk k fun a m => ?_, f.mw, f.ml, f.mp⟩
  obtain ⟨_, _, _, _, h1, h2, _⟩ := hW
  simp only [List.mem_cons, List.not_mem_nil, or_false] at m
  rcases m with rfl | rfl
  · rw [h1]
    exact fun z => nomatch z
  · rw [h2]
    exact fun z => nomatch z
theorem Fr.left (f : Fr S H wd l p pl C n) : Fr S (upd H p (.dK (PK pl.sh pl.ex pl.hd pl.md n' pl.b))) wd l p pl C n' := by
  have k : Kp [p] H (upd H p (.dK (PK pl.sh pl.ex pl.hd pl.md n' pl.b))) := (Kp.refl _ _).wr (.inl List.mem_cons_self)
  refine ⟨f.well.put f.np, upd_same, f.np, f.pl.kp (k.sub fun a m => ?_), trk_kp f.trk k fun a m => ?_, f.mw, f.ml, f.mp⟩
  · rw [List.mem_singleton] at m
    exact m ▸ f.mp
  · rw [List.mem_singleton] at m
    rw [m, upd_same]
    exact fun z => nomatch z
theorem Fr.new (f : Fr S H wd l p pl C n) {D : Addr} {o : HO} (hD : H D = none) : Fr (D :: S) (upd H D o) wd l p pl C n := by
  have k := same_new (o := o) hD
  refine ⟨f.well.same k, k _ _ f.pk, f.np, (f.pl.fresh hD).kp (Kp.of k), fun a m => ?_, List.mem_cons_of_mem _ f.mw, List.mem_cons_of_mem _ f.ml, List.mem_cons_of_mem _ f.mp⟩
  rcases List.mem_cons.mp m with rfl | m
  · rw [upd_same]
    exact fun z => nomatch z
  · exact (f.trk.same k) a m
theorem Fr.sub {S' : List Addr} (f : Fr S H wd l p pl C n) (e : ∀ a ∈ S', a ∈ S) (mw : wd ∈ S') (ml : l ∈ S') (mp : p ∈ S') : Fr S' H wd l p pl C n := ⟨f.well, f.pk, f.np, f.pl.sub e, fun a m => f.trk a (e a m), mw, ml, mp⟩
theorem Fr.put (f : Fr S H wd l p pl C n) {D : Addr} {o : HO} (mD : D ∈ S) (n1 : D ≠ wd) (n2 : D ≠ l) (n3 : D ≠ p) : Fr S (upd H D o) wd l p pl C n := by
  have k : Kp [D] H (upd H D o) := (Kp.refl _ _).wr (.inl List.mem_cons_self)
  refine ⟨f.well.put (fun m => ?_), ?_, f.np, f.pl.kp (k.sub fun a m => ?_), trk_kp f.trk k fun a m => ?_, f.mw, f.ml, f.mp⟩
  · simp only [List.mem_cons, List.not_mem_nil, or_false] at m
    rcases m with h | h
    · exact n1 h
    · exact n2 h
  · rw [upd_ne (Ne.symm n3)]
    exact f.pk
  · rw [List.mem_singleton] at m
    exact m ▸ mD
  · rw [List.mem_singleton] at m
    rw [m, upd_same]
    exact fun z => nomatch z
theorem Fr.off (f : Fr S H wd l p pl C n) {D : Addr} (hD : H D = none) : D ≠ wd ∧ D ≠ l ∧ D ≠ p ∧ D ∉ S := by
  have nS := f.trk.out hD
  exact ⟨fun z => nS (z ▸ f.mw), fun z => nS (z ▸ f.ml), fun z => nS (z ▸ f.mp), nS⟩
end
section
variable {J : It} {m : Nat} {G : Hp → Prop} {Y : Nat → Hp → V → Hp → Prop}
/-- a list of terms that are drawn one by one -/
theorem lc_gen (wk : Walk J m G Y) {g : TG} {te : TE} {vs : List Nat} {σ : L2.St} {S : List Addr} {H1 : Hp} {wd l p D : Addr} {pl : Pl} {C c : Nat} {n : Int} {Qd : Hp → Prop} {Gn : Tm → Prop} (f : Fr S H1 wd l p pl C n) (hD : H1 D = none) (hC : C + m * c < LIM) (hm : m ≤ 1000)
    (hG : ∀ H', Kp [wd, l, p] H1 H' → G H')
    (hel : ∀ i x H' H'' C' n', i < m → Fr (D :: S) H' wd l p pl C' n' → Kp [wd, l, p] H1 H' → C' + c < LIM → Y i H' x H'' → ∀ R : VK, (∀ H3 r t n3, Kp [wd, l, p] H' H3 → Fr (D :: S) H3 wd l p pl (C' + c) n3 → Dv (D :: S) H3 r t.data → Gn t → R r H3) → g x (wipe σ vs) H'' fun σ2 H2 => wipe σ2 vs = wipe σ vs ∧ te σ2 H2 R)
    (q : ∀ H' ys ts n', Kp [wd, l, p] H1 H' → Fr S H' wd l p pl (C + m * c) n' → H' D = some (.lst ys) → DvAll S H' ys (datas ts) → ts.length = m → (∀ t ∈ ts, Gn t) → Qd H') :
    ∃ W : Nat → Nat → Hp → Prop, (∃ m, W 0 m (upd H1 D (.lst []))) ∧ ∀ i m H, W i m H →
      (J.stop i H ∧ Qd H) ∨ (J.go i H ∧ ∃ Nx : Hp → Prop, (∀ H', Nx H' → ∃ m', m' < m ∧ W (i + 1) m' H') ∧ ∀ x H', J.yld i H x H' → g x (wipe σ vs) H' fun σ2 H2 => wipe σ2 vs = wipe σ vs ∧ tYes σ2 H2 fun b H3 =>
        if b = true then te σ2 H3 fun y H4 => ∃ acc, H4 D = some (.lst acc) ∧ acc.length < sizeLine ∧ Nx (upd H4 D (.lst (acc ++ [y]))) else Nx H3) := by
  obtain ⟨o1, o2, o3, oS⟩ := f.off hD
  refine lc_it wk (fun i H' => ∃ (ys : List V) (ts : List Tm) (n' : Int), Kp [wd, l, p] H1 H' ∧ Fr (D :: S) H' wd l p pl (C + i * c) n' ∧ H' D = some (.lst ys) ∧ DvAll (D :: S) H' ys (datas ts) ∧ ts.length = i ∧ ∀ t ∈ ts, Gn t)
    ⟨[], [], n, Kp.new hD, (f.new hD).mono (Nat.le_add_right _ _), upd_same, .nil, rfl, fun _ z => nomatch z⟩ (fun i H' _ ⟨_, _, _, k, _⟩ => hG H' k) ?_ ?_
  · rintro i x H' H'' hi ⟨ys, ts, n', k, f', hDl, hys, hl, hg⟩ y
    have hci : C + i * c + c ≤ C + m * c := by
      have : (i + 1) * c ≤ m * c := Nat.mul_le_mul_right c hi
      rw [Nat.add_mul] at this
      omega
    refine hel i x H' H'' _ n' hi f' k (by omega) y _ fun H3 r t n3 k3 f3 hr ht => ?_
    have nD : D ∉ [wd, l, p] := fun z => by
      simp only [List.mem_cons, List.not_mem_nil, or_false] at z
      rcases z with h | h | h
      · exact o1 h
      · exact o2 h
      · exact o3 h
    have hD3 := k3 _ _ nD hDl
    have kw : Kp (D :: S) H3 (upd H3 D (.lst (ys ++ [r]))) := (Kp.refl _ _).wr (.inl List.mem_cons_self)
    have lys := hys.length
    rw [datas_len, hl] at lys
    refine ⟨ys, hD3, by rw [sizeLine_eq]; omega, ys ++ [r], ts ++ [t], n3, fun b o nb e => ?_, ?_, upd_same, ?_, by rw [List.length_append, List.length_singleton, hl], fun u mu => ?_⟩
    · rw [upd_ne (fun z => by rw [z, hD] at e; cases e)]
      exact k3 _ _ nb (k _ _ nb e)
    · rw [Nat.add_mul, Nat.one_mul, ← Nat.add_assoc]
      exact f3.put List.mem_cons_self o1 o2 o3
    · rw [datas_append]
      exact ((hys.kp (f'.kS k3)).kp kw).append (.cons (hr.kp kw) .nil)
    · rcases List.mem_append.mp mu with h | h
      · exact hg u h
      · rw [List.mem_singleton] at h
        exact h ▸ ht
  · rintro H' ⟨ys, ts, n', k, f', hDl, hys, hl, hg⟩
    exact q H' ys ts n' k (f'.sub (fun a z => List.mem_cons_of_mem _ z) f.mw f.ml f.mp) hDl (hys.sub fun a z => List.mem_cons_of_mem _ z) hl hg
end
end K19
set_option Elab.async false
set_option linter.all false
set_option maxRecDepth 100000
set_option maxHeartbeats 4000000
/-! k19: a drawn task. -/
namespace K19
open PySem PySem.Spec PyProof.Rows L2 Zg Zr Zd Zv
def cT : Nat → Nat
  | 0 => 10
  | d + 1 => 5 * cT d + 10
theorem ct_pos : ∀ d, 10 ≤ cT d
  | 0 => Nat.le_refl _
  | d + 1 => Nat.le_add_left _ _
section
variable {P : Program} {w : World} {K : PySem.W.Frag} {mg : PySem.Str → Option Value} {base : Heap}
def sp_task (d : Nat) : Sp := fun vs H Q _ => ∃ (wd l p : Addr) (S : List Addr) (pl : Pl) (C : Nat) (n : Int) (own : V) (opn : List (PySem.Str × Int)) (N : List PySem.Str), vs = [.ref wd, .ref p, own, .int (d : Nat)] ∧ Fr S H wd l p pl C n ∧ pl.Ok ∧ Dv S H own (headD opn N) ∧ HeadOk opn N ∧ C + cT d < LIM ∧
  ∀ (H' : Hp) (r : V) (t : Tm) (n' : Int), Kp [wd, l, p] H H' → Fr S H' wd l p pl (C + cT d) n' → Dv S H' r t.data → Gen N d t → Q r H'
def sp_function (d : Nat) : Sp := fun vs H Q _ => ∃ (wd l p : Addr) (S : List Addr) (pl : Pl) (C : Nat) (n : Int) (own : V) (opn : List (PySem.Str × Int)) (N : List PySem.Str) (z : Nat), vs = [.ref wd, .ref p, own, .int (z : Nat), .int (d : Nat)] ∧ Fr S H wd l p pl C n ∧ pl.Ok ∧ Dv S H own (headD opn N) ∧ HeadOk opn N ∧ 1 ≤ z ∧ z ≤ 2 ∧ C + cT d < LIM ∧
  ∀ (H' : Hp) (r : V) (t : Tm) (n' : Int), Kp [wd, l, p] H H' → Fr S H' wd l p pl (C + cT d) n' → Dv S H' r t.data → Gen N d t ∧ FunV t → Q r H'
theorem a4 {a b c : V} {i j : Int} (h : i = j) : ([a, b, c, .int i] : List V) = [a, b, c, .int j] := by rw [h]
theorem a5 {a b c e : V} {i j : Int} (h : i = j) : ([a, b, c, e, .int i] : List V) = [a, b, c, e, .int j] := by rw [h]
theorem way_of {σ : L2.St} {H : Hp} {u : TS} {D : Ends} {wd l p : Addr} {S : List Addr} {pl : Pl} {C d : Nat} {n : Int} (e0 : σ[0]? = some (some (.ref wd))) (e1 : σ[1]? = some (some (.ref p))) (e3 : σ[3]? = some (some (.int (d : Nat)))) (f : Fr S H wd l p pl C n) (hC : C < LIM)
    (q : ∀ (y : Int) (H2 : Hp), 0 ≤ y → y < 9 → Kp [wd, l] H H2 → Fr S H2 wd l p pl (C + 1) n → (y ≠ 0 → ∃ m, d = m + 1) → u D (σ.set 4 (some (.int y))) H2) :
    tSeq (tAsg (tIf (tAnd (tTest (tOp (rI0 fun i j => V.bl (decide (j < i))) (tVar 3) (tC (.int 0)))) (tTest (tOp (rI0 fun i j => V.bl (decide (j < i))) (tDGet (tVar 1) (tC (.str "left"))) (tC (.int 0))))) (tCall sp_draw [] E0 (tCons (tVar 0) (tCons (tC (.int 9)) tNil))) (tC (.int 0))) (gName 4)) u D σ H := by
  have z : u D (σ.set 4 (some (.int 0))) H := q 0 H (by decide) (by decide) (Kp.refl _ _) (f.mono (Nat.le_succ _)) fun h => absurd rfl h
  refine ⟨_, e3, _, _, rfl, rfl, _, rfl, ite2 (fun e => ?_) (fun _ => iteF z)⟩
  have hd : 0 < d := by have := of_decide_eq_true e; omega
  refine ⟨_, e1, p, _, rfl, DGet.k (k := .inr "left") f.pk, _, _, rfl, rfl, _, rfl, ite2 (fun _ => ?_) (fun _ => z)⟩
  exact ⟨_, e0, wd, l, 9, C, rfl, f.well, hC, by decide, by decide, fun H2 r k hW r0 r1 => q r H2 r0 r1 k (f.draw k hW) fun _ => ⟨d - 1, by omega⟩⟩
theorem ints_of : ∀ {ys : List V}, (∀ y ∈ ys, ∃ i : Int, y = .int i ∧ 0 ≤ i ∧ i < 3) → ∃ s : List Int, ys = s.map V.int ∧ ∀ i ∈ s, 0 ≤ i ∧ i < 3
  | [], _ => ⟨[], rfl, fun _ m => nomatch m⟩
  | y :: ys, h => by
    obtain ⟨s, rfl, hs⟩ := ints_of (ys := ys) fun z m => h z (List.mem_cons_of_mem _ m)
    obtain ⟨i, rfl, a, b⟩ := h y List.mem_cons_self
    refine ⟨i :: s, rfl, fun j m => ?_⟩
    rcases List.mem_cons.mp m with rfl | m
    · exact ⟨a, b⟩
    · exact hs j m
theorem dv_ints {S : List Addr} {H : Hp} : ∀ s : List Int, DvAll S H (s.map V.int) (s.map .int)
  | [] => .nil
  | i :: s => .cons (.int i) (dv_ints s)
theorem viaH {S1 B : TS} {D : Ends} {σ : L2.St} {H : Hp} (Pc : Hp → Prop) (h1 : ∀ H', Pc H' → B D σ H') (h2 : ∀ nx : L2.St → Hp → Prop, (∀ H', Pc H' → nx σ H') → S1 { D with nx := nx } σ H) : tSeq S1 B D σ H := h2 _ h1
/-- a pair of a name and a small number stands there -/
def Pr (S : List Addr) (H : Hp) (v : V) : Prop := ∃ (x : PySem.Str) (k : Nat), Dv S H v (prD (x, (k : Int))) ∧ Nm x ∧ 1 ≤ k ∧ k ≤ 2
theorem Pr.kp {S : List Addr} {H H' : Hp} {v : V} (h : Pr S H v) (k : Kp S H H') : Pr S H' v := by
  obtain ⟨x, n, a, b⟩ := h
  exact ⟨x, n, a.kp k, b⟩
theorem prs_of {S : List Addr} {H : Hp} {vs : List V} {pn : List (PySem.Str × Int)} (h : DvAll S H vs (pn.map prD)) (hp : ∀ p ∈ pn, Nm p.1 ∧ 1 ≤ p.2 ∧ p.2 ≤ 2) : ∀ v ∈ vs, Pr S H v := fun v m => by
  obtain ⟨d, md, hd⟩ := h.memV m
  obtain ⟨q, mq, rfl⟩ := List.mem_map.mp md
  obtain ⟨n1, n2, n3⟩ := hp q mq
  refine ⟨q.1, q.2.toNat, ?_, n1, by omega, by omega⟩
  have e : (q.1, (q.2.toNat : Int)) = q := by
    refine Prod.ext rfl ?_
    show (q.2.toNat : Int) = q.2
    omega
  rw [e]
  exact hd
theorem prs_ext {S : List Addr} {H0 H : Hp} {ts : List Addr} (tr : Trk S H0) (hn : ∀ t ∈ ts, H0 t = none) : ∀ {es : List (PySem.Str × Int)}, Paired (fun (t : Addr) (q : Key × V) => H t = some (.tup [kV q.1, q.2])) ts (es.map fun e => ((.inr e.1 : Key), V.int e.2)) → (∀ p ∈ es, Nm p.1 ∧ 1 ≤ p.2 ∧ p.2 ≤ 2) →
    (∀ x ∈ ts.map V.ref, ∃ (t : Addr) (i : PySem.Str) (j : Int), x = V.ref t ∧ H t = some (.tup [.str i, .int j])) ∧ ∀ v ∈ ts.map V.ref, Pr S H v := by
  intro es h he
  have key : ∀ t ∈ ts, ∃ e ∈ es, H t = some (.tup [.str e.1, .int e.2]) := fun t m => by
    obtain ⟨j, y, e1, e2, e3⟩ := LiI.paired_ix h m
    rw [List.getElem?_map] at e2
    cases q : es[j]? with
    | none => rw [q] at e2; cases e2
    | some e =>
      rw [q] at e2
      cases e2
      exact ⟨e, List.mem_of_getElem? q, e3⟩
  refine ⟨fun x m => ?_, fun x m => ?_⟩
  · obtain ⟨t, mt, rfl⟩ := List.mem_map.mp m
    obtain ⟨e, _, h1⟩ := key t mt
    exact ⟨t, e.1, e.2, rfl, h1⟩
  · obtain ⟨t, mt, rfl⟩ := List.mem_map.mp m
    obtain ⟨e, me, h1⟩ := key t mt
    obtain ⟨n1, n2, n3⟩ := he e me
    refine ⟨e.1, e.2.toNat, ?_, n1, by omega, by omega⟩
    have e2 : ((e.2.toNat : Nat) : Int) = e.2 := by omega
    unfold prD
    rw [e2]
    exact .tup h1 (tr.out (hn t mt)) (.cons (.str _) (.cons (.int _) .nil))
theorem ok_task_of (T : Txt K mg) {d : Nat} {spT spF : Sp} (hT : FnOk P w K mg base CX0 (d + 3) T.a_task T.d_task P_task spT) (hF : FnOk P w K mg base CX0 (d + 3) T.a_function T.d_function P_function spF) (eT : ∀ m, d = m + 1 → spT = sp_task m) (eF : ∀ m, d = m + 1 → spF = sp_function m) :
    FnOk P w K mg base CX0 (d + 4) T.a_task T.d_task P_task (sp_task d) := by
  refine T.F_task.ok sc_task (fun vs H Q E h => by obtain ⟨wd, l, p, S, pl, C, n, own, opn, N, rfl, _⟩ := h; rfl) (fun cdv A outer s H vs Q E hr h => ?_)
  refine ⟨_, (pss_cons (ps_dput (hu_of hr) (pv 1) pe_str (pe_op op_sub (pe_dget (hu_of hr) (pv 1) pe_str (fun _ _ => rfl)) pe_int) rfl)
    (pss_cons (ps_set (i := 4) sc_task.nd rfl (Or.inl rfl) (pe_ifExp (PW.pt (pw_and (pt_cmpR op_gt (pv 3) pe_int (nomark _)) (pw_and1 (pt_cmpR op_gt (pe_dget (hu_of hr) (pv 1) pe_str (fun _ _ => rfl)) pe_int (nomark _))))) (pe_call (ok_draw T) (hr.mono (by omega)) (by rfl) T.g_draw T.F_draw.kp T.b_draw .nil pass0 (pa_cons (pv 0) (pa_cons pe_int pa_nil))) pe_int))
    (pss_cons (ps_if (pt_cmpR op_eq (pv 4) pe_int (nomark _)) (pss_one (ps_ret (pe_call (ok_leaf T) (hr.mono (by omega)) (by rfl) T.g_leaf T.F_leaf.kp T.b_leaf .nil pass0 (pa_cons (pv 0) (pa_cons (pv 2) pa_nil))))) pss_nil)
    (pss_cons (ps_if (pt_cmpR op_lt (pv 4) pe_int (nomark _)) (pss_one (ps_ret (pe_tup (pa_cons pe_str (pa_cons (pe_call (ok_pick T) (hr.mono (by omega)) (by rfl) T.g_pick T.F_pick.kp T.b_pick .nil pass0 (pa_cons (pv 0) (pa_cons (pe_callB (call_sortedD rfl) (by rfl) T.n_sorted (by decide +kernel) (pa_cons (pe_dget (hu_of hr) (pe_dget (hu_of hr) (pv 1) pe_str (fun _ _ => rfl)) pe_str (fun _ _ => rfl)) pa_nil)) pa_nil))) (pa_cons (pe_call hT (hr.mono (by omega)) (by rfl) T.g_task T.F_task.kp T.b_task .nil pass0 (pa_cons (pv 0) (pa_cons (pv 1) (pa_cons (pv 2) (pa_cons (pe_op op_sub (pv 3) pe_int) pa_nil))))) pa_nil)))))) pss_nil)
    (pss_cons (ps_if (pt_cmpR op_eq (pv 4) pe_int (nomark _)) (pss_cons (ps_set (i := 5) sc_task.nd rfl (Or.inl rfl) (pe_callTy call_tuple_of (by rfl) T.n_tuple (by decide +kernel) (pa_cons (pe_call (ok_some T) (hr.mono (by omega)) (by rfl) T.g_some T.F_some.kp T.b_some .nil pass0 (pa_cons (pv 0) (pa_cons (pe_listRg (by rfl) (by rfl) T.n_list (prg_1 (by rfl) T.n_range (pe_dget (hu_of hr) (pe_dget (hu_of hr) (pv 1) pe_str (fun _ _ => rfl)) pe_str (fun _ _ => rfl)))) (pa_cons pe_int pa_nil)))) pa_nil)))
    (pss_one (ps_ret (pe_tup (pa_cons pe_str (pa_cons (pv 5) (pa_cons (pe_call hT (hr.mono (by omega)) (by rfl) T.g_task T.F_task.kp T.b_task .nil pass0 (pa_cons (pv 0) (pa_cons (pv 1) (pa_cons (pv 2) (pa_cons (pe_op op_sub (pv 3) pe_int) pa_nil))))) (pa_cons (pe_call hT (hr.mono (by omega)) (by rfl) T.g_task T.F_task.kp T.b_task .nil pass0 (pa_cons (pv 0) (pa_cons (pv 1) (pa_cons (pv 2) (pa_cons (pe_op op_sub (pv 3) pe_int) pa_nil))))) pa_nil)))))))) pss_nil)
    (pss_cons (ps_if (pt_cmpR op_eq (pv 4) pe_int (nomark _)) (pss_one (ps_ret (pe_op op_catA (pe_tup (pa_cons pe_str pa_nil)) (pe_callTy call_tuple_of (by rfl) T.n_tuple (by decide +kernel) (pa_cons (pe_lc (own := [("k", 6)]) rfl sc_task.nd (pi_range1 (by rfl) T.n_range (pa_cons (pe_op op_add pe_int (pe_call (ok_draw T) (hr.mono (by omega)) (by rfl) T.g_draw T.F_draw.kp T.b_draw .nil pass0 (pa_cons (pv 0) (pa_cons pe_int pa_nil)))) pa_nil)) (blkOk_by (own := [("k", 6)]) (N := N_task) (sc := defScope s_task) (by decide +kernel)) (fun _ _ _ _ _ => (pg_name (i := 6) sc_task.nd rfl (Or.inl rfl))) (fun _ _ _ _ _ => pts_nil) (fun _ _ _ _ _ => (pe_call hT (hr.mono (by omega)) (by rfl) T.g_task T.F_task.kp T.b_task .nil pass0 (pa_cons (pv 0) (pa_cons (pv 1) (pa_cons (pv 2) (pa_cons (pe_op op_sub (pv 3) pe_int) pa_nil))))))) pa_nil))))) pss_nil)
    (pss_cons (ps_set (i := 7) sc_task.nd rfl (Or.inl rfl) (pe_op op_cat (pe_callTy call_list_of (by rfl) T.n_list (by decide +kernel) (pa_cons (pe_ix ix_tup (pv 2) pe_int (fun _ _ => rfl)) pa_nil)) (pe_callB Yo.cr_sortedSN (by rfl) T.n_sorted (by decide +kernel) (pa_cons (LiI.pe_listItems (by rfl) (pe_dget (hu_of hr) (pv 1) pe_str (fun _ _ => rfl)) (by rfl) T.n_list (by decide +kernel)) pa_nil))))
    (pss_cons (ps_if (PW.pt (pw_and (pt_cmpR op_eq (pv 4) pe_int (nomark _)) (pw_and1 (pt_cmpR (op_neE (Nat.lt_of_le_of_lt (Nat.le_add_right _ 64) hr.units)) (pv 7) (pe_lst pa_nil) (nomark _))))) (pss_cons (ps_asg (pe_call (ok_pick T) (hr.mono (by omega)) (by rfl) T.g_pick T.F_pick.kp T.b_pick .nil pass0 (pa_cons (pv 0) (pa_cons (pv 7) pa_nil))) (pg_tup (by rfl) (pgs_cons (pg_name (i := 8) sc_task.nd rfl (Or.inl rfl)) (pgs_cons (pg_name (i := 9) sc_task.nd rfl (Or.inl rfl)) pgs_nil))))
    (pss_one (ps_ret (pe_tup (pa_cons pe_str (pa_cons (pv 8) (pa_cons (pe_tup pa_nil) (pa_cons (pe_callTy call_tuple_of (by rfl) T.n_tuple (by decide +kernel) (pa_cons (pe_lc (own := [("k", 6)]) rfl sc_task.nd (pi_range1 (by rfl) T.n_range (pa_cons (pv 9) pa_nil)) (blkOk_by (own := [("k", 6)]) (N := N_task) (sc := defScope s_task) (by decide +kernel)) (fun _ _ _ _ _ => (pg_name (i := 6) sc_task.nd rfl (Or.inl rfl))) (fun _ _ _ _ _ => pts_nil) (fun _ _ _ _ _ => (pe_call hT (hr.mono (by omega)) (by rfl) T.g_task T.F_task.kp T.b_task .nil pass0 (pa_cons (pv 0) (pa_cons (pv 1) (pa_cons (pv 2) (pa_cons (pe_op op_sub (pv 3) pe_int) pa_nil))))))) pa_nil)) pa_nil)))))))) pss_nil)
    (pss_cons (ps_set (i := 8) sc_task.nd rfl (Or.inl rfl) (pe_call (ok_pick T) (hr.mono (by omega)) (by rfl) T.g_pick T.F_pick.kp T.b_pick .nil pass0 (pa_cons (pv 0) (pa_cons (pe_callB (call_sortedD rfl) (by rfl) T.n_sorted (by decide +kernel) (pa_cons (pe_dget (hu_of hr) (pv 1) pe_str (fun _ _ => rfl)) pa_nil)) pa_nil))))
    (pss_cons (ps_asg (pe_dget (hu_of hr) (pe_dget (hu_of hr) (pv 1) pe_str (fun _ _ => rfl)) (pv 8) (fun _ _ => rfl)) (pg_tup (by rfl) (pgs_cons (pg_name (i := 10) sc_task.nd rfl (Or.inl rfl)) (pgs_cons (pg_name (i := 11) sc_task.nd rfl (Or.inl rfl)) pgs_nil))))
    (pss_cons (ps_set (i := 12) sc_task.nd rfl (Or.inl rfl) (pe_callTy call_tuple_of (by rfl) T.n_tuple (by decide +kernel) (pa_cons (pe_lc (own := [("one", 13), ("size", 14)]) rfl sc_task.nd (pi_tup (pv 10)) (blkOk_by (own := [("one", 13), ("size", 14)]) (N := N_task) (sc := defScope s_task) (by decide +kernel)) (fun _ _ _ _ _ => (show PG _ _ (gTup K 2 _) from (pg_tup (by rfl) (pgs_cons (pg_name (i := 13) sc_task.nd rfl (Or.inl rfl)) (pgs_cons (pg_name (i := 14) sc_task.nd rfl (Or.inl rfl)) pgs_nil))))) (fun _ _ _ _ _ => pts_nil) (fun _ _ _ _ _ => (pe_call hF (hr.mono (by omega)) (by rfl) T.g_function T.F_function.kp T.b_function .nil pass0 (pa_cons (pv 0) (pa_cons (pv 1) (pa_cons (pv 2) (pa_cons (pv 14) (pa_cons (pe_op op_sub (pv 3) pe_int) pa_nil)))))))) pa_nil)))
    (pss_one (ps_ret (pe_tup (pa_cons pe_str (pa_cons (pv 8) (pa_cons (pv 12) (pa_cons (pe_callTy call_tuple_of (by rfl) T.n_tuple (by decide +kernel) (pa_cons (pe_lc (own := [("one", 13)]) rfl sc_task.nd (pi_tup (pv 11)) (blkOk_by (own := [("one", 13)]) (N := N_task) (sc := defScope s_task) (by decide +kernel)) (fun _ _ _ _ _ => (pg_name (i := 13) sc_task.nd rfl (Or.inl rfl))) (fun _ _ _ _ _ => pts_nil) (fun _ _ _ _ _ => (pe_call hT (hr.mono (by omega)) (by rfl) T.g_task T.F_task.kp T.b_task .nil pass0 (pa_cons (pv 0) (pa_cons (pv 1) (pa_cons (pv 2) (pa_cons (pe_op op_sub (pv 3) pe_int) pa_nil))))))) pa_nil)) pa_nil)))))))))))))))))), ?_⟩
  obtain ⟨wd, l, p, S, pl, C, n, own, opn, N, rfl, f, hO, ho, hH, hC, q⟩ := h
  have kl : Kp [wd, l, p] H (upd H p (.dK (PK pl.sh pl.ex pl.hd pl.md (n - 1) pl.b))) := (Kp.refl _ _).wr (.inl (by simp))
  refine ⟨_, rfl, p, _, rfl, DGet.k (k := .inr "left") f.pk, _, _, rfl, rfl, ?_⟩
  refine ⟨_, rfl, p, _, rfl, DPut.k (k := .inr "left") f.pk (by show 6 < sizeLine; decide), ?_⟩
  have f1 := f.left (n' := n - 1)
  have ho1 := ho.kp (f.kS kl)
  show tSeq _ _ _ _ (upd H p (.dK (PK pl.sh pl.ex pl.hd pl.md (n - 1) pl.b)))
  generalize upd H p (.dK (PK pl.sh pl.ex pl.hd pl.md (n - 1) pl.b)) = H1 at kl f1 ho1 ⊢
  have hcd := ct_pos d
  refine way_of rfl rfl rfl f1 (by omega) fun y H2 y0 y9 k2 f2 hd => ?_
  have k12 := kl.trans (kp2 k2)
  have ho2 := ho.kp (f.kS k12)
  refine ⟨_, rfl, rfl, _, rfl, ?_⟩
  refine ite2 (fun _ => ?_) (fun ey => ?_)
  · refine ⟨_, rfl, _, rfl, wd, l, own, S, C + 1, opn, N, rfl, f2.well, by omega, f2.mw, f2.ml, f2.trk, ho2, hH.ln, hH.nn, fun H3 r t k3 W3 hr ht => ?_⟩
    exact q H3 r t _ (k12.trans (kp2 k3)) ((f2.draw k3 W3).mono (by omega)) hr (ht.gen d)
  have yn : y ≠ 0 := fun z => ey (by rw [z]; rfl)
  obtain ⟨m, rfl⟩ := hd yn
  have eT' := eT m rfl
  have eF' := eF m rfl
  subst eT' eF'
  have em : (((m + 1 : Nat) : Int) - 1) = (m : Int) := by omega
  have hcm := ct_pos m
  have hC2 : C + (5 * cT m + 10) < LIM := hC
  have child : ∀ {S' : List Addr} {H' : Hp} {C' : Nat} {n' : Int} {R : VK}, Fr S' H' wd l p pl C' n' → Dv S' H' own (headD opn N) → C' + cT m < LIM → (∀ H3 r t n3, Kp [wd, l, p] H' H3 → Fr S' H3 wd l p pl (C' + cT m) n3 → Dv S' H3 r t.data → Gen N m t → R r H3) → sp_task m [.ref wd, .ref p, own, .int (((m + 1 : Nat) : Int) - 1)] H' R E0 := fun {S' H' C' n' R} f' ho' hC' h =>
    ⟨wd, l, p, S', pl, C', n', own, opn, N, a4 em, f', hO, ho', hH, hC', h⟩
  have childF : ∀ {S' : List Addr} {H' : Hp} {C' : Nat} {n' : Int} {R : VK} {z : Nat}, Fr S' H' wd l p pl C' n' → Dv S' H' own (headD opn N) → 1 ≤ z → z ≤ 2 → C' + cT m < LIM → (∀ H3 r t n3, Kp [wd, l, p] H' H3 → Fr S' H3 wd l p pl (C' + cT m) n3 → Dv S' H3 r t.data → Gen N m t ∧ FunV t → R r H3) → sp_function m [.ref wd, .ref p, own, .int (z : Nat), .int (((m + 1 : Nat) : Int) - 1)] H' R E0 := fun {S' H' C' n' R z} f' ho' z1 z2 hC' h =>
    ⟨wd, l, p, S', pl, C', n', own, opn, N, z, a5 em, f', hO, ho', hH, z1, z2, hC', h⟩
  have fin : ∀ {H' : Hp} {r : V} {t : Tm} {C' : Nat} {n' : Int}, Kp [wd, l, p] H H' → Fr S H' wd l p pl C' n' → C' ≤ C + (5 * cT m + 10) → Dv S H' r t.data → Gen N (m + 1) t → Q r H' := fun {H' r t C' n'} k f' hC' hr ht => q H' r t n' k (f'.mono hC') hr ht
  refine ⟨_, rfl, _, _, rfl, rfl, _, rfl, ?_⟩
  refine ite2 (fun _ => ?_) (fun e4 => ?_)
  · refine ⟨_, rfl, _, rfl, p, _, rfl, DGet.k (k := .inr "shop") f2.pk, _, _, rfl, f2.pl.moves ▸ DGet.k (k := .inr "moves") f2.pl.sh, ?_⟩
    refine ⟨pl.mo, pl.mkv, pl.ms, rfl, .inl f2.pl.mo, f2.pl.mks, hO.m64, fun ys a hp _ ha => ?_⟩
    have ka := same_new (o := .lst (ys.map V.str)) ha
    refine ⟨wd, l, a, C + 1, ys.map V.str, rfl, f2.well.same ka, by omega, well_trk f2.well ha, upd_same, fun z => ?_, by rw [List.length_map, hp.length_eq]; have := hO.m64; omega, fun H4 x k4 W4 hx => ?_⟩
    · have := congrArg List.length z
      rw [List.length_map, hp.length_eq] at this
      exact hO.m0 (List.length_eq_zero_iff.mp this)
    obtain ⟨z, mz, rfl⟩ := List.mem_map.mp hx
    have nz := hO.mn z (hp.mem_iff.mp mz)
    have f4 := (f2.same ka).draw k4 W4
    have k24 : Kp [wd, l, p] H H4 := k12.trans ((Kp.of ka).trans (kp2 k4))
    refine ⟨_, rfl, _, rfl, _, rfl, _, rfl, _, _, rfl, rfl, child f4 (ho.kp (f.kS k24)) (by omega) fun H5 r t n5 k5 f5 hr ht => ⟨by show 3 ≤ sizeLine; decide, fun p6 hp6 => ?_⟩⟩
    have k6 := same_new (o := .tup [.str "do", .str z, r]) hp6
    exact fin (t := .act z t) (k24.trans (k5.trans (Kp.of k6))) (f5.same k6) (by omega) (.tup upd_same (f5.trk.out hp6) (.cons (.str _) (.cons (.str _) (.cons (hr.kp (Kp.of k6)) .nil)))) (gen_act nz ht)
  refine ⟨_, rfl, rfl, _, rfl, ?_⟩
  refine ite2 (fun _ => ?_) (fun _ => ?_)
  · have hs1 := hO.sz1
    have hs3 := hO.sz3
    refine ⟨_, rfl, _, rfl, p, _, rfl, DGet.k (k := .inr "shop") f2.pk, _, _, rfl, f2.pl.size ▸ DGet.k (k := .inr "size") f2.pl.sh, _, rfl, RgOk.of_le (by decide) (by omega) (by decide) (by omega), fun a ha => ?_⟩
    have ka := same_new (o := .lst (rgV 0 (pl.sz : Int))) ha
    have lr : (rgV 0 (pl.sz : Int)).length = pl.sz := by rw [rgV_length]; omega
    refine ⟨wd, l, a, 2, C + 1, rgV 0 (pl.sz : Int), rfl, f2.well.same ka, by rw [lr]; omega, well_trk f2.well ha, upd_same, by rw [lr]; omega, by decide, by decide, fun H4 p4 ys k4 W4 hp4 h4 hy hl => ?_⟩
    rw [lr] at W4 hl
    have f4 := (f2.same ka).draw k4 W4
    have k24 : Kp [wd, l, p] H H4 := k12.trans ((Kp.of ka).trans (kp2 k4))
    obtain ⟨st, rfl, hst⟩ := ints_of (ys := ys) fun y m => by
      have m' := hy y m
      unfold rgV at m'
      obtain ⟨i, hi, rfl⟩ := List.mem_map.mp m'
      have := List.mem_range.mp hi
      exact ⟨_, rfl, by omega, by omega⟩
    rw [List.length_map] at hl
    refine ⟨p4, _, rfl, .inl ⟨SqL.of h4, fun p5 hp5 => ?_⟩⟩
    dsimp only [gName]
    have k5 := same_new (o := .tup (st.map V.int)) hp5
    have f5 := f4.same k5
    have k25 := k24.trans (Kp.of k5)
    have h5 : Dv S (upd H4 p5 (.tup (st.map V.int))) (.ref p5) (.tuple (st.map .int)) := .tup upd_same (f4.trk.out hp5) (dv_ints st)
    generalize upd H4 p5 (.tup (st.map V.int)) = H5 at k5 f5 k25 h5 ⊢
    refine ⟨_, rfl, _, rfl, _, rfl, _, rfl, _, rfl, _, _, rfl, rfl, child f5 (ho.kp (f.kS k25)) (by omega) fun H6 r t n6 k6 f6 hr ht => ?_⟩
    have k26 := k25.trans k6
    refine ⟨_, rfl, _, rfl, _, rfl, _, rfl, _, _, rfl, rfl, child f6 (ho.kp (f.kS k26)) (by omega) fun H7 r7 t7 n7 k7 f7 hr7 ht7 => ⟨by show 4 ≤ sizeLine; decide, fun p8 hp8 => ?_⟩⟩
    have k8 := same_new (o := .tup [.str "test", .ref p5, r, r7]) hp8
    have k78 : Kp S H6 _ := (f6.kS k7).trans (Kp.of k8)
    exact fin (t := .test st t t7) (k26.trans (k7.trans (Kp.of k8))) (f7.same k8) (by omega) (.tup upd_same (f7.trk.out hp8) (.cons (.str _) (.cons ((h5.kp (f5.kS k6)).kp k78) (.cons (hr.kp k78) (.cons (hr7.kp (Kp.of k8)) .nil))))) (gen_test (by omega) hst ht ht7)
  refine ⟨_, rfl, rfl, _, rfl, ?_⟩
  refine ite2 (fun _ => ?_) (fun _ => ?_)
  · refine ⟨by show 1 ≤ sizeLine; decide, fun p1 hp1 => ?_⟩
    have k1 := same_new (o := .tup [.str "pick"]) hp1
    have n1 := f2.trk.out hp1
    have f3 := f2.same k1
    have h1 : (upd H2 p1 (.tup [.str "pick"])) p1 = some (.tup [.str "pick"]) := upd_same
    have k13 := k12.trans (Kp.of k1)
    show tCB _ _ _ (upd H2 p1 (.tup [.str "pick"])) _
    generalize upd H2 p1 (.tup [.str "pick"]) = H3 at k1 f3 h1 k13 ⊢
    refine ⟨_, rfl, wd, l, 3, C + 1, rfl, f3.well, by omega, by decide, by decide, fun H4 r k4 W4 r0 r3 => ?_⟩
    have f4 := f3.draw k4 W4
    have k14 := k13.trans (kp2 k4)
    refine ⟨_, _, rfl, rfl, _, rfl, by omega, by omega, fun D hD => ?_⟩
    have hm : (1 + r).toNat ≤ 3 := by omega
    have hm1 : 1 ≤ (1 + r).toNat := by omega
    generalize (1 + r).toNat = k at hm hm1
    have hmul : k * cT m ≤ 3 * cT m := Nat.mul_le_mul_right _ hm
    have ho4 := ho.kp (f.kS k14)
    refine lc_gen (Gn := Gen N m) (c := cT m) walk_range f4 hD (by omega) (by omega) (fun _ _ => trivial) (fun i x H' H'' C' n' hi f' k' hC' y R hR => ?_) fun H5 ys ts n5 k5 f5 hD5 hys hl hts => ?_
    · obtain ⟨rfl, rfl⟩ := y
      exact ⟨rfl, _, rfl, _, rfl, _, rfl, _, rfl, _, _, rfl, rfl, child f' ((ho4.fresh hD).kp (f'.kS k')) hC' hR⟩
    · refine ⟨D, ys, rfl, .inl ⟨SqL.of hD5, fun p6 hp6 => ?_⟩⟩
      have k6 := same_new (o := .tup ys) hp6
      have h6 : Kp S H3 (upd H5 p6 (.tup ys)) := (f3.kS (kp2 k4)).trans ((f4.kS k5).trans (Kp.of k6))
      refine cat_any (S := S) (f5.trk.same k6) (h6 _ _ n1 h1) n1 upd_same (f5.trk.out hp6) (by rw [hys.length, datas_len, hl]; show 1 + k ≤ _; omega) fun H7 p7 k7 hp7 np7 => ?_
      exact fin (t := .pick ts) (k14.trans (k5.trans (Kp.of (k6.trans k7)))) ((f5.same k6).same k7) (by omega) (.tup hp7 np7 (.cons (.str _) (hys.kp (Kp.of (k6.trans k7))))) (gen_pick (by omega) (by omega) hts)
  dsimp only [tNext]
  show tSeq (tAsg _ _) _ _ _ H2
  obtain ⟨o, xo, rfl, hoo, noo, hxo⟩ := Dv.tup_inv ho2
  cases hxo with
  | @cons v0 _ _ _ x0 hxo =>
  cases hxo with
  | @cons v1 _ _ _ x1 hxo =>
  cases hxo
  obtain ⟨o1, zs1, rfl, ho1', no1, hz1⟩ := x0.tup_inv
  have lz1 := hz1.length
  rw [List.length_map] at lz1
  have lp := hH.lp
  refine ⟨_, rfl, o, _, 0, _, rfl, rfl, SqT.of hoo, atI_nat (j := 0) rfl, o1, zs1, rfl, .inr (SqT.of ho1'), fun la hla => ?_⟩
  have kla := same_new (o := .lst zs1) hla
  have hla1 : (upd H2 la (.lst zs1)) la = some (.lst zs1) := upd_same
  have f3 := f2.same kla
  generalize upd H2 la (.lst zs1) = H3 at kla hla1 f3 ⊢
  refine ⟨_, rfl, p, _, rfl, DGet.k (k := .inr "externals") f3.pk, pl.ex, _, rfl, f3.pl.ex, fun H4 pi ts k4 hpi hts npi hpi4 hP => ?_⟩
  have k4' : Same H3 H4 := k4
  have f4 := f3.same k4'
  obtain ⟨ex1, ex2⟩ := prs_ext (S := S) f3.trk hts hP hO.en
  have lts := Paired.length hP
  rw [List.length_map] at lts
  refine ⟨pi, _, rfl, SqL.of hpi4, ex1, fun ys ps hpm hps => ?_⟩
  have k5 := same_new (o := .lst ys) hps
  have le4 := hO.e4
  have lys : ys.length ≤ 4 := by rw [hpm.length_eq, List.length_map]; omega
  refine ⟨la, ps, zs1, ys, rfl, rfl, k5 _ _ (k4' _ _ hla1), upd_same, by rw [sizeLine_eq]; omega, fun pg hpg => ?_⟩
  have k6 := same_new (o := .lst (zs1 ++ ys)) hpg
  have hpg1 : (upd (upd H4 ps (.lst ys)) pg (.lst (zs1 ++ ys))) pg = some (.lst (zs1 ++ ys)) := upd_same
  have npg : pg ∉ [wd, l] := well_trk (f4.same k5).well hpg
  have k26 : Same H2 (upd (upd H4 ps (.lst ys)) pg (.lst (zs1 ++ ys))) := kla.trans (k4'.trans (k5.trans k6))
  have hgv : ∀ v ∈ zs1 ++ ys, Pr S (upd (upd H4 ps (.lst ys)) pg (.lst (zs1 ++ ys))) v := fun v m => by
    rcases List.mem_append.mp m with m | m
    · exact (prs_of hz1 hH.pp v m).kp (Kp.of k26)
    · exact (ex2 v (hpm.mem_iff.mp m)).kp (Kp.of (k5.trans k6))
  have lgv : (zs1 ++ ys).length ≤ 6 := by rw [List.length_append]; omega
  dsimp only [gName]
  show tSeq _ _ _ _ (upd (upd H4 ps (.lst ys)) pg (.lst (zs1 ++ ys)))
  have f6 := f2.same k26
  have k16 := k12.trans (Kp.of k26)
  generalize upd (upd H4 ps (.lst ys)) pg (.lst (zs1 ++ ys)) = H6 at k26 hpg1 hgv f6 k16 ⊢
  generalize zs1 ++ ys = gs at hpg1 hgv lgv ⊢
  refine viaH (fun H' => Fr S H' wd l p pl (C + 1) (n - 1) ∧ Kp [wd, l, p] H H') (fun H7 ⟨f7, k17⟩ => ?_) (fun nx cont => ?_)
  · refine ⟨_, rfl, _, rfl, p, _, rfl, DGet.k (k := .inr "heads") f7.pk, pl.hd, pl.hkv, pl.ks, rfl, .inl f7.pl.hd, f7.pl.hk, hO.k64, fun ys a hp _ ha => ?_⟩
    have ka := same_new (o := .lst (ys.map V.str)) ha
    have hk64 := hO.k64
    refine ⟨wd, l, a, C + 1, ys.map V.str, rfl, f7.well.same ka, by omega, well_trk f7.well ha, upd_same, fun z => ?_, by rw [List.length_map, hp.length_eq]; omega, fun H8 x k8 W8 hx => ?_⟩
    · have e := congrArg List.length z
      rw [List.length_map, hp.length_eq] at e
      obtain ⟨z2, mz2, _⟩ := hO.two
      rw [List.length_eq_zero_iff.mp e] at mz2
      cases mz2
    obtain ⟨z, mz, rfl⟩ := List.mem_map.mp hx
    have mz' := hp.mem_iff.mp mz
    obtain ⟨nz, hz⟩ := hO.kn z mz'
    have f8 := (f7.same ka).draw k8 W8
    have k18 : Kp [wd, l, p] H H8 := k17.trans ((Kp.of ka).trans (kp2 k8))
    clear hla1 hpg1 hgv f6 f4 f3 hP ex1 ex2
    dsimp only [gName]
    obtain ⟨hvv, ehv, hdv⟩ := f8.pl.hv z mz'
    obtain ⟨ah, xh, rfl, hah, nah, hxh⟩ := Dv.tup_inv hdv
    cases hxh with
    | @cons u0 _ _ _ y0' hxh =>
    cases hxh with
    | @cons u1 _ _ _ y1' hxh =>
    cases hxh
    obtain ⟨at', zt, rfl, hat, nat', hzt⟩ := y0'.tup_inv
    obtain ⟨ae, ze, rfl, hae, nae, hze⟩ := y1'.tup_inv
    have lzt := hzt.length
    have lze := hze.length
    rw [List.length_map] at lzt lze
    have l2 := hz.lp
    have l3 := hz.ln
    refine ⟨_, rfl, p, _, rfl, DGet.k (k := .inr "heads") f8.pk, _, rfl, pl.hd, _, rfl, ehv ▸ DGet.k (k := .inr z) f8.pl.hd, ah, _, rfl, SqT.of hah, rfl, _, _, rfl, _, _, rfl, rfl, ?_⟩
    dsimp only [gName]
    have ho8 := ho.kp (f.kS k18)
    have hzp := prs_of hzt hz.pp
    refine ⟨_, rfl, at', rfl, ⟨_, SqT.of hat⟩, fun D hD => ?_⟩
    have hmul : zt.length * cT m ≤ 2 * cT m := Nat.mul_le_mul_right _ (by omega)
    refine lc_gen (Gn := fun t => Gen N m t ∧ FunV t) (c := cT m) (walk_tup (K := K) (a := at') (xs := zt)) f8 hD (by omega) (by omega) (fun H' k' => SqT.of ((f8.kS k') _ _ nat' hat)) (fun i x H' H'' C' n' hi f' k' hC' y R hR => ?_) fun H9 ys9 fs n9 k9 f9 hD9 hys9 hl9 hts9 => ?_
    · obtain ⟨rfl, hx'⟩ := y
      obtain ⟨nm, kk, hpr, nn, kk1, kk2⟩ := hzp x (List.mem_of_getElem? hx')
      have hpr' := (hpr.fresh hD).kp (f'.kS k')
      obtain ⟨b, xb, rfl, hb, _, hxb⟩ := Dv.tup_inv hpr'
      cases hxb with
      | @cons w0 _ _ _ c0 hxb =>
      cases hxb with
      | @cons w1 _ _ _ c1 hxb =>
      cases hxb
      cases c0
      cases c1
      exact ⟨b, _, rfl, SqT.of hb, rfl, _, _, rfl, _, _, rfl, rfl, rfl, _, rfl, _, rfl, _, rfl, _, rfl, _, rfl, _, _, rfl, rfl, childF f' ((ho8.fresh hD).kp (f'.kS k')) kk1 kk2 hC' hR⟩
    refine ⟨D, ys9, rfl, .inl ⟨SqL.of hD9, fun p10 hp10 => ?_⟩⟩
    dsimp only [gName]
    have k10 := same_new (o := .tup ys9) hp10
    have f10 := f9.same k10
    have h10 : Dv S (upd H9 p10 (.tup ys9)) (.ref p10) (.tuple (datas fs)) := .tup upd_same (f9.trk.out hp10) (hys9.kp (Kp.of k10))
    have k8a : Kp [wd, l, p] H8 (upd H9 p10 (.tup ys9)) := k9.trans (Kp.of k10)
    generalize upd H9 p10 (.tup ys9) = H10 at k10 f10 h10 k8a ⊢
    have k110 := k18.trans k8a
    have ho10 := ho.kp (f.kS k110)
    refine ⟨_, rfl, _, rfl, _, rfl, ae, rfl, ⟨_, SqT.of ((f8.kS k8a) _ _ nae hae)⟩, fun D2 hD2 => ?_⟩
    have hmul2 : ze.length * cT m ≤ 3 * cT m := Nat.mul_le_mul_right _ (by omega)
    refine lc_gen (Gn := Gen N m) (c := cT m) (walk_tup (K := K) (a := ae) (xs := ze)) f10 hD2 (by omega) (by omega) (fun H' k' => SqT.of ((f8.kS (k8a.trans k')) _ _ nae hae)) (fun i x H' H'' C' n' hi f' k' hC' y R hR => ?_) fun H11 ys11 ts n11 k11 f11 hD11 hys11 hl11 hts11 => ?_
    · obtain ⟨rfl, hx'⟩ := y
      exact ⟨rfl, _, rfl, _, rfl, _, rfl, _, rfl, _, _, rfl, rfl, child f' ((ho10.fresh hD2).kp (f'.kS k')) hC' hR⟩
    refine ⟨D2, ys11, rfl, .inl ⟨SqL.of hD11, fun p12 hp12 => ⟨by show 4 ≤ sizeLine; decide, fun p13 hp13 => ?_⟩⟩⟩
    have k12' := same_new (o := .tup ys11) hp12
    have k13 := same_new (o := .tup [.str "call", .str z, .ref p10, .ref p12]) hp13
    have f12 := f11.same k12'
    refine fin (t := .call true z fs ts) (k110.trans (k11.trans (Kp.of (k12'.trans k13)))) (f12.same k13) (by omega) (.tup upd_same (f12.trk.out hp13) (.cons (.str _) (.cons (.str _) (.cons ((h10.kp (f10.kS k11)).kp (Kp.of (k12'.trans k13))) (.cons (.tup (k13 _ _ upd_same) (f11.trk.out hp12) (hys11.kp (Kp.of (k12'.trans k13)))) .nil))))) (gen_call nz (by omega) (by omega) (fun t m => (hts9 t m).1) hts11)
  · refine ⟨_, rfl, rfl, _, rfl, ite2 (fun _ => ?_) (fun _ => iteF (cont _ ⟨f6, k16⟩))⟩
    refine ⟨_, rfl, by show 0 ≤ sizeLine; decide, fun pe hpe => ?_⟩
    have ke := same_new (o := .lst []) hpe
    have f7 := f6.same ke
    have k17 := k16.trans (Kp.of ke)
    have hpg7 := ke _ _ hpg1
    refine ⟨pg, pe, gs, rfl, rfl, .inl ⟨SqL.of hpg7, SqL.of upd_same⟩, _, rfl, ?_⟩
    generalize upd H6 pe (.lst []) = H7 at ke f7 k17 hpg7 ⊢
    cases gs with
    | nil => exact iteF (cont _ ⟨f7, k17⟩)
    | cons g0 gr =>
    refine iteT ?_
    refine ⟨_, rfl, _, rfl, wd, l, pg, C + 1, _, rfl, f7.well, by omega, npg, hpg7, (fun z => nomatch z), by omega, fun H8 x k8 W8 hx => ?_⟩
    have f8 := f7.draw k8 W8
    have k18 := k17.trans (kp2 k8)
    obtain ⟨nm, kk, hpr, nn, kk1, kk2⟩ := ((hgv x hx).kp (Kp.of ke)).kp (f7.kS (kp2 k8))
    obtain ⟨b, xb, rfl, hb, _, hxb⟩ := Dv.tup_inv hpr
    cases hxb with
    | @cons w0 _ _ _ c0 hxb =>
    cases hxb with
    | @cons w1 _ _ _ c1 hxb =>
    cases hxb
    cases c0
    cases c1
    refine ⟨b, _, rfl, SqT.of hb, rfl, _, _, rfl, _, _, rfl, rfl, ?_⟩
    dsimp only [gName]
    refine ⟨_, rfl, by show 0 ≤ sizeLine; decide, fun pz hpz => ?_⟩
    have kz := same_new (o := .tup []) hpz
    have f9 := f8.same kz
    have k19 := k18.trans (Kp.of kz)
    have hz9 : Dv S (upd H8 pz (.tup [])) (.ref pz) (.tuple (datas [])) := .tup upd_same (f8.trk.out hpz) .nil
    refine ⟨_, rfl, (kk : Int), rfl, by omega, by omega, fun D hD => ?_⟩
    generalize upd H8 pz (.tup []) = H9 at kz f9 k19 hz9 hD ⊢
    have ho9 := ho.kp (f.kS k19)
    have hmul : kk * cT m ≤ 3 * cT m := Nat.mul_le_mul_right _ (by omega)
    refine lc_gen (J := Itr 0 kk) (m := kk) (Gn := Gen N m) (c := cT m) walk_range f9 hD (by omega) (by omega) (fun _ _ => trivial) (fun i x H' H'' C' n' hi f' k' hC' y R hR => ?_) fun H10 ys10 ts n10 k10 f10 hD10 hys10 hl10 hts10 => ?_
    · obtain ⟨rfl, rfl⟩ := y
      exact ⟨rfl, _, rfl, _, rfl, _, rfl, _, rfl, _, _, rfl, rfl, child f' ((ho9.fresh hD).kp (f'.kS k')) hC' hR⟩
    refine ⟨D, ys10, rfl, .inl ⟨SqL.of hD10, fun p12 hp12 => ⟨by show 4 ≤ sizeLine; decide, fun p13 hp13 => ?_⟩⟩⟩
    have k12' := same_new (o := .tup ys10) hp12
    have k13 := same_new (o := .tup [.str "call", .str nm, .ref pz, .ref p12]) hp13
    have f12 := f10.same k12'
    exact fin (t := .call true nm [] ts) (k19.trans (k10.trans (Kp.of (k12'.trans k13)))) (f12.same k13) (by omega) (.tup upd_same (f12.trk.out hp13) (.cons (.str _) (.cons (.str _) (.cons ((hz9.kp (f9.kS k10)).kp (Kp.of (k12'.trans k13))) (.cons (.tup (k13 _ _ upd_same) (f10.trk.out hp12) (hys10.kp (Kp.of (k12'.trans k13)))) .nil))))) (gen_call nn (Nat.zero_le _) (by omega) (fun _ m => nomatch m) hts10)
end
end K19
set_option Elab.async false
set_option linter.all false
set_option maxRecDepth 100000
set_option maxHeartbeats 4000000
/-! k19: a drawn function. -/
namespace K19
open PySem PySem.Spec PyProof.Rows L2 Zg Zr Zd Zv
/-- len of a list or a tuple -/
def rLenS (K : PySem.W.Frag) : List V → Hp → VK → Prop := fun xs H Q => ∃ p ys, xs = [V.ref p] ∧ (SqL K H p ys ∨ SqT K H p ys) ∧ Q (.int (ys.length : Nat)) H
section
variable {P : Program} {w : World} {K : PySem.W.Frag} {mg : PySem.Str → Option Value} {base : Heap}
theorem ok_function_of (T : Txt K mg) {d : Nat} {spT spF : Sp} (hT : FnOk P w K mg base CX0 (d + 3) T.a_task T.d_task P_task spT) (hF : FnOk P w K mg base CX0 (d + 3) T.a_function T.d_function P_function spF) (eT : ∀ m, d = m + 1 → spT = sp_task m) (eF : ∀ m, d = m + 1 → spF = sp_function m) :
    FnOk P w K mg base CX0 (d + 4) T.a_function T.d_function P_function (sp_function d) := by
  refine T.F_function.ok sc_function (fun vs H Q E h => by obtain ⟨wd, l, p, S, pl, C, n, own, opn, N, z, rfl, _⟩ := h; rfl) (fun cdv A outer s H vs Q E hr h => ?_)
  refine ⟨_, (pss_cons (ps_dput (hu_of hr) (pv 1) pe_str (pe_op op_sub (pe_dget (hu_of hr) (pv 1) pe_str (fun _ _ => rfl)) pe_int) rfl)
    (pss_cons (ps_set (i := 5) sc_function.nd rfl (Or.inl rfl) (pe_lst (pa_cons (pe_tup (pa_cons pe_str (pa_cons (pe_dget (hu_of hr) (pv 1) pe_str (fun _ _ => rfl)) (pa_cons (pe_tup pa_nil) (pa_cons (pe_callTy call_tuple_of (by rfl) T.n_tuple (by decide +kernel) (pa_cons (pe_lc (own := [("k", 6)]) rfl sc_function.nd (pi_range1 (by rfl) T.n_range (pa_cons (pe_op op_sub pe_int (pv 3)) pa_nil)) (blkOk_by (own := [("k", 6)]) (N := N_function) (sc := defScope s_function) (by decide +kernel)) (fun _ _ _ _ _ => (pg_name (i := 6) sc_function.nd rfl (Or.inl rfl))) (fun _ _ _ _ _ => pts_nil) (fun _ _ _ _ _ => (pe_call (ok_leaf T) (hr.mono (by omega)) (by rfl) T.g_leaf T.F_leaf.kp T.b_leaf .nil pass0 (pa_cons (pv 0) (pa_cons (pv 2) pa_nil))))) pa_nil)) pa_nil))))) pa_nil)))
    (pss_cons (ps_set (i := 5) sc_function.nd rfl (Or.inl rfl) (pe_op op_cat (pv 5) (pe_op op_rep (pe_lc (own := [("name", 7), ("many", 8)]) rfl sc_function.nd (pi_list (pe_op op_cat (pe_callTy call_list_of (by rfl) T.n_list (by decide +kernel) (pa_cons (pe_ix ix_tup (pv 2) pe_int (fun _ _ => rfl)) pa_nil)) (LiI.pe_listItems (by rfl) (pe_dget (hu_of hr) (pv 1) pe_str (fun _ _ => rfl)) (by rfl) T.n_list (by decide +kernel)))) (blkOk_by (own := [("name", 7), ("many", 8)]) (N := N_function) (sc := defScope s_function) (by decide +kernel)) (fun _ _ _ _ _ => (show PG _ _ (gTup K 2 _) from (pg_tup (by rfl) (pgs_cons (pg_name (i := 7) sc_function.nd rfl (Or.inl rfl)) (pgs_cons (pg_name (i := 8) sc_function.nd rfl (Or.inl rfl)) pgs_nil))))) (fun _ _ _ _ _ => (pts_one (pt_cmpR op_eq (pv 8) (pv 3) (nomark _)))) (fun _ _ _ _ _ => (pe_tup (pa_cons pe_str (pa_cons (pv 7) pa_nil))))) pe_int)))
    (pss_cons (ps_setLc (i := 9) (own := [("name", 7)]) rfl sc_function.nd rfl rfl (sw_true rfl rfl rfl (by decide +kernel)) (pi_list (pe_callB (call_sortedD rfl) (by rfl) T.n_sorted (by decide +kernel) (pa_cons (pe_dget (hu_of hr) (pv 1) pe_str (fun _ _ => rfl)) pa_nil))) (blkOk_by (own := [("name", 7)]) (N := N_function) (sc := defScope s_function) (by decide +kernel)) (fun _ _ _ _ _ => (pg_name (i := 7) sc_function.nd rfl (Or.inl rfl))) (fun _ _ _ _ _ => (pts_one (pt_cmpR op_ge (pe_callB (show CallR _ (.builtin "len") (rLenS K) from call_len_seq) (by rfl) T.n_len (by decide +kernel) (pa_cons (pe_ix (show IxR _ (rIxT K) from ix_tup) (pe_dget (hu_of hr) (pe_dget (hu_of hr) (pv 1) pe_str (fun _ _ => rfl)) (pv 7) (fun _ _ => rfl)) pe_int (fun _ _ => rfl)) pa_nil)) (pv 3) (nomark _)))) (fun _ _ _ _ _ => (pv 7)))
    (pss_cons (ps_if (PW.pt (pw_or (pt_cmpR op_le (pv 4) pe_int (nomark _)) (pw_or (pt_cmpR op_le (pe_dget (hu_of hr) (pv 1) pe_str (fun _ _ => rfl)) pe_int (nomark _)) (pw_or1 (pt_cmpR op_eq (pe_call (ok_draw T) (hr.mono (by omega)) (by rfl) T.g_draw T.F_draw.kp T.b_draw .nil pass0 (pa_cons (pv 0) (pa_cons pe_int pa_nil))) pe_int (nomark _)))))) (pss_one (ps_ret (pe_call (ok_pick T) (hr.mono (by omega)) (by rfl) T.g_pick T.F_pick.kp T.b_pick .nil pass0 (pa_cons (pv 0) (pa_cons (pv 5) pa_nil))))) pss_nil)
    (pss_cons (ps_set (i := 7) sc_function.nd rfl (Or.inl rfl) (pe_call (ok_pick T) (hr.mono (by omega)) (by rfl) T.g_pick T.F_pick.kp T.b_pick .nil pass0 (pa_cons (pv 0) (pa_cons (pv 9) pa_nil))))
    (pss_cons (ps_asg (pe_dget (hu_of hr) (pe_dget (hu_of hr) (pv 1) pe_str (fun _ _ => rfl)) (pv 7) (fun _ _ => rfl)) (pg_tup (by rfl) (pgs_cons (pg_name (i := 10) sc_function.nd rfl (Or.inl rfl)) (pgs_cons (pg_name (i := 11) sc_function.nd rfl (Or.inl rfl)) pgs_nil))))
    (pss_cons (ps_set (i := 5) sc_function.nd rfl (Or.inl rfl) (pe_callTy call_tuple_of (by rfl) T.n_tuple (by decide +kernel) (pa_cons (pe_lc (own := [("one", 12), ("many", 8)]) rfl sc_function.nd (pi_tup (pv 10)) (blkOk_by (own := [("one", 12), ("many", 8)]) (N := N_function) (sc := defScope s_function) (by decide +kernel)) (fun _ _ _ _ _ => (show PG _ _ (gTup K 2 _) from (pg_tup (by rfl) (pgs_cons (pg_name (i := 12) sc_function.nd rfl (Or.inl rfl)) (pgs_cons (pg_name (i := 8) sc_function.nd rfl (Or.inl rfl)) pgs_nil))))) (fun _ _ _ _ _ => pts_nil) (fun _ _ _ _ _ => (pe_call hF (hr.mono (by omega)) (by rfl) T.g_function T.F_function.kp T.b_function .nil pass0 (pa_cons (pv 0) (pa_cons (pv 1) (pa_cons (pv 2) (pa_cons (pv 8) (pa_cons (pe_op op_sub (pv 4) pe_int) pa_nil)))))))) pa_nil)))
    (pss_one (ps_ret (pe_tup (pa_cons pe_str (pa_cons (pv 7) (pa_cons (pv 5) (pa_cons (pe_callTy call_tuple_of (by rfl) T.n_tuple (by decide +kernel) (pa_cons (pe_lc (own := [("one", 12)]) rfl sc_function.nd (pi_tup (pe_slice sl_tupA (pv 11) (po_some (pv 3)) po_none)) (blkOk_by (own := [("one", 12)]) (N := N_function) (sc := defScope s_function) (by decide +kernel)) (fun _ _ _ _ _ => (pg_name (i := 12) sc_function.nd rfl (Or.inl rfl))) (fun _ _ _ _ _ => pts_nil) (fun _ _ _ _ _ => (pe_call hT (hr.mono (by omega)) (by rfl) T.g_task T.F_task.kp T.b_task .nil pass0 (pa_cons (pv 0) (pa_cons (pv 1) (pa_cons (pv 2) (pa_cons (pe_op op_sub (pv 4) pe_int) pa_nil))))))) pa_nil)) pa_nil))))))))))))))), ?_⟩
  obtain ⟨wd, l, p, S, pl, C, n, own, opn, N, z, rfl, f, hO, ho, hH, z1, z2, hC, q⟩ := h
  have kl : Kp [wd, l, p] H (upd H p (.dK (PK pl.sh pl.ex pl.hd pl.md (n - 1) pl.b))) := (Kp.refl _ _).wr (.inl (by simp))
  refine ⟨_, rfl, p, _, rfl, DGet.k (k := .inr "left") f.pk, _, _, rfl, rfl, ?_⟩
  refine ⟨_, rfl, p, _, rfl, DPut.k (k := .inr "left") f.pk (by show 6 < sizeLine; decide), ?_⟩
  have f1 := f.left (n' := n - 1)
  have ho1 := ho.kp (f.kS kl)
  dsimp only []
  rw [pk_put]
  generalize upd H p (.dK (PK pl.sh pl.ex pl.hd pl.md (n - 1) pl.b)) = H1 at kl f1 ho1 ⊢
  have hcd := ct_pos d
  have ln := hH.ln
  have lp := hH.lp
  -- the part of the base
  refine ⟨_, rfl, p, _, rfl, DGet.k (k := .inr "base") f1.pk, by show 0 ≤ sizeLine; decide, fun pz hpz => ?_⟩
  have kz := same_new (o := .tup []) hpz
  have f2 := f1.same kz
  have k12 := kl.trans (Kp.of kz)
  have hz2 : Dv S (upd H1 pz (.tup [])) (.ref pz) (.tuple (datas [])) := .tup upd_same (f1.trk.out hpz) .nil
  refine ⟨_, rfl, _, _, rfl, rfl, _, rfl, by omega, by omega, fun D hD => ?_⟩
  generalize upd H1 pz (.tup []) = H2 at kz f2 k12 hz2 hD ⊢
  have hm : (2 - (z : Int)).toNat ≤ 1 := by omega
  generalize (2 - (z : Int)).toNat = k0 at hm
  have ho2 := ho.kp (f.kS k12)
  refine lc_gen (Gn := Lf N) (c := 1) walk_range f2 hD (by omega) (by omega) (fun _ _ => trivial) (fun i x H' H'' C' n' hi f' k' hC' y R hR => ?_) fun H3 ys3 ts3 n3 k3 f3 hD3 hys3 hl3 hts3 => ?_
  · obtain ⟨rfl, rfl⟩ := y
    exact ⟨rfl, _, rfl, _, rfl, wd, l, own, D :: S, C', opn, N, rfl, f'.well, by omega, f'.mw, f'.ml, f'.trk, (ho2.fresh hD).kp (f'.kS k'), ln, hH.nn, fun H3 r t k3 W3 hr ht => hR H3 r t n' (kp2 k3) (f'.draw k3 W3) hr ht⟩
  refine ⟨D, ys3, rfl, .inl ⟨SqL.of hD3, fun p4 hp4 => ⟨by show 4 ≤ sizeLine; decide, fun p5 hp5 => ⟨by show 1 ≤ sizeLine; decide, fun p6 hp6 => ?_⟩⟩⟩⟩
  have q4 := same_new (o := .tup ys3) hp4
  have q5 := same_new (o := .tup [.str "part", .str pl.b, .ref pz, .ref p4]) hp5
  have q6 := same_new (o := .lst [.ref p5]) hp6
  have q46 := q4.trans (q5.trans q6)
  have f6 := f3.same q46
  have k16 := k12.trans (k3.trans (Kp.of q46))
  have h5 : Dv S (upd (upd (upd H3 p4 (.tup ys3)) p5 (.tup [.str "part", .str pl.b, .ref pz, .ref p4])) p6 (.lst [.ref p5])) (.ref p5) (Tm.call false pl.b [] ts3).data :=
    .tup (q6 _ _ upd_same) ((f3.same q4).trk.out hp5) (.cons (.str _) (.cons (.str _) (.cons ((hz2.kp (f2.kS k3)).kp (Kp.of q46)) (.cons (.tup (q6 _ _ (q5 _ _ upd_same)) (f3.trk.out hp4) (hys3.kp (Kp.of q46))) .nil))))
  have h6 : (upd (upd (upd H3 p4 (.tup ys3)) p5 (.tup [.str "part", .str pl.b, .ref pz, .ref p4])) p6 (.lst [.ref p5])) p6 = some (.lst [.ref p5]) := upd_same
  have n6 : p6 ∉ S := ((f3.same q4).same q5).trk.out hp6
  dsimp only [gName]
  show tSeq (tAsg _ _) _ _ _ (upd (upd (upd H3 p4 (.tup ys3)) p5 (.tup [.str "part", .str pl.b, .ref pz, .ref p4])) p6 (.lst [.ref p5]))
  generalize upd (upd (upd H3 p4 (.tup ys3)) p5 (.tup [.str "part", .str pl.b, .ref pz, .ref p4])) p6 (.lst [.ref p5]) = H6 at q46 f6 k16 h5 h6 ⊢
  have gb : Gen N d (Tm.call false pl.b [] ts3) ∧ FunV (Tm.call false pl.b [] ts3) := ⟨gen_base hO.bn (by omega) hts3, .inr ⟨pl.b, [], ts3, rfl, by omega⟩⟩
  have hCn : C + k0 * 1 ≤ C + 1 := by omega
  have f6 := f6.mono hCn
  -- what is given
  have ho6 := ho.kp (f.kS k16)
  obtain ⟨o, xo, rfl, hoo, noo, hxo⟩ := Dv.tup_inv ho6
  cases hxo with
  | @cons v0 _ _ _ x0 hxo =>
  cases hxo with
  | @cons v1 _ _ _ x1 hxo =>
  cases hxo
  obtain ⟨o1, zs1, rfl, ho1', no1, hz1⟩ := x0.tup_inv
  have lz1 := hz1.length
  rw [List.length_map] at lz1
  refine ⟨_, rfl, _, rfl, o, _, 0, _, rfl, rfl, SqT.of hoo, atI_nat (j := 0) rfl, o1, zs1, rfl, .inr (SqT.of ho1'), fun la hla => ?_⟩
  have kla := same_new (o := .lst zs1) hla
  have hla1 : (upd H6 la (.lst zs1)) la = some (.lst zs1) := upd_same
  have f7 := f6.same kla
  generalize upd H6 la (.lst zs1) = H7 at kla hla1 f7 ⊢
  refine ⟨_, rfl, p, _, rfl, DGet.k (k := .inr "externals") f7.pk, pl.ex, _, rfl, f7.pl.ex, fun H8 pi ts k8 hpi hts npi hpi8 hP => ?_⟩
  have k8' : Same H7 H8 := k8
  have f8 := f7.same k8'
  obtain ⟨_, ex2⟩ := prs_ext (S := S) f7.trk hts hP hO.en
  have lts := Paired.length hP
  rw [List.length_map] at lts
  have le4 := hO.e4
  refine ⟨la, pi, zs1, _, rfl, rfl, k8' _ _ hla1, hpi8, by rw [sizeLine_eq, List.length_map]; omega, fun pg hpg => ⟨pg, rfl, ⟨_, SqL.of upd_same⟩, fun D2 hD2 => ?_⟩⟩
  have kg := same_new (o := .lst (zs1 ++ ts.map V.ref)) hpg
  have hpg1 : (upd H8 pg (.lst (zs1 ++ ts.map V.ref))) pg = some (.lst (zs1 ++ ts.map V.ref)) := upd_same
  have k69 : Same H6 (upd H8 pg (.lst (zs1 ++ ts.map V.ref))) := kla.trans (k8'.trans kg)
  have hgv : ∀ v ∈ zs1 ++ ts.map V.ref, Pr S (upd H8 pg (.lst (zs1 ++ ts.map V.ref))) v := fun v m => by
    rcases List.mem_append.mp m with m | m
    · exact (prs_of hz1 hH.pp v m).kp (Kp.of k69)
    · exact (ex2 v m).kp (Kp.of kg)
  have lgv : (zs1 ++ ts.map V.ref).length ≤ 6 := by rw [List.length_append, List.length_map]; omega
  generalize upd H8 pg (.lst (zs1 ++ ts.map V.ref)) = H9 at k69 hpg1 hgv hD2 ⊢
  generalize zs1 ++ ts.map V.ref = gs at hpg1 hgv lgv ⊢
  have f9 := f6.same k69
  have nD2 := f9.trk.out hD2
  refine lc_it (walk_list (K := K) (a := pg) (xs := gs)) (fun i H' => ∃ ys, Same H9 H' ∧ H' D2 = some (.lst ys) ∧ (∀ y ∈ ys, ∃ x, Nm x ∧ Dv (D2 :: S) H' y (Tm.given x).data) ∧ ys.length ≤ i) ⟨[], same_new hD2, upd_same, (fun _ z => nomatch z), Nat.le_refl _⟩ (fun i H' _ ⟨_, k, _⟩ => SqL.of (k _ _ hpg1)) ?_ ?_
  · rintro i x H' H'' hi ⟨ys, k, hDl, hy, hyl⟩ ⟨rfl, hx⟩
    obtain ⟨nm, kk, hpr, nn, kk1, kk2⟩ := (hgv x (List.mem_of_getElem? hx)).kp (Kp.of k)
    obtain ⟨b, xb, rfl, hb, _, hxb⟩ := Dv.tup_inv hpr
    cases hxb with
    | @cons w0 _ _ _ c0 hxb =>
    cases hxb with
    | @cons w1 _ _ _ c1 hxb =>
    cases hxb
    cases c0
    cases c1
    refine ⟨b, _, rfl, SqT.of hb, rfl, _, _, rfl, _, _, rfl, rfl, rfl, _, rfl, _, rfl, rfl, _, rfl, ite2 (fun _ => ?_) (fun _ => ⟨ys, k, hDl, hy, Nat.le_succ_of_le hyl⟩)⟩
    refine ⟨_, rfl, by show 2 ≤ sizeLine; decide, fun pn hpn => ?_⟩
    have kn := same_new (o := .tup [.str "given", .str nm]) hpn
    have hDn := kn _ _ hDl
    have nDS : pn ∉ D2 :: S := fun m => by
      rcases List.mem_cons.mp m with rfl | m
      · rw [hDl] at hpn
        cases hpn
      · exact (f9.trk.same k).out hpn m
    have kw : Kp (D2 :: S) (upd H'' pn (.tup [.str "given", .str nm])) (upd (upd H'' pn (.tup [.str "given", .str nm])) D2 (.lst (ys ++ [.ref pn]))) := (Kp.refl _ _).wr (.inl List.mem_cons_self)
    refine ⟨ys, hDn, by rw [sizeLine_eq]; omega, ys ++ [.ref pn], same_put (k.trans kn) hD2, upd_same, fun y my => ?_, by rw [List.length_append, List.length_singleton]; omega⟩
    rcases List.mem_append.mp my with my | my
    · obtain ⟨x, nx, hx⟩ := hy y my
      exact ⟨x, nx, (hx.kp (Kp.of kn)).kp kw⟩
    · rw [List.mem_singleton] at my
      subst my
      exact ⟨nm, nn, Dv.kp kw (.tup upd_same nDS (.cons (.str _) (.cons (.str _) .nil)))⟩
  rintro H10 ⟨ys10, k10, hD10, hys10, hyl10⟩
  refine ⟨D2, 2, ys10, rfl, rfl, hD10, by decide, by decide, by rw [sizeLine_eq]; show ys10.length * 2 ≤ _; omega, fun p11 hp11 => ?_⟩
  have k11 := same_new (o := .lst (List.replicate (Int.toNat 2) ys10).flatten) hp11
  have hp11' : (upd H10 p11 (.lst (List.replicate (Int.toNat 2) ys10).flatten)) p11 = some (.lst (List.replicate (Int.toNat 2) ys10).flatten) := upd_same
  have l11 : (List.replicate (Int.toNat 2) ys10).flatten.length ≤ 12 := by
    show (ys10 ++ (ys10 ++ [])).length ≤ 12
    simp only [List.length_append, List.length_nil]
    omega
  have m11 : ∀ x ∈ (List.replicate (Int.toNat 2) ys10).flatten, x ∈ ys10 := fun x m => by
    obtain ⟨z, hz, hm⟩ := List.mem_flatten.mp m
    exact (List.mem_replicate.mp hz).2 ▸ hm
  generalize upd H10 p11 (.lst (List.replicate (Int.toNat 2) ys10).flatten) = H11 at k11 hp11' ⊢
  generalize (List.replicate (Int.toNat 2) ys10).flatten = zs at hp11' l11 m11
  have k611 : Same H6 H11 := k69.trans (k10.trans k11)
  refine ⟨p6, p11, [.ref p5], zs, rfl, rfl, k611 _ _ h6, hp11', by rw [sizeLine_eq]; show 1 + zs.length ≤ _; omega, fun p12 hp12 => ?_⟩
  have k12' := same_new (o := .lst ([V.ref p5] ++ zs)) hp12
  have h12 : (upd H11 p12 (.lst ([V.ref p5] ++ zs))) p12 = some (.lst ([V.ref p5] ++ zs)) := upd_same
  have k612 := k611.trans k12'
  have hel : ∀ v ∈ [V.ref p5] ++ zs, ∃ t, Dv S (upd H11 p12 (.lst ([V.ref p5] ++ zs))) v t.data ∧ Gen N d t ∧ FunV t := fun v m => by
    rcases List.mem_append.mp m with m | m
    · rw [List.mem_singleton] at m
      subst m
      exact ⟨_, h5.kp (Kp.of k612), gb⟩
    · obtain ⟨x, nx, hx⟩ := hys10 v (m11 v m)
      exact ⟨.given x, (hx.sub fun a m => List.mem_cons_of_mem _ m).kp (Kp.of (k11.trans k12')), gen_given nx, .inl ⟨x, rfl⟩⟩
  have f12 := f6.same k612
  have k112 := k16.trans (Kp.of k612)
  have n12 : p12 ∉ S := (f6.same k611).trk.out hp12
  have l12 : ([V.ref p5] ++ zs).length ≤ 13 := by rw [List.length_append, List.length_singleton]; omega
  have c12 : [V.ref p5] ++ zs ≠ [] := fun z => nomatch z
  dsimp only [gName]
  show tSeq (tAsg _ _) _ _ _ (upd H11 p12 (.lst ([V.ref p5] ++ zs)))
  generalize upd H11 p12 (.lst ([V.ref p5] ++ zs)) = H12 at k12' h12 k612 hel f12 k112 ⊢
  generalize [V.ref p5] ++ zs = some5 at h12 hel l12 c12 ⊢
  -- the names
  have hk64 := hO.k64
  refine ⟨_, rfl, p, _, rfl, DGet.k (k := .inr "heads") f12.pk, pl.hd, pl.hkv, pl.ks, rfl, .inl f12.pl.hd, f12.pl.hk, hk64, fun sn a hsn _ ha => ⟨a, rfl, ⟨_, SqL.of upd_same⟩, fun D3 hD3 => ?_⟩⟩
  have ka := same_new (o := .lst (sn.map V.str)) ha
  have ha1 : (upd H12 a (.lst (sn.map V.str))) a = some (.lst (sn.map V.str)) := upd_same
  generalize upd H12 a (.lst (sn.map V.str)) = H13 at ka ha1 hD3 ⊢
  have f13 := f12.same ka
  have lsn := hsn.length_eq
  refine lc_it (walk_list (K := K) (a := a) (xs := sn.map V.str)) (fun i H' => ∃ ns : List PySem.Str, Same H13 H' ∧ H' D3 = some (.lst (ns.map V.str)) ∧ (∀ y ∈ ns, y ∈ pl.ks ∧ z ≤ (pl.hget y).2.length) ∧ (∀ y ∈ sn.take i, z ≤ (pl.hget y).2.length → y ∈ ns) ∧ ns.length ≤ i) ⟨[], same_new hD3, upd_same, (fun _ z => nomatch z), (fun _ z => nomatch z), Nat.le_refl _⟩ (fun i H' _ ⟨_, k, _⟩ => SqL.of (k _ _ ha1)) ?_ ?_
  · rintro i x H' H'' hi ⟨ns, k, hDl, hns, hin, hnl⟩ ⟨rfl, hx⟩
    rw [List.getElem?_map] at hx
    cases hsi : sn[i]? with
    | none => rw [hsi] at hx; cases hx
    | some y =>
    rw [hsi] at hx
    cases hx
    have my := hsn.mem_iff.mp (List.mem_of_getElem? hsi)
    have f' := f13.same k
    obtain ⟨hvv, ehv, hdv⟩ := f'.pl.hv y my
    obtain ⟨ah, xh, rfl, hah, nah, hxh⟩ := Dv.tup_inv hdv
    cases hxh with
    | @cons u0 _ _ _ y0' hxh =>
    cases hxh with
    | @cons u1 _ _ _ y1' hxh =>
    cases hxh
    obtain ⟨ae, ze, rfl, hae, nae, hze⟩ := y1'.tup_inv
    have lze := hze.length
    rw [List.length_map] at lze
    rw [List.length_map] at hi
    have step : ∀ P : PySem.Str → Prop, (∀ u ∈ sn.take i, P u) → P y → ∀ u ∈ sn.take (i + 1), P u := fun P h1 h2 u mu => by
      rw [List.take_succ, hsi] at mu
      rcases List.mem_append.mp mu with mu | mu
      · exact h1 u mu
      · rw [List.mem_singleton.mp (show u ∈ [y] from mu)]
        exact h2
    refine ⟨rfl, _, rfl, p, _, rfl, DGet.k (k := .inr "heads") f'.pk, _, rfl, pl.hd, _, rfl, ehv ▸ DGet.k (k := .inr y) f'.pl.hd, ah, _, 1, _, rfl, rfl, SqT.of hah, atI_nat (j := 1) rfl, ae, ze, rfl, .inr (SqT.of hae), _, rfl, _, _, rfl, rfl, _, rfl, ite2 (fun e => ?_) (fun e => ?_)⟩
    · have e' : (z : Int) ≤ (ze.length : Int) := of_decide_eq_true e
      refine ⟨_, rfl, _, hDl, by rw [List.length_map, sizeLine_eq]; omega, ns ++ [y], same_put k hD3, by rw [upd_same, List.map_append]; rfl, fun u mu => ?_, step _ (fun u mu h => List.mem_append_left _ (hin u mu h)) (fun _ => by simp), by rw [List.length_append, List.length_singleton]; omega⟩
      rcases List.mem_append.mp mu with mu | mu
      · exact hns u mu
      · rw [List.mem_singleton.mp mu]
        exact ⟨my, by omega⟩
    · refine ⟨ns, k, hDl, hns, step _ hin (fun h => absurd (decide_eq_true ?_) e), Nat.le_succ_of_le hnl⟩
      show (z : Int) ≤ (ze.length : Int)
      omega
  rintro H14 ⟨ns, k14, hD14, hns, hin, hnl⟩
  rw [List.length_map] at hnl hin
  rw [List.take_length] at hin
  have nns : ns ≠ [] := fun e => by
    obtain ⟨y, my, hy⟩ := hO.two
    have := hin y (hsn.mem_iff.mpr my) (by omega)
    rw [e] at this
    cases this
  have k1214 := ka.trans k14
  have f14 := f12.same k1214
  have k114 := k112.trans (Kp.of k1214)
  have nD3 : D3 ∉ S := f13.trk.out hD3
  have h14 := k1214 _ _ h12
  have hel14 : ∀ v ∈ some5, ∃ t, Dv S H14 v t.data ∧ Gen N d t ∧ FunV t := fun v m => by
    obtain ⟨t, a, b⟩ := hel v m
    exact ⟨t, a.kp (Kp.of k1214), b⟩
  dsimp only [gName]
  show tSeq (tIfS _ _ _) _ _ _ H14
  have nS : ∀ {a : Addr}, a ∉ S → a ∉ [wd, l] := fun {a} na m => by
    simp only [List.mem_cons, List.not_mem_nil, or_false] at m
    rcases m with rfl | rfl
    · exact na f14.mw
    · exact na f14.ml
  have retp : ∀ {H' : Hp} {C' : Nat} {n' : Int}, Fr S H' wd l p pl C' n' → Kp [wd, l, p] H14 H' → C' + 1 ≤ C + cT d → sp_pick [.ref wd, .ref p12] H' Q E0 := fun {H' C' n'} f' k' hC' =>
    ⟨wd, l, p12, C', some5, rfl, f'.well, by omega, nS n12, (f14.kS k') _ _ n12 h14, c12, by omega, fun H'' x k'' W'' hx => by
      obtain ⟨t, hd, hg⟩ := hel14 x hx
      have kk := k'.trans (kp2 k'')
      exact q H'' x t n' (k114.trans kk) ((f'.draw k'' W'').mono hC') (hd.kp (f14.kS kk)) hg⟩
  refine viaH (fun H' => Fr S H' wd l p pl (C + 2) n3 ∧ Kp [wd, l, p] H14 H' ∧ ∃ m, d = m + 1) (fun H15 ⟨f15, k15, m, em0⟩ => ?_) (fun nx cont => ?_)
  · subst em0
    have eT' := eT m rfl
    have eF' := eF m rfl
    subst eT' eF'
    have em : (((m + 1 : Nat) : Int) - 1) = (m : Int) := by omega
    have hcm := ct_pos m
    have hC2 : C + (5 * cT m + 10) < LIM := hC
    have nwl := nS nD3
    have h14D := (f14.kS k15) _ _ nD3 hD14
    refine ⟨_, rfl, _, rfl, wd, l, D3, C + 2, ns.map V.str, rfl, f15.well, by omega, nwl, h14D, fun e => nns (List.map_eq_nil_iff.mp e), by rw [List.length_map]; omega, fun H16 x k16' W16 hx => ?_⟩
    obtain ⟨y, my, rfl⟩ := List.mem_map.mp hx
    obtain ⟨my', hzy⟩ := hns y my
    obtain ⟨nz, hz⟩ := hO.kn y my'
    have f16 := f15.draw k16' W16
    have k116 : Kp [wd, l, p] H H16 := k114.trans (k15.trans (kp2 k16'))
    dsimp only [gName]
    obtain ⟨hvv, ehv, hdv⟩ := f16.pl.hv y my'
    obtain ⟨ah, xh, rfl, hah, nah, hxh⟩ := Dv.tup_inv hdv
    cases hxh with
    | @cons u0 _ _ _ y0' hxh =>
    cases hxh with
    | @cons u1 _ _ _ y1' hxh =>
    cases hxh
    obtain ⟨at', zt, rfl, hat, nat', hzt⟩ := y0'.tup_inv
    obtain ⟨ae, ze, rfl, hae, nae, hze⟩ := y1'.tup_inv
    have lzt := hzt.length
    have lze := hze.length
    rw [List.length_map] at lzt lze
    have l2 := hz.lp
    have l3 := hz.ln
    refine ⟨_, rfl, p, _, rfl, DGet.k (k := .inr "heads") f16.pk, _, rfl, pl.hd, _, rfl, ehv ▸ DGet.k (k := .inr y) f16.pl.hd, ah, _, rfl, SqT.of hah, rfl, _, _, rfl, _, _, rfl, rfl, ?_⟩
    dsimp only [gName]
    have ho8 := ho.kp (f.kS k116)
    have hzp := prs_of hzt hz.pp
    refine ⟨_, rfl, at', rfl, ⟨_, SqT.of hat⟩, fun D hD => ?_⟩
    have hmul : zt.length * cT m ≤ 2 * cT m := Nat.mul_le_mul_right _ (by omega)
    refine lc_gen (Gn := fun t => Gen N m t ∧ FunV t) (c := cT m) (walk_tup (K := K) (a := at') (xs := zt)) f16 hD (by omega) (by omega) (fun H' k' => SqT.of ((f16.kS k') _ _ nat' hat)) (fun i x H' H'' C' n' hi f' k' hC' y R hR => ?_) fun H9 ys9 fs n9 k9 f9 hD9 hys9 hl9 hts9 => ?_
    · obtain ⟨rfl, hx'⟩ := y
      obtain ⟨nm, kk, hpr, nn, kk1, kk2⟩ := hzp x (List.mem_of_getElem? hx')
      have hpr' := (hpr.fresh hD).kp (f'.kS k')
      obtain ⟨b, xb, rfl, hb, _, hxb⟩ := Dv.tup_inv hpr'
      cases hxb with
      | @cons w0 _ _ _ c0 hxb =>
      cases hxb with
      | @cons w1 _ _ _ c1 hxb =>
      cases hxb
      cases c0
      cases c1
      exact ⟨b, _, rfl, SqT.of hb, rfl, _, _, rfl, _, _, rfl, rfl, rfl, _, rfl, _, rfl, _, rfl, _, rfl, _, rfl, _, _, rfl, rfl, wd, l, p, D :: S, pl, C', n', _, opn, N, kk, a5 em, f', hO, (ho8.fresh hD).kp (f'.kS k'), hH, kk1, kk2, hC', hR⟩
    refine ⟨D, ys9, rfl, .inl ⟨SqL.of hD9, fun p10 hp10 => ?_⟩⟩
    dsimp only [gName]
    have k10' := same_new (o := .tup ys9) hp10
    have f10 := f9.same k10'
    have h10 : Dv S (upd H9 p10 (.tup ys9)) (.ref p10) (.tuple (datas fs)) := .tup upd_same (f9.trk.out hp10) (hys9.kp (Kp.of k10'))
    have k8a : Kp [wd, l, p] H16 (upd H9 p10 (.tup ys9)) := k9.trans (Kp.of k10')
    generalize upd H9 p10 (.tup ys9) = H10' at k10' f10 h10 k8a ⊢
    have k110 := k116.trans k8a
    have ho10 := ho.kp (f.kS k110)
    refine ⟨_, rfl, _, rfl, _, rfl, _, rfl, ?_⟩
    dsimp only [tNoPart]
    refine ⟨_, rfl, ?_⟩
    refine slA_from (k := z) rfl ((f16.kS k8a) _ _ nae hae) fun H11' pe ke hpe hpn => ?_
    have npe : pe ∉ S := by
      rcases hpn with rfl | hpn
      · exact nae
      · exact f10.trk.out hpn
    have f11 := f10.same ke
    have k111 := k110.trans (Kp.of ke)
    have ho11 := ho.kp (f.kS k111)
    have lzd : (ze.drop z).length ≤ 3 := by rw [List.length_drop]; omega
    generalize ze.drop z = zd at hpe lzd
    refine ⟨pe, rfl, ⟨_, SqT.of hpe⟩, fun D2 hD2 => ?_⟩
    have hmul2 : zd.length * cT m ≤ 3 * cT m := Nat.mul_le_mul_right _ lzd
    refine lc_gen (Gn := Gen N m) (c := cT m) (walk_tup (K := K) (a := pe) (xs := zd)) f11 hD2 (by omega) (by omega) (fun H' k' => SqT.of ((f11.kS k') _ _ npe hpe)) (fun i x H' H'' C' n' hi f' k' hC' y R hR => ?_) fun H12' ys11 ts n11 k11' f12' hD11 hys11 hl11 hts11 => ?_
    · obtain ⟨rfl, hx'⟩ := y
      exact ⟨rfl, _, rfl, _, rfl, _, rfl, _, rfl, _, _, rfl, rfl, wd, l, p, D2 :: S, pl, C', n', _, opn, N, a4 em, f', hO, (ho11.fresh hD2).kp (f'.kS k'), hH, hC', hR⟩
    refine ⟨D2, ys11, rfl, .inl ⟨SqL.of hD11, fun p12' hp12' => ⟨by show 4 ≤ sizeLine; decide, fun p13 hp13 => ?_⟩⟩⟩
    have k12'' := same_new (o := .tup ys11) hp12'
    have k13 := same_new (o := .tup [.str "part", .str y, .ref p10, .ref p12']) hp13
    have f13' := f12'.same k12''
    have gc : Gen N (m + 1) (Tm.call false y fs ts) := gen_call nz (by omega) (by omega) (fun t m => (hts9 t m).1) hts11
    refine q _ _ (.call false y fs ts) n11 (k111.trans (k11'.trans (Kp.of (k12''.trans k13)))) ((f13'.same k13).mono (show _ ≤ C + (5 * cT m + 10) by omega)) (.tup upd_same (f13'.trk.out hp13) (.cons (.str _) (.cons (.str _) (.cons (((h10.kp (Kp.of ke)).kp (f11.kS k11')).kp (Kp.of (k12''.trans k13))) (.cons (.tup (k13 _ _ upd_same) (f12'.trk.out hp12') (hys11.kp (Kp.of (k12''.trans k13)))) .nil))))) ⟨gc, .inr ⟨y, fs, ts, rfl, by omega⟩⟩
  · have hC3 : C + 3 ≤ C + cT d := by omega
    refine ⟨_, rfl, _, _, rfl, rfl, _, rfl, ite2 (fun _ => iteT ⟨_, rfl, _, rfl, retp f14 (Kp.refl _ _) (by omega)⟩) (fun e => ?_)⟩
    have hd : ∃ m, d = m + 1 := ⟨d - 1, by
      have : ¬ ((d : Int) ≤ 0) := fun h => e (decide_eq_true h)
      omega⟩
    refine ⟨_, rfl, p, _, rfl, DGet.k (k := .inr "left") f14.pk, _, _, rfl, rfl, _, rfl, ite2 (fun _ => iteT ⟨_, rfl, _, rfl, retp f14 (Kp.refl _ _) (by omega)⟩) (fun _ => ?_)⟩
    refine ⟨_, rfl, wd, l, 2, C + 1, rfl, f14.well, by omega, by decide, by decide, fun H15 r k15 W15 r0 r1 => ⟨rfl, _, rfl, ite2 (fun _ => ⟨_, rfl, _, rfl, retp (f14.draw k15 W15) (kp2 k15) (by omega)⟩) (fun _ => cont _ ⟨f14.draw k15 W15, kp2 k15, hd⟩)⟩⟩
end
end K19
set_option Elab.async false
set_option linter.all false
set_option maxRecDepth 100000
set_option maxHeartbeats 4000000
/-! k19: what is given to a definition. -/
namespace K19
open PySem PySem.Spec PyProof.Rows L2 Zg Zr Zd Zv
section
variable {P : Program} {w : World} {K : PySem.W.Frag} {mg : PySem.Str → Option Value} {base : Heap}
theorem ok_tf (T : Txt K mg) : ∀ d : Nat, FnOk P w K mg base CX0 (d + 4) T.a_task T.d_task P_task (sp_task d) ∧ FnOk P w K mg base CX0 (d + 4) T.a_function T.d_function P_function (sp_function d)
  | 0 => ⟨ok_task_of T fn_none fn_none (fun m e => nomatch e) (fun m e => nomatch e), ok_function_of T fn_none fn_none (fun m e => nomatch e) (fun m e => nomatch e)⟩
  | d + 1 => by
    obtain ⟨h1, h2⟩ := ok_tf T d
    exact ⟨ok_task_of T (d := d + 1) h1 h2 (fun m e => by rw [show d = m by omega]) (fun m e => by rw [show d = m by omega]), ok_function_of T (d := d + 1) h1 h2 (fun m e => by rw [show d = m by omega]) (fun m e => by rw [show d = m by omega])⟩
def spA (sp : Nat → Sp) : Sp := fun vs H Q E => ∃ d, d ≤ 3 ∧ sp d vs H Q E
theorem fn_any {f : Addr} {fd : FuncData} {ps : List PySem.Str} {sp : Nat → Sp} (h : ∀ d, FnOk P w K mg base CX0 (d + 4) f fd ps (sp d)) : FnOk P w K mg base CX0 7 f fd ps (spA sp) :=
  ⟨fun vs H Q E ⟨d, _, h'⟩ => (h d).len vs H Q E h', fun A outer s H args us vs Q E hr e0 hb r ⟨d, hd, h'⟩ => (h d).run A outer s H args us vs Q E (hr.mono (by omega)) e0 hb r h'⟩
theorem ok_task (T : Txt K mg) : FnOk P w K mg base CX0 7 T.a_task T.d_task P_task (spA sp_task) := fn_any fun d => (ok_tf T d).1
theorem ok_function (T : Txt K mg) : FnOk P w K mg base CX0 7 T.a_function T.d_function P_function (spA sp_function) := fn_any fun d => (ok_tf T d).2
def sp_given : Sp := fun vs H Q _ => ∃ (wd l p : Addr) (S : List Addr) (pl : Pl) (C : Nat) (n : Int) (v : V) (pn : List (PySem.Str × Int)) (ns : List PySem.Str) (t : Tm), vs = [.ref wd, .ref p, v] ∧ Fr S H wd l p pl C n ∧ pl.Ok ∧ Dv S H v (mkD pn ns t) ∧ HeadOk pn ns ∧ C + 5 * cT 2 < LIM ∧
  ∀ (H' : Hp) (a : Addr) (fs ts : List Tm) (n' : Int), Kp [wd, l, p] H H' → Fr S H' wd l p pl (C + 5 * cT 2) n' → Dv S H' (.ref a) (.tuple [.tuple (datas fs), .tuple (datas ts)]) → fs.length = pn.length → ts.length = ns.length → (∀ f ∈ fs, Gen [] 2 f ∧ FunV f) → (∀ t ∈ ts, Gen [] 2 t) → Q (.ref a) H'
theorem ok_given (T : Txt K mg) : FnOk P w K mg base CX0 8 T.a_given T.d_given P_given sp_given := by
  refine T.F_given.ok sc_given (fun vs H Q E h => by obtain ⟨wd, l, p, S, pl, C, n, v, pn, ns, t, rfl, _⟩ := h; rfl) (fun cdv A outer s H vs Q E hr h => ?_)
  refine ⟨_, (pss_cons (ps_par (i := 3) (j := 4) (by rfl) sc_given.nd rfl rfl (by decide) rfl rfl (pa_cons (pe_lst pa_nil) (pa_cons (pe_lst pa_nil) pa_nil)) (by rfl))
    (pss_cons (ps_for PassesOwn.never rfl (pi_tup (pe_ix ix_tup (pv 2) pe_int (fun _ _ => rfl))) (pg_tup (by rfl) (pgs_cons (pg_name (i := 5) sc_given.nd rfl (Or.inl rfl)) (pgs_cons (pg_name (i := 6) sc_given.nd rfl (Or.inl rfl)) pgs_nil))) (pss_cons (ps_dput (hu_of hr) (pv 1) pe_str pe_int rfl)
    (pss_one (ps_expr (pe_bm PySem.F.plainAttrs_list PySem.F.slot_list_append PySem.F.type_list_append mt_append (pv 3) (pa_cons (pe_call (ok_function T) (hr.mono (by decide)) (by rfl) T.g_function T.F_function.kp T.b_function .nil pass0 (pa_cons (pv 0) (pa_cons (pv 1) (pa_cons (pe_tup (pa_cons (pe_tup pa_nil) (pa_cons (pe_tup pa_nil) pa_nil))) (pa_cons (pv 6) (pa_cons pe_int pa_nil)))))) pa_nil))))))
    (pss_cons (ps_for PassesOwn.never rfl (pi_tup (pe_ix ix_tup (pv 2) pe_int (fun _ _ => rfl))) (pg_name (i := 5) sc_given.nd rfl (Or.inl rfl)) (pss_cons (ps_dput (hu_of hr) (pv 1) pe_str pe_int rfl)
    (pss_one (ps_expr (pe_bm PySem.F.plainAttrs_list PySem.F.slot_list_append PySem.F.type_list_append mt_append (pv 4) (pa_cons (pe_call (ok_task T) (hr.mono (by decide)) (by rfl) T.g_task T.F_task.kp T.b_task .nil pass0 (pa_cons (pv 0) (pa_cons (pv 1) (pa_cons (pe_tup (pa_cons (pe_tup pa_nil) (pa_cons (pe_tup pa_nil) pa_nil))) (pa_cons pe_int pa_nil))))) pa_nil))))))
    (pss_one (ps_ret (pe_tup (pa_cons (pe_callTy call_tuple_of (by rfl) T.n_tuple (by decide +kernel) (pa_cons (pv 3) pa_nil)) (pa_cons (pe_callTy call_tuple_of (by rfl) T.n_tuple (by decide +kernel) (pa_cons (pv 4) pa_nil)) pa_nil)))))))), ?_⟩
  obtain ⟨wd, l, p, S, pl, C, n, v, pn, ns, t, rfl, f, hO, hv, hH, hC, q⟩ := h
  obtain ⟨a, xa, rfl, ha, na, hxa⟩ := hv.tup_inv
  cases hxa with
  | @cons v0 _ _ _ x0 hxa =>
  cases hxa with
  | @cons v1 _ _ _ x1 hxa =>
  cases hxa with
  | @cons v2 _ _ _ x2 hxa =>
  cases hxa
  obtain ⟨at', zt, rfl, hat, nat', hzt⟩ := x0.tup_inv
  obtain ⟨ae, ze, rfl, hae, nae, hze⟩ := x1.tup_inv
  have lzt := hzt.length
  have lze := hze.length
  rw [List.length_map] at lzt lze
  have l2 := hH.lp
  have l3 := hH.ln
  have hzp := prs_of hzt hH.pp
  refine ⟨by show 0 ≤ sizeLine; decide, fun TA hTA => ⟨by show 0 ≤ sizeLine; decide, fun EA hEA => ⟨_, _, rfl, ?_⟩⟩⟩
  have kT := same_new (o := .lst []) hTA
  have hTE : TA ≠ EA := fun z => by
    rw [← z, upd_same] at hEA
    cases hEA
  have hEA0 := kT.free hEA
  have fE := (f.new hTA (o := .lst [])).new hEA (o := .lst [])
  have kE := kT.trans (same_new (o := .lst []) hEA)
  have hT1 : (upd (upd H TA (.lst [])) EA (.lst [])) TA = some (.lst []) := by rw [upd_ne hTE, upd_same]
  have hE1 : (upd (upd H TA (.lst [])) EA (.lst [])) EA = some (.lst []) := upd_same
  obtain ⟨tw, tl, tp, tS⟩ := f.off hTA
  obtain ⟨ew, el, ep, eS⟩ := f.off hEA0
  dsimp only []
  generalize upd (upd H TA (.lst [])) EA (.lst []) = H1 at fE kE hT1 hE1 ⊢
  have nw : ∀ {b : Addr}, b ≠ wd → b ≠ l → b ≠ p → b ∉ [wd, l, p] := fun {b} h1 h2 h3 m => by
    simp only [List.mem_cons, List.not_mem_nil, or_false] at m
    rcases m with h | h | h
    · exact h1 h
    · exact h2 h
    · exact h3 h
  have nT := nw tw tl tp
  have nE := nw ew el ep
  have nST : ∀ {b : Addr} {o : HO}, H b = some o → b ∉ S → b ∉ EA :: TA :: S := fun {b o} e m z => by
    rcases List.mem_cons.mp z with rfl | z
    · rw [hEA0] at e; cases e
    · rcases List.mem_cons.mp z with rfl | z
      · rw [hTA] at e; cases e
      · exact m z
  have kpS : ∀ {H2 : Hp}, Kp [wd, l, p] H H2 → Kp S H H2 := fun k => f.kS k
  -- one more in a list
  have tapp : ∀ {H' H2 : Hp} {L : Addr} {ys : List V} {r : V} {n' : Int} {C' : Nat}, (L = TA ∨ L = EA) → Kp [wd, l, p] H H2 → Fr (EA :: TA :: S) H2 wd l p pl C' n' → Kp [wd, l, p] H (upd H2 L (.lst (ys ++ [r]))) ∧ Fr (EA :: TA :: S) (upd H2 L (.lst (ys ++ [r]))) wd l p pl C' n' := fun {H' H2 L ys r n' C'} hL k f2 => by
    rcases hL with rfl | rfl
    · exact ⟨k.wr (.inr hTA), f2.put (by simp) tw tl tp⟩
    · exact ⟨k.wr (.inr hEA0), f2.put (by simp) ew el ep⟩
  have k1 : Kp [wd, l, p] H H1 := Kp.of kE
  refine ⟨_, rfl, a, _, 0, _, rfl, rfl, SqT.of (kE _ _ ha), atI_nat (j := 0) rfl, at', rfl, ⟨_, SqT.of (kE _ _ hat)⟩, for_tup (K := K) (a := at') (xs := zt) (fun i σ H' => ∃ (x5 x6 : Option V) (ys : List V) (fs : List Tm) (n' : Int), σ = [some (.ref wd), some (.ref p), some (.ref a), some (.ref TA), some (.ref EA), x5, x6] ∧ Kp [wd, l, p] H H' ∧ Fr (EA :: TA :: S) H' wd l p pl (C + i * cT 2) n' ∧ H' TA = some (.lst ys) ∧ H' EA = some (.lst []) ∧ DvAll (EA :: TA :: S) H' ys (datas fs) ∧ fs.length = i ∧ ∀ u ∈ fs, Gen [] 2 u ∧ FunV u)
    ⟨none, none, [], [], n, rfl, k1, by rw [Nat.zero_mul]; exact fE, hT1, hE1, .nil, rfl, fun _ m => nomatch m⟩ (fun i σ H' _ ⟨_, _, _, _, _, _, k, _⟩ => SqT.of ((kpS k) _ _ nat' hat)) ?_ ?_⟩
  · rintro i x σ H' hi ⟨x5, x6, ys, fs, n', rfl, k, f', hT', hE', hys, hfl, hfs⟩
    obtain ⟨nm, kk, hpr, nn, kk1, kk2⟩ := (hzp x (List.mem_of_getElem? hi)).kp (kpS k)
    obtain ⟨b, xb, rfl, hb, _, hxb⟩ := Dv.tup_inv hpr
    cases hxb with
    | @cons w0 _ _ _ c0 hxb =>
    cases hxb with
    | @cons w1 _ _ _ c1 hxb =>
    cases hxb
    cases c0
    cases c1
    have hil : i < zt.length := (List.getElem?_eq_some_iff.mp hi).1
    refine ⟨b, _, rfl, SqT.of hb, rfl, _, _, rfl, _, _, rfl, rfl, ?_⟩
    refine ⟨_, rfl, p, _, rfl, DPut.k (k := .inr "left") f'.pk (by show 6 < sizeLine; decide), ?_⟩
    dsimp only []
    rw [pk_put]
    have f2 := f'.left (n' := 8)
    have kl : Kp [wd, l, p] H' (upd H' p (.dK (PK pl.sh pl.ex pl.hd pl.md 8 pl.b))) := (Kp.refl _ _).wr (.inl (by simp))
    have hT2 := kl _ _ nT hT'
    have hE2 := kl _ _ nE hE'
    have hys2 := hys.kp (f'.kS kl)
    have k2 := k.trans kl
    generalize upd H' p (.dK (PK pl.sh pl.ex pl.hd pl.md 8 pl.b)) = H2 at f2 kl hT2 hE2 hys2 k2 ⊢
    refine ⟨_, rfl, .inl ⟨rfl, _, SqL.of hT2⟩, _, rfl, _, rfl, by show 0 ≤ sizeLine; decide, fun pa hpa => ⟨by show 0 ≤ sizeLine; decide, fun pb hpb => ⟨by show 2 ≤ sizeLine; decide, fun po hpo => ?_⟩⟩⟩
    have ka := same_new (o := .tup []) hpa
    have kb := same_new (o := .tup []) hpb
    have ko := same_new (o := .tup [.ref pa, .ref pb]) hpo
    have kab := ka.trans (kb.trans ko)
    have ho : Dv (EA :: TA :: S) (upd (upd (upd H2 pa (.tup [])) pb (.tup [])) po (.tup [.ref pa, .ref pb])) (.ref po) (headD [] []) :=
      .tup upd_same (((f2.same ka).same kb).trk.out hpo) (.cons (.tup (ko _ _ (kb _ _ upd_same)) (f2.trk.out hpa) .nil) (.cons (.tup (ko _ _ upd_same) ((f2.same ka).trk.out hpb) .nil) .nil))
    have f3 := f2.same kab
    have k3 := k2.trans (Kp.of kab)
    have hT3 := kab _ _ hT2
    have hE3 := kab _ _ hE2
    have hys3 := hys2.kp (Kp.of kab)
    generalize upd (upd (upd H2 pa (.tup [])) pb (.tup [])) po (.tup [.ref pa, .ref pb]) = H3 at ho f3 k3 hT3 hE3 hys3 ⊢
    have hci : (i + 1) * cT 2 ≤ 2 * cT 2 := Nat.mul_le_mul_right _ (by omega)
    rw [Nat.add_mul] at hci
    refine ⟨_, rfl, 2, by decide, wd, l, p, EA :: TA :: S, pl, C + i * cT 2, 8, .ref po, [], [], kk, rfl, f3, hO, ho, ⟨Nat.zero_le _, (fun _ m => nomatch m), Nat.zero_le _, fun _ m => nomatch m⟩, kk1, kk2, by omega, fun H4 r t4 n4 k4 f4 hr ht => ?_⟩
    have lys := hys3.length
    rw [datas_len, hfl] at lys
    refine ⟨TA, ys, r, rfl, rfl, k4 _ _ nT hT3, by rw [sizeLine_eq]; omega, ?_⟩
    obtain ⟨k5, f5⟩ := tapp (H' := H') (ys := ys) (r := r) (.inl rfl) (k3.trans k4) f4
    have kw : Kp (EA :: TA :: S) H4 (upd H4 TA (.lst (ys ++ [r]))) := (Kp.refl _ _).wr (.inl (by simp))
    refine ⟨_, _, ys ++ [r], fs ++ [t4], n4, rfl, k5, ?_, upd_same, ?_, ?_, by rw [List.length_append, List.length_singleton, hfl], fun u mu => ?_⟩
    · rw [Nat.add_mul, Nat.one_mul, ← Nat.add_assoc]
      exact f5
    · rw [upd_ne hTE.symm]
      exact k4 _ _ nE hE3
    · rw [datas_append]
      exact ((hys3.kp (f3.kS k4)).kp kw).append (.cons (hr.kp kw) .nil)
    · rcases List.mem_append.mp mu with h | h
      · exact hfs u h
      · rw [List.mem_singleton.mp h]
        exact ht
  · rintro σ H2 ⟨x5, x6, ys, fs, n2, rfl, k2, f2, hT2, hE2, hys2, hfl, hfs⟩
    dsimp only []
    refine ⟨_, rfl, a, _, 1, _, rfl, rfl, SqT.of ((kpS k2) _ _ na ha), atI_nat (j := 1) rfl, ae, rfl, ⟨_, SqT.of ((kpS k2) _ _ nae hae)⟩, for_tup (K := K) (a := ae) (xs := ze) (fun i σ H' => ∃ (x5 x6 : Option V) (us : List V) (ts : List Tm) (n' : Int), σ = [some (.ref wd), some (.ref p), some (.ref a), some (.ref TA), some (.ref EA), x5, x6] ∧ Kp [wd, l, p] H H' ∧ Fr (EA :: TA :: S) H' wd l p pl (C + zt.length * cT 2 + i * cT 2) n' ∧ H' TA = some (.lst ys) ∧ H' EA = some (.lst us) ∧ DvAll (EA :: TA :: S) H' ys (datas fs) ∧ DvAll (EA :: TA :: S) H' us (datas ts) ∧ ts.length = i ∧ ∀ u ∈ ts, Gen [] 2 u)
      ⟨x5, x6, [], [], n2, rfl, k2, by rw [Nat.zero_mul]; exact f2, hT2, hE2, hys2, .nil, rfl, fun _ m => nomatch m⟩ (fun i σ H' _ ⟨_, _, _, _, _, _, k, _⟩ => SqT.of ((kpS k) _ _ nae hae)) ?_ ?_⟩
    · rintro i x σ H' hi ⟨x5, x6, us, ts, n', rfl, k, f', hT', hE', hys, hus, htl, hts⟩
      have hil : i < ze.length := (List.getElem?_eq_some_iff.mp hi).1
      refine ⟨_, rfl, p, _, rfl, DPut.k (k := .inr "left") f'.pk (by show 6 < sizeLine; decide), ?_⟩
      dsimp only []
      rw [pk_put]
      have f2 := f'.left (n' := 8)
      have kl : Kp [wd, l, p] H' (upd H' p (.dK (PK pl.sh pl.ex pl.hd pl.md 8 pl.b))) := (Kp.refl _ _).wr (.inl (by simp))
      have hT2 := kl _ _ nT hT'
      have hE2 := kl _ _ nE hE'
      have hys2 := hys.kp (f'.kS kl)
      have hus2 := hus.kp (f'.kS kl)
      have k2 := k.trans kl
      generalize upd H' p (.dK (PK pl.sh pl.ex pl.hd pl.md 8 pl.b)) = H2 at f2 kl hT2 hE2 hys2 hus2 k2 ⊢
      refine ⟨_, rfl, .inl ⟨rfl, _, SqL.of hE2⟩, _, rfl, _, rfl, by show 0 ≤ sizeLine; decide, fun pa hpa => ⟨by show 0 ≤ sizeLine; decide, fun pb hpb => ⟨by show 2 ≤ sizeLine; decide, fun po hpo => ?_⟩⟩⟩
      have ka := same_new (o := .tup []) hpa
      have kb := same_new (o := .tup []) hpb
      have ko := same_new (o := .tup [.ref pa, .ref pb]) hpo
      have kab := ka.trans (kb.trans ko)
      have ho : Dv (EA :: TA :: S) (upd (upd (upd H2 pa (.tup [])) pb (.tup [])) po (.tup [.ref pa, .ref pb])) (.ref po) (headD [] []) :=
        .tup upd_same (((f2.same ka).same kb).trk.out hpo) (.cons (.tup (ko _ _ (kb _ _ upd_same)) (f2.trk.out hpa) .nil) (.cons (.tup (ko _ _ upd_same) ((f2.same ka).trk.out hpb) .nil) .nil))
      have f3 := f2.same kab
      have k3 := k2.trans (Kp.of kab)
      have hT3 := kab _ _ hT2
      have hE3 := kab _ _ hE2
      have hys3 := hys2.kp (Kp.of kab)
      have hus3 := hus2.kp (Kp.of kab)
      generalize upd (upd (upd H2 pa (.tup [])) pb (.tup [])) po (.tup [.ref pa, .ref pb]) = H3 at ho f3 k3 hT3 hE3 hys3 hus3 ⊢
      have hci : (i + 1) * cT 2 ≤ 3 * cT 2 := Nat.mul_le_mul_right _ (by omega)
      have hzi : zt.length * cT 2 ≤ 2 * cT 2 := Nat.mul_le_mul_right _ (by omega)
      rw [Nat.add_mul] at hci
      refine ⟨2, by decide, wd, l, p, EA :: TA :: S, pl, C + zt.length * cT 2 + i * cT 2, 8, .ref po, [], [], rfl, f3, hO, ho, ⟨Nat.zero_le _, (fun _ m => nomatch m), Nat.zero_le _, fun _ m => nomatch m⟩, by omega, fun H4 r t4 n4 k4 f4 hr ht => ?_⟩
      have lus := hus3.length
      rw [datas_len, htl] at lus
      refine ⟨EA, us, r, rfl, rfl, k4 _ _ nE hE3, by rw [sizeLine_eq]; omega, ?_⟩
      obtain ⟨k5, f5⟩ := tapp (H' := H') (ys := us) (r := r) (.inr rfl) (k3.trans k4) f4
      have kw : Kp (EA :: TA :: S) H4 (upd H4 EA (.lst (us ++ [r]))) := (Kp.refl _ _).wr (.inl (by simp))
      refine ⟨_, x6, us ++ [r], ts ++ [t4], n4, rfl, k5, ?_, ?_, upd_same, (hys3.kp (f3.kS k4)).kp kw, ?_, by rw [List.length_append, List.length_singleton, htl], fun u mu => ?_⟩
      · rw [Nat.add_mul, Nat.one_mul, ← Nat.add_assoc]
        exact f5
      · rw [upd_ne hTE]
        exact k4 _ _ nT hT3
      · rw [datas_append]
        exact ((hus3.kp (f3.kS k4)).kp kw).append (.cons (hr.kp kw) .nil)
      · rcases List.mem_append.mp mu with h | h
        · exact hts u h
        · rw [List.mem_singleton.mp h]
          exact ht
    · rintro σ H3 ⟨x5, x6, us, ts, n3, rfl, k3, f3, hT3, hE3, hys3, hus3, htl, hts⟩
      dsimp only []
      have hzi : zt.length * cT 2 ≤ 2 * cT 2 := Nat.mul_le_mul_right _ (by omega)
      have hei : ze.length * cT 2 ≤ 3 * cT 2 := Nat.mul_le_mul_right _ (by omega)
      refine ⟨_, rfl, TA, ys, rfl, .inl ⟨SqL.of hT3, fun p4 hp4 => ?_⟩⟩
      have k4 := same_new (o := .tup ys) hp4
      refine ⟨_, rfl, EA, us, rfl, .inl ⟨SqL.of (k4 _ _ hE3), fun p5 hp5 => ⟨by show 2 ≤ sizeLine; decide, fun p6 hp6 => ?_⟩⟩⟩
      have k5 := same_new (o := .tup us) hp5
      have k6 := same_new (o := .tup [.ref p4, .ref p5]) hp6
      have k46 := k4.trans (k5.trans k6)
      have mS : ∀ b ∈ S, b ∈ EA :: TA :: S := fun b m => by simp [m]
      have f6 := (((f3.same k4).same k5).same k6).sub mS f.mw f.ml f.mp
      refine q _ p6 fs ts n3 (k3.trans (Kp.of k46)) (f6.mono (by omega)) ?_ (by omega) (by omega) hfs hts
      refine Dv.sub mS (.tup upd_same (((f3.same k4).same k5).trk.out hp6) (.cons (.tup (k6 _ _ (k5 _ _ upd_same)) (f3.trk.out hp4) (hys3.kp (Kp.of k46))) (.cons (.tup (k6 _ _ upd_same) ((f3.same k4).trk.out hp5) (hus3.kp (Kp.of k46))) .nil)))
end
end K19
set_option Elab.async false
set_option linter.all false
set_option maxRecDepth 100000
set_option maxHeartbeats 4000000
/-! k19: shops. -/
namespace K19
open PySem PySem.Spec PyProof.Rows L2 Zg Zr Zd Zv
/-- a move's row -/
def Row (H : Hp) (sz : Nat) (v : V) : Prop := ∃ a xs, v = .ref a ∧ H a = some (.tup xs) ∧ xs.length = sz ∧ ∀ x ∈ xs, x = .non ∨ ∃ i : Nat, x = .int (i : Int) ∧ i < sz
theorem Row.kp {H H' : Hp} {sz : Nat} {v : V} {S : List Addr} (h : Row H sz v) (k : Same H H') : Row H' sz v := by
  obtain ⟨a, xs, e, h1, h2⟩ := h
  exact ⟨a, xs, e, k _ _ h1, h2⟩
/-- what is read of a shop -/
structure Shp (H : Hp) (sh mo : Addr) (skv mkv : List (Key × V)) (sz : Nat) : Prop where
  sh : H sh = some (.dK skv)
  size : valV skv (.inr "size") = some (.int (sz : Int))
  moves : valV skv (.inr "moves") = some (.ref mo)
  mo : H mo = some (.dK mkv)
  rows : ∀ kv ∈ mkv, Row H sz kv.2
  lm : mkv.length ≤ 4
  sz1 : 1 ≤ sz
  sz3 : sz ≤ 3
theorem Shp.same {H H' : Hp} {sh mo : Addr} {skv mkv : List (Key × V)} {sz : Nat} (h : Shp H sh mo skv mkv sz) (k : Same H H') : Shp H' sh mo skv mkv sz :=
  ⟨k _ _ h.sh, h.size, h.moves, k _ _ h.mo, fun kv m => (h.rows kv m).kp (S := []) k, h.lm, h.sz1, h.sz3⟩
theorem flat_ints (ls : List Int) : (ls.map V.int).all flatV = true := by
  rw [List.all_map]
  exact List.all_eq_true.mpr fun _ _ => rfl
theorem cut_one (ys : List Int) : cutV (ys.map V.int) none (some 1) = (ys.take 1).map V.int := by
  unfold cutV
  rw [HT.sIx_none, show HT.sIx (ys.map V.int).length (ys.map V.int).length (some 1) = min 1 (ys.map V.int).length from HT.sIx_nat _ _ 1, List.length_map]
  cases ys with
  | nil => rfl
  | cons y ys =>
    rw [show min 1 (y :: ys).length = 1 by rw [List.length_cons]; omega]
    rfl
section
variable {P : Program} {w : World} {K : PySem.W.Frag} {mg : PySem.Str → Option Value} {base : Heap}
def sp_from : Sp := fun vs H Q _ => ∃ (sh mo : Addr) (skv mkv : List (Key × V)) (sz b : Nat), vs = [.ref sh, .int (b : Int)] ∧ Shp H sh mo skv mkv sz ∧ b < sz ∧
  ∀ (H' : Hp) (p : Addr) (ls : List Int), Same H H' → H p = none → H' p = some (.lst (ls.map V.int)) → (∀ i ∈ ls, 0 ≤ i ∧ i < (sz : Int)) → ls.length ≤ 13 → Q (.ref p) H'
theorem ok_from (T : Txt K mg) : FnOk P w K mg base CX0 1 T.a_from T.d_from P_from sp_from := by
  refine T.F_from.ok sc_from (fun vs H Q E h => by obtain ⟨sh, mo, skv, mkv, sz, b, rfl, _⟩ := h; rfl) (fun cdv A outer s H vs Q E hr h => ?_)
  refine ⟨_, (pss_cons (ps_set (i := 2) sc_from.nd rfl (Or.inr rfl) (pe_lst (pa_cons (pv 1) pa_nil)))
    (pss_cons (ps_for PassesOwn.never rfl (pi_range1 (by rfl) T.n_range (pa_cons (pe_dget (hu_of hr) (pv 0) pe_str (fun _ _ => rfl)) pa_nil)) (pg_name (i := 3) sc_from.nd rfl (Or.inl rfl)) (pss_one (ps_for PassesOwn.never rfl (pi_list (Yv.pe_listVals (by rfl) (pe_dget (hu_of hr) (pv 0) pe_str (fun _ _ => rfl)) (by rfl) T.n_list (by decide +kernel))) (pg_name (i := 4) sc_from.nd rfl (Or.inr rfl)) (pss_one (ps_set (i := 2) sc_from.nd rfl (Or.inr rfl) (pe_op op_cat (pv 2) (pe_slice sl_list (pe_lc (own := [("q", 5)]) rfl sc_from.nd (pi_list (pv 2)) (blkOk_by (own := [("q", 5)]) (N := N_from) (sc := defScope s_from) (by decide +kernel)) (fun _ _ _ _ _ => (pg_name (i := 5) sc_from.nd rfl (Or.inl rfl))) (fun _ _ _ _ _ => (pts_one (PW.pt (pw_and (pt_cmpR op_notN (pe_ix (show IxR _ (rIxT K) from ix_tup) (pv 4) (pv 5) (fun _ _ => rfl)) pe_non (nomark _)) (pw_and1 (pt_cmpR (show OpR _ (compareOp .NotIn) (rIn K true) from op_notIn_seq) (pe_ix (show IxR _ (rIxT K) from ix_tup) (pv 4) (pv 5) (fun _ _ => rfl)) (pv 2) (by rfl))))))) (fun _ _ _ _ _ => (pe_ix (show IxR _ (rIxT K) from ix_tup) (pv 4) (pv 5) (fun _ _ => rfl)))) po_none (po_some pe_int))))))))
    (pss_one (ps_ret (pe_callB cr_sortedI (by rfl) T.n_sorted (by decide +kernel) (pa_cons (pv 2) pa_nil)))))), ?_⟩
  obtain ⟨sh, mo, skv, mkv, sz, b, rfl, hS, hb, q⟩ := h
  refine ⟨_, rfl, by show 1 ≤ sizeLine; decide, fun F hF => ?_⟩
  have k1 := same_new (o := .lst [.int (b : Int)]) hF
  have hF1 : (upd H F (.lst [.int (b : Int)])) F = some (.lst ([(b : Int)].map V.int)) := upd_same
  dsimp only [gName]
  generalize upd H F (.lst [.int (b : Int)]) = H1 at k1 hF1 ⊢
  have hS1 := hS.same k1
  have h1 := hS.sz1
  have h3 := hS.sz3
  have h4 := hS.lm
  refine ⟨_, rfl, sh, _, rfl, hS1.size ▸ DGet.k (k := .inr "size") hS1.sh, _, rfl, by omega, by omega, ?_⟩
  have e0 : ((sz : Int)).toNat = sz := rfl
  rw [e0]
  refine for_it (J := Itr 0 sz) (walk_range (lo := 0) (n := sz)) (fun i σ H' => ∃ (x3 x4 : Option V) (F' : Addr) (ls : List Int), σ = [some (.ref sh), some (.int (b : Int)), some (.ref F'), x3, x4, none] ∧ Same H H' ∧ H' F' = some (.lst (ls.map V.int)) ∧ (∀ i ∈ ls, 0 ≤ i ∧ i < (sz : Int)) ∧ ls.length ≤ 1 + i * 4)
    ⟨none, none, F, [(b : Int)], rfl, k1, hF1, fun i m => by rw [List.mem_singleton.mp m]; omega, by show 1 ≤ 1 + 0 * 4; omega⟩ (fun _ _ _ _ _ => trivial) ?_ ?_
  · rintro i x σ H' H'' hi ⟨x3, x4, F', ls, rfl, k, hF', hls, hll⟩ ⟨rfl, rfl⟩
    have hS' := hS.same k
    refine ⟨_, rfl, sh, _, rfl, hS'.moves ▸ DGet.k (k := .inr "moves") hS'.sh, mo, mkv, rfl, hS'.mo, fun pm hpm => ?_⟩
    have km := same_new (o := .lst (mkv.map Prod.snd)) hpm
    have hm1 : (upd H'' pm (.lst (mkv.map Prod.snd))) pm = some (.lst (mkv.map Prod.snd)) := upd_same
    have hF2 := km _ _ hF'
    have k2 := k.trans km
    refine ⟨pm, rfl, ⟨_, SqL.of upd_same⟩, ?_⟩
    generalize upd H'' pm (.lst (mkv.map Prod.snd)) = H2 at km hm1 hF2 k2 ⊢
    refine for_list (K := K) (a := pm) (xs := mkv.map Prod.snd) (fun j σ H' => ∃ (x4 : Option V) (F' : Addr) (ls : List Int), σ = [some (.ref sh), some (.int (b : Int)), some (.ref F'), some (.int (0 + (i : Int))), x4, none] ∧ Same H2 H' ∧ H' F' = some (.lst (ls.map V.int)) ∧ (∀ i ∈ ls, 0 ≤ i ∧ i < (sz : Int)) ∧ ls.length ≤ 1 + i * 4 + j)
      ⟨x4, F', ls, rfl, Same.refl _, hF2, hls, hll⟩ (fun j σ H' _ ⟨_, _, _, _, k', _⟩ => SqL.of (k' _ _ hm1)) ?_ ?_
    · rintro j x σ H3 hj ⟨x4, F3, ls3, rfl, k3, hF3, hls3, hll3⟩
      rw [List.getElem?_map] at hj
      cases hkv : mkv[j]? with
      | none => rw [hkv] at hj; cases hj
      | some kv =>
      rw [hkv] at hj
      cases hj
      obtain ⟨a, xs, er, ha, hxl, hxs⟩ := ((hS.same k2).same k3).rows kv (List.mem_of_getElem? hkv)
      rw [er]
      refine ⟨_, rfl, _, rfl, F3, rfl, ⟨_, SqL.of hF3⟩, fun D hD => ?_⟩
      refine lc_list (K := K) (a := F3) (xs := ls3.map V.int) (fun i H' => ∃ ys : List Int, Same H3 H' ∧ H' D = some (.lst (ys.map V.int)) ∧ (∀ i ∈ ys, 0 ≤ i ∧ i < (sz : Int)) ∧ ys.length ≤ i) ⟨[], same_new hD, upd_same, (fun _ z => nomatch z), Nat.le_refl _⟩ (fun i H' _ ⟨_, k, _⟩ => SqL.of (k _ _ hF3)) ?_ ?_
      · rintro i2 x H4 hi2 ⟨ys, k4, hD4, hys, hyl⟩
        rw [List.getElem?_map] at hi2
        cases hq : ls3[i2]? with
        | none => rw [hq] at hi2; cases hi2
        | some z =>
        rw [hq] at hi2
        cases hi2
        obtain ⟨z0, z1⟩ := hls3 z (List.mem_of_getElem? hq)
        obtain ⟨zn, rfl⟩ : ∃ zn : Nat, z = (zn : Int) := ⟨z.toNat, by omega⟩
        have hzx : zn < xs.length := by omega
        have hat : xs[zn]? = some xs[zn] := List.getElem?_eq_getElem hzx
        have hxv := hxs xs[zn] (List.getElem_mem hzx)
        generalize xs[zn] = v at hat hxv
        have ha4 := k4 _ _ ha
        have hil : i2 < ls3.length := (List.getElem?_eq_some_iff.mp hq).1
        have keep : ∃ ys : List Int, Same H3 H4 ∧ H4 D = some (.lst (ys.map V.int)) ∧ (∀ i ∈ ys, 0 ≤ i ∧ i < (sz : Int)) ∧ ys.length ≤ i2 + 1 := ⟨ys, k4, hD4, hys, Nat.le_succ_of_le hyl⟩
        refine ⟨rfl, _, rfl, _, rfl, a, xs, _, v, rfl, rfl, SqT.of ha4, atI_nat hat, rfl, _, rfl, ?_⟩
        rcases hxv with rfl | ⟨wn, rfl, hw⟩
        · exact ite2 (fun e => absurd e (by simp)) (fun _ => iteF keep)
        refine ite2 (fun _ => ?_) (fun e => absurd (by simp) e)
        refine ⟨_, rfl, _, rfl, a, xs, _, _, rfl, rfl, SqT.of ha4, atI_nat hat, _, rfl, F3, _, rfl, .inl (SqL.of (k4 _ _ hF3)), rfl, flat_ints _, _, rfl, ite2 (fun _ => ?_) (fun _ => keep)⟩
        refine ⟨_, rfl, _, rfl, a, xs, _, _, rfl, rfl, SqT.of ha4, atI_nat hat, _, hD4, by rw [List.length_map, sizeLine_eq]; have hjl : j < mkv.length := (List.getElem?_eq_some_iff.mp hkv).1; omega, ys ++ [(wn : Int)], same_put k4 hD, by rw [upd_same, List.map_append]; rfl, fun u mu => ?_, by rw [List.length_append, List.length_singleton]; omega⟩
        rcases List.mem_append.mp mu with h | h
        · exact hys u h
        · rw [List.mem_singleton.mp h]
          omega
      · rintro H4 ⟨ys, k4, hD4, hys, hyl⟩
        have hjl : j < mkv.length := (List.getElem?_eq_some_iff.mp hkv).1
        dsimp only [tNoPart]
        refine ⟨_, rfl, D, _, rfl, SqL.of hD4, fun p5 hp5 => ?_⟩
        rw [cut_one]
        have k5 := same_new (o := .lst ((ys.take 1).map V.int)) hp5
        have l1 : (ys.take 1).length ≤ 1 := by rw [List.length_take]; omega
        refine ⟨F3, p5, _, _, rfl, rfl, k5 _ _ (k4 _ _ hF3), upd_same, by rw [List.length_map, List.length_map, sizeLine_eq]; omega, fun p6 hp6 => ?_⟩
        have k6 := same_new (o := .lst (ls3.map V.int ++ (ys.take 1).map V.int)) hp6
        refine ⟨_, p6, ls3 ++ ys.take 1, rfl, k3.trans (k4.trans (k5.trans k6)), by rw [upd_same, List.map_append], fun u mu => ?_, by rw [List.length_append]; omega⟩
        rcases List.mem_append.mp mu with h | h
        · exact hls3 u h
        · exact hys u (List.mem_of_mem_take h)
    · rintro σ H3 ⟨x4, F3, ls3, rfl, k3, hF3, hls3, hll3⟩
      exact ⟨_, x4, F3, ls3, rfl, k2.trans k3, hF3, hls3, by rw [List.length_map] at hll3; omega⟩
  · rintro σ H' ⟨x3, x4, F', ls, rfl, k, hF', hls, hll⟩
    refine ⟨_, rfl, F', ls, rfl, SqL.of hF', fun ns p hp _ hn => ?_⟩
    have kp := same_new (o := .lst (ns.map V.int)) hn
    exact q _ p ns (k.trans kp) (k.free hn) upd_same (fun i m => hls i (hp.mem_iff.mp m)) (by rw [hp.length_eq]; omega)
end
end K19
set_option Elab.async false
set_option linter.all false
set_option maxRecDepth 100000
set_option maxHeartbeats 4000000
/-! k19: leads, parameters. -/
namespace K19
open PySem PySem.Spec PyProof.Rows L2 Zg Zr Zd Zv
theorem mem_put {kvs : List (Key × V)} {k : Key} {v : V} {kv : Key × V} (h : kv ∈ putK kvs k v) : kv ∈ kvs ∨ kv = (k, v) := by
  unfold putK at h
  split at h
  · obtain ⟨a, ma, e⟩ := List.mem_map.mp h
    split at e
    · rename_i q
      exact .inr (by rw [← e]; first | rfl | (rw [← q]) | (simp [q]))
    · exact .inl (e ▸ ma)
  · rcases List.mem_append.mp h with h | h
    · exact .inl h
    · exact .inr (List.mem_singleton.mp h)
def LeadsOk (H : Hp) (kvs : List (Key × V)) : Prop := kvs.length ≤ 13 ∧ ∀ kv ∈ kvs, ∃ (a : Addr) (ls : List Int), kv.2 = .ref a ∧ H a = some (.lst (ls.map V.int)) ∧ ls.length ≤ 13
section
variable {P : Program} {w : World} {K : PySem.W.Frag} {mg : PySem.Str → Option Value} {base : Heap}
def sp_leads : Sp := fun vs H Q _ => ∃ (sh mo : Addr) (skv mkv : List (Key × V)) (sz : Nat), vs = [.ref sh] ∧ Shp H sh mo skv mkv sz ∧
  ∀ (H' : Hp) (g : Addr) (kvs : List (Key × V)), Same H H' → H g = none → H' g = some (.dK kvs) → LeadsOk H' kvs → Q (.ref g) H'
theorem ok_leads (T : Txt K mg) : FnOk P w K mg base CX0 2 T.a_leads T.d_leads P_leads sp_leads := by
  refine T.F_leads.ok sc_leads (fun vs H Q E h => by obtain ⟨sh, mo, skv, mkv, sz, rfl, _⟩ := h; rfl) (fun cdv A outer s H vs Q E hr h => ?_)
  refine ⟨_, (pss_cons (ps_set (i := 1) sc_leads.nd rfl (Or.inl rfl) pe_dnewK)
    (pss_cons (ps_for PassesOwn.never rfl (pi_list (pe_call (ok_from T) (hr.mono (by decide)) (by rfl) T.g_from T.F_from.kp T.b_from .nil pass0 (pa_cons (pv 0) (pa_cons pe_int pa_nil)))) (pg_name (i := 2) sc_leads.nd rfl (Or.inl rfl)) (pss_one (ps_dput (hu_of hr) (pv 1) (pv 2) (pe_call (ok_from T) (hr.mono (by decide)) (by rfl) T.g_from T.F_from.kp T.b_from .nil pass0 (pa_cons (pv 0) (pa_cons (pv 2) pa_nil))) rfl)))
    (pss_one (ps_ret (pv 1))))), ?_⟩
  obtain ⟨sh, mo, skv, mkv, sz, rfl, hS, q⟩ := h
  refine fun g hg => ?_
  have k1 := same_new (o := .dK []) hg
  have hg1 : (upd H g (.dK [])) g = some (.dK []) := upd_same
  dsimp only [gName]
  generalize upd H g (.dK []) = H1 at k1 hg1 ⊢
  refine ⟨_, rfl, sh, mo, skv, mkv, sz, 0, rfl, hS.same k1, hS.sz1, fun H2 p ls k2 hp hp2 hls hll => ?_⟩
  refine ⟨p, rfl, ⟨_, SqL.of hp2⟩, ?_⟩
  refine for_list (K := K) (a := p) (xs := ls.map V.int) (fun i σ H' => ∃ (x2 : Option V) (kvs : List (Key × V)), σ = [some (.ref sh), some (.ref g), x2] ∧ Same H H' ∧ H' p = some (.lst (ls.map V.int)) ∧ H' g = some (.dK kvs) ∧ kvs.length ≤ i ∧ ∀ kv ∈ kvs, ∃ (a : Addr) (ls : List Int), kv.2 = .ref a ∧ H' a = some (.lst (ls.map V.int)) ∧ ls.length ≤ 13)
    ⟨none, [], rfl, k1.trans k2, hp2, k2 _ _ hg1, Nat.le_refl _, fun _ m => nomatch m⟩ (fun i σ H' _ ⟨_, _, _, _, h, _⟩ => SqL.of h) ?_ ?_
  · rintro i x σ H' hi ⟨x2, kvs, rfl, k, hp', hg', hkl, hkv⟩
    rw [List.getElem?_map] at hi
    cases hq : ls[i]? with
    | none => rw [hq] at hi; cases hi
    | some z =>
    rw [hq] at hi
    cases hi
    obtain ⟨z0, z1⟩ := hls z (List.mem_of_getElem? hq)
    obtain ⟨zn, rfl⟩ : ∃ zn : Nat, z = (zn : Int) := ⟨z.toNat, by omega⟩
    have hil : i < ls.length := (List.getElem?_eq_some_iff.mp hq).1
    refine ⟨_, rfl, _, rfl, sh, mo, skv, mkv, sz, zn, rfl, hS.same k, by omega, fun H3 p3 ls3 k3 hp3 h3 hls3 hll3 => ?_⟩
    have hg3 := k3 _ _ hg'
    refine ⟨_, rfl, _, rfl, g, _, rfl, DPut.k (k := .inl (zn : Int)) hg3 (by rw [sizeLine_eq]; omega), ?_⟩
    have off : ∀ {b : Addr} {ys : List V} {o : HO}, H3 b = some (.lst ys) → (upd H3 g o) b = some (.lst ys) := fun {b ys o} e => by
      rw [upd_ne (fun z => by rw [z, hg3] at e; cases e)]
      exact e
    refine ⟨_, _, rfl, same_put (k.trans k3) hg, off (k3 _ _ hp'), upd_same, Nat.le_trans (putK_len' _ _ _) (Nat.succ_le_succ hkl), fun kv m => ?_⟩
    rcases mem_put m with m | rfl
    · obtain ⟨a, ls', e1, e2, e3⟩ := hkv kv m
      exact ⟨a, ls', e1, off (k3 _ _ e2), e3⟩
    · exact ⟨p3, ls3, rfl, off h3, hll3⟩
  · rintro σ H' ⟨x2, kvs, rfl, k, hp', hg', hkl, hkv⟩
    rw [List.length_map] at hkl
    exact ⟨_, rfl, q H' g kvs k hg hg' ⟨by omega, hkv⟩⟩
def sp_parameters : Sp := fun vs H Q _ => ∃ (wd l : Addr) (S : List Addr) (C : Nat) (room pairs : Int), vs = [.ref wd, .int room, .int pairs] ∧ Well H wd l C ∧ C + 5 < LIM ∧ wd ∈ S ∧ l ∈ S ∧ Trk S H ∧
  ∀ (H' : Hp) (v : V) (pn : List (PySem.Str × Int)), Kp [wd, l] H H' → Well H' wd l (C + 5) → Trk S H' → Dv S H' v (.tuple (pn.map prD)) → pn.length ≤ 2 → (∀ p ∈ pn, Nm p.1 ∧ 1 ≤ p.2 ∧ p.2 ≤ 2) → Q v H'
theorem ok_parameters (T : Txt K mg) : FnOk P w K mg base CX0 2 T.a_parameters T.d_parameters P_parameters sp_parameters := by
  refine T.F_parameters.ok sc_parameters (fun vs H Q E h => by obtain ⟨wd, l, S, C, room, pairs, rfl, _⟩ := h; rfl) (fun cdv A outer s H vs Q E hr h => ?_)
  refine ⟨_, (pss_cons (ps_set (i := 3) sc_parameters.nd rfl (Or.inl rfl) (pe_lst pa_nil))
    (pss_cons (ps_for PassesOwn.never rfl (pi_range1 (by rfl) T.n_range (pa_cons (pe_call (ok_draw T) (hr.mono (by decide)) (by rfl) T.g_draw T.F_draw.kp T.b_draw .nil pass0 (pa_cons (pv 0) (pa_cons pe_int pa_nil))) pa_nil)) (pg_name (i := 4) sc_parameters.nd rfl (Or.inl rfl)) (pss_cons (ps_set (i := 5) sc_parameters.nd rfl (Or.inl rfl) (pe_op op_add pe_int (pe_call (ok_draw T) (hr.mono (by decide)) (by rfl) T.g_draw T.F_draw.kp T.b_draw .nil pass0 (pa_cons (pv 0) (pa_cons pe_int pa_nil)))))
    (pss_one (ps_if (pt_cmpR op_le (pe_op op_mul (pv 5) (pv 2)) (pv 1) (nomark _)) (pss_cons (ps_expr (pe_bm PySem.F.plainAttrs_list PySem.F.slot_list_append PySem.F.type_list_append mt_append (pv 3) (pa_cons (pe_tup (pa_cons (pe_ix ix_tup (pe_tup (pa_cons pe_str (pa_cons pe_str pa_nil))) (pe_callB call_len_seq (by rfl) T.n_len (by decide +kernel) (pa_cons (pv 3) pa_nil)) (fun _ _ => rfl)) (pa_cons (pv 5) pa_nil))) pa_nil)))
    (pss_one (ps_set (i := 1) sc_parameters.nd rfl (Or.inl rfl) (pe_op op_sub (pv 1) (pe_op op_mul (pv 5) (pv 2)))))) pss_nil))))
    (pss_one (ps_ret (pe_callTy call_tuple_of (by rfl) T.n_tuple (by decide +kernel) (pa_cons (pv 3) pa_nil)))))), ?_⟩
  obtain ⟨wd, l, S, C, room, pairs, rfl, hW, hC, mw, ml, tr, q⟩ := h
  refine ⟨by show 0 ≤ sizeLine; decide, fun F hF => ?_⟩
  have k1 := same_new (o := .lst []) hF
  have nF := well_trk hW hF
  have nS := tr.out hF
  have hF1 : (upd H F (.lst [])) F = some (.lst []) := upd_same
  have W1 := hW.same k1
  have t1 : Trk (F :: S) (upd H F (.lst [])) := fun b m => by
    rcases List.mem_cons.mp m with rfl | m
    · rw [upd_same]
      exact fun z => nomatch z
    · exact tr.same k1 b m
  dsimp only [gName]
  generalize upd H F (.lst []) = H1 at k1 hF1 W1 t1 ⊢
  refine ⟨_, rfl, wd, l, 3, C, rfl, W1, by omega, by decide, by decide, fun H2 r k2 W2 r0 r3 => ?_⟩
  refine ⟨_, rfl, by omega, by omega, ?_⟩
  obtain ⟨rn, rfl⟩ : ∃ rn : Nat, r = (rn : Int) := ⟨r.toNat, by omega⟩
  have e0 : ((rn : Int)).toNat = rn := rfl
  rw [e0]
  have wtrk : ∀ {H H' : Hp} {C : Nat}, Trk (F :: S) H → Kp [wd, l] H H' → Well H' wd l C → Trk (F :: S) H' := fun {H H' C} t k W => trk_kp t k fun a m => by
    obtain ⟨_, _, _, _, h1, h2, _⟩ := W
    simp only [List.mem_cons, List.not_mem_nil, or_false] at m
    rcases m with rfl | rfl
    · rw [h1]
      exact fun z => nomatch z
    · rw [h2]
      exact fun z => nomatch z
  have kS : ∀ {H H' : Hp}, Kp [wd, l] H H' → Kp (F :: S) H H' := fun {H H'} k => k.sub fun a m => by
    simp only [List.mem_cons, List.not_mem_nil, or_false] at m ⊢
    rcases m with rfl | rfl
    · exact .inr mw
    · exact .inr ml
  refine for_it (J := Itr 0 rn) (walk_range (lo := 0) (n := rn)) (fun i σ H' => ∃ (x4 x5 : Option V) (rm : Int) (ys : List V) (pn : List (PySem.Str × Int)), σ = [some (.ref wd), some (.int rm), some (.int pairs), some (.ref F), x4, x5] ∧ Kp [wd, l] H H' ∧ Well H' wd l (C + 1 + i) ∧ Trk (F :: S) H' ∧ H' F = some (.lst ys) ∧ DvAll (F :: S) H' ys (pn.map prD) ∧ pn.length ≤ i ∧ ∀ p ∈ pn, Nm p.1 ∧ 1 ≤ p.2 ∧ p.2 ≤ 2)
    ⟨none, none, room, [], [], rfl, (Kp.of k1).trans k2, W2, wtrk t1 k2 W2, k2 _ _ nF hF1, .nil, Nat.le_refl _, fun _ m => nomatch m⟩ (fun _ _ _ _ _ => trivial) ?_ ?_
  · rintro i x σ H' H'' hi ⟨x4, x5, rm, ys, pn, rfl, k, W, t, hF', hys, hpl, hpn⟩ ⟨rfl, rfl⟩
    refine ⟨_, rfl, wd, l, 2, C + 1 + i, rfl, W, by omega, by decide, by decide, fun H3 r3 k3 W3 r30 r31 => ?_⟩
    have k3' := k.trans k3
    have t3 := wtrk t k3 W3
    have hF3 := k3 _ _ nF hF'
    have hys3 := hys.kp (kS k3)
    have lys := hys3.length
    rw [List.length_map] at lys
    have hmulb : CMul (1 + r3) pairs := .inl ⟨by omega, by omega⟩
    obtain ⟨zn, hzn⟩ : ∃ zn : Nat, r3 = (zn : Int) := ⟨r3.toNat, by omega⟩
    refine ⟨_, _, rfl, rfl, ?_⟩
    dsimp only [gName]
    refine ⟨_, rfl, _, rfl, _, _, rfl, rfl, hmulb, _, rfl, _, _, rfl, rfl, _, rfl, ite2 (fun _ => ?_) (fun _ => ?_)⟩
    · refine ⟨_, rfl, .inl ⟨rfl, _, SqL.of hF3⟩, by show 2 ≤ sizeLine; decide, fun pt hpt => ?_⟩
      have kt := same_new (o := .tup [V.str "g", V.str "call"]) hpt
      have hl1 : ys.length ≤ 1 := by omega
      have hat : ∃ nm : PySem.Str, ([V.str "g", V.str "call"] : List V)[ys.length]? = some (V.str nm) ∧ Nm nm := by
        rcases Nat.le_one_iff_eq_zero_or_eq_one.mp hl1 with e | e
        · rw [e]
          exact ⟨"g", rfl, by decide +kernel, by decide +kernel⟩
        · rw [e]
          exact ⟨"call", rfl, by decide +kernel, by decide +kernel⟩
      obtain ⟨nm, hat, nn⟩ := hat
      refine ⟨_, rfl, F, ys, rfl, .inl (SqL.of (kt _ _ hF3)), pt, _, _, _, rfl, rfl, SqT.of upd_same, atI_nat hat, _, rfl, by show 2 ≤ sizeLine; decide, fun pq hpq => ?_⟩
      have kq := same_new (o := .tup [.str nm, .int (1 + r3)]) hpq
      have ktq := kt.trans kq
      refine ⟨F, ys, .ref pq, rfl, rfl, ktq _ _ hF3, by rw [sizeLine_eq]; omega, ?_⟩
      have hq : Dv (F :: S) (upd (upd H3 pt (.tup [V.str "g", V.str "call"])) pq (.tup [.str nm, .int (1 + r3)])) (.ref pq) (prD (nm, 1 + r3)) := .tup upd_same ((t3.same kt).out hpq) (.cons (.str _) (.cons (.int _) .nil))
      have k4 := k3'.trans (Kp.of ktq)
      have W4 := W3.same ktq
      have t4 := t3.same ktq
      have hys4 := hys3.kp (Kp.of ktq)
      generalize upd (upd H3 pt (.tup [V.str "g", V.str "call"])) pq (.tup [.str nm, .int (1 + r3)]) = H4 at hq k4 W4 t4 hys4 ⊢
      have kw : Kp (F :: S) H4 (upd H4 F (.lst (ys ++ [.ref pq]))) := (Kp.refl _ _).wr (.inl List.mem_cons_self)
      refine ⟨_, rfl, _, rfl, _, rfl, _, _, rfl, rfl, hmulb, _, _, rfl, rfl, ?_⟩
      refine ⟨_, _, _, ys ++ [.ref pq], pn ++ [(nm, 1 + r3)], rfl, k4.wr (.inr hF), W4.put nF, fun b m => ?_, upd_same, ?_, by rw [List.length_append, List.length_singleton]; omega, fun u mu => ?_⟩
      · by_cases e : b = F
        · rw [e, upd_same]
          exact fun z => nomatch z
        · rw [upd_ne e]
          exact t4 b m
      · rw [List.map_append]
        exact (hys4.kp kw).append (.cons (hq.kp kw) .nil)
      · rcases List.mem_append.mp mu with h | h
        · exact hpn u h
        · rw [List.mem_singleton.mp h]
          exact ⟨nn, by show 1 ≤ 1 + r3; omega, by show 1 + r3 ≤ 2; omega⟩
    · exact ⟨_, _, rm, ys, pn, rfl, k3', W3, t3, hF3, hys3, Nat.le_succ_of_le hpl, hpn⟩
  · rintro σ H' ⟨x4, x5, rm, ys, pn, rfl, k, W, t, hF', hys, hpl, hpn⟩
    refine ⟨_, rfl, F, ys, rfl, .inl ⟨SqL.of hF', fun p hp => ?_⟩⟩
    have kp := same_new (o := .tup ys) hp
    have mS : ∀ b ∈ S, b ∈ F :: S := fun b m => List.mem_cons_of_mem _ m
    refine q _ _ pn (k.trans (Kp.of kp)) ((W.same kp).mono (by omega)) (fun b m => (t.same kp) b (mS b m)) (Dv.sub mS (.tup upd_same (t.out hp) (hys.kp (Kp.of kp)))) (by omega) hpn
end
end K19
set_option Elab.async false
set_option linter.all false
set_option maxRecDepth 100000
set_option maxHeartbeats 4000000
/-! k19: shops drawn. -/
namespace K19
open PySem PySem.Spec PyProof.Rows L2 Zg Zr Zd Zv
/-- all tuples stay -/
def TupK (H H' : Hp) : Prop := ∀ a xs, H a = some (.tup xs) → H' a = some (.tup xs)
theorem TupK.of {H H' : Hp} {wd l : Addr} {C : Nat} (W : Well H wd l C) (k : Kp [wd, l] H H') : TupK H H' := fun a xs e => k _ _ (well_in W e) e
theorem TupK.put {H : Hp} {d : Addr} {o : HO} (h : ∀ xs, H d ≠ some (.tup xs)) : TupK H (upd H d o) := fun a xs e => by
  rw [upd_ne (fun z => h xs (by rw [← z]; exact e))]
  exact e
theorem Row.tup {H H' : Hp} {sz : Nat} {v : V} (h : Row H sz v) (k : TupK H H') : Row H' sz v := by
  obtain ⟨a, xs, e, h1, h2⟩ := h
  exact ⟨a, xs, e, k _ _ h1, h2⟩
theorem put_keys {kvs : List (Key × V)} {ms : List PySem.Str} (h : kvs.map (·.1) = ms.map Sum.inr) (y : PySem.Str) (v : V) : ∃ ms', (putK kvs (.inr y) v).map (·.1) = ms'.map Sum.inr ∧ ms' ≠ [] ∧ (∀ x ∈ ms', x ∈ ms ∨ x = y) ∧ ms'.length ≤ ms.length + 1 := by
  unfold putK
  by_cases e : (kvs.any fun kv => decide (kv.1 = Sum.inr y)) = true
  · rw [if_pos e]
    refine ⟨ms, ?_, fun z => ?_, fun x m => .inl m, Nat.le_succ _⟩
    · rw [← h, List.map_map]
      refine List.map_congr_left fun kv _ => ?_
      show (if kv.1 = Sum.inr y then (kv.1, v) else kv).1 = kv.1
      split <;> rfl
    · rw [z] at h
      rw [List.map_eq_nil_iff.mp h] at e
      cases e
  · rw [if_neg e]
    refine ⟨ms ++ [y], by rw [List.map_append, List.map_append, h]; rfl, fun z => by simp at z, fun x m => ?_, by rw [List.length_append, List.length_singleton]; exact Nat.le_refl _⟩
    rcases List.mem_append.mp m with m | m
    · exact .inl m
    · exact .inr (List.mem_singleton.mp m)
structure ShopAt (H : Hp) (sh mo g : Addr) (skv mkv lkv : List (Key × V)) (ms : List PySem.Str) (sz : Nat) : Prop where
  shp : Shp H sh mo skv mkv sz
  mks : mkv.map (·.1) = ms.map Sum.inr
  m0 : ms ≠ []
  m4 : ms.length ≤ 4
  mn : ∀ x ∈ ms, Nm x
  leads : valV skv (.inr "leads") = some (.ref g)
  gs : g ≠ sh
  g : H g = some (.dK lkv)
  ok : LeadsOk H lkv
def nm7 : List PySem.Str := ["open", "close", "write", "a", "go", "zzzzzzzz", "end"]
theorem nm7_ok : ∀ k : Fin 7, (nm7.getD k "").length ≤ 8 ∧ PyData.strOk (nm7.getD k "") = true := by decide +kernel
def SK (sz : Nat) (mo : Addr) : List (Key × V) := [(.inr "size", .int (sz : Int)), (.inr "moves", .ref mo)]
section
variable {P : Program} {w : World} {K : PySem.W.Frag} {mg : PySem.Str → Option Value} {base : Heap}
def sp_shop : Sp := fun vs H Q _ => ∃ (wd l a : Addr) (C : Nat) (ss : List Int), vs = [.ref wd, .ref a] ∧ Well H wd l C ∧ C + 40 < LIM ∧ a ∉ [wd, l] ∧ H a = some (.lst (ss.map V.int)) ∧ ss ≠ [] ∧ ss.length ≤ 10 ∧ (∀ i ∈ ss, 1 ≤ i ∧ i ≤ 3) ∧
  ∀ (H' : Hp) (sh mo g : Addr) (skv mkv lkv : List (Key × V)) (ms : List PySem.Str) (sz : Nat), Kp [wd, l] H H' → Well H' wd l (C + 40) → H sh = none → H mo = none → ShopAt H' sh mo g skv mkv lkv ms sz → Q (.ref sh) H'
theorem ok_shop (T : Txt K mg) : FnOk P w K mg base CX0 3 T.a_shop T.d_shop P_shop sp_shop := by
  refine T.F_shop.ok sc_shop (fun vs H Q E h => by obtain ⟨wd, l, a, C, ss, rfl, _⟩ := h; rfl) (fun cdv A outer s H vs Q E hr h => ?_)
  refine ⟨_, (pss_cons (ps_set (i := 2) sc_shop.nd rfl (Or.inl rfl) (pe_lst (pa_cons pe_str (pa_cons pe_str (pa_cons pe_str (pa_cons pe_str (pa_cons pe_str (pa_cons pe_str (pa_cons pe_str pa_nil)))))))))
    (pss_cons (ps_par (i := 3) (j := 4) (by rfl) sc_shop.nd rfl rfl (by decide) rfl rfl (pa_cons (pe_call (ok_pick T) (hr.mono (by decide)) (by rfl) T.g_pick T.F_pick.kp T.b_pick .nil pass0 (pa_cons (pv 0) (pa_cons (pv 1) pa_nil))) (pa_cons (pe_call (ok_draw T) (hr.mono (by decide)) (by rfl) T.g_draw T.F_draw.kp T.b_draw .nil pass0 (pa_cons (pv 0) (pa_cons pe_int pa_nil))) pa_nil)) (by rfl))
    (pss_cons (ps_set (i := 5) sc_shop.nd rfl (Or.inl rfl) (pe_disp (pps_cons pe_str (pv 3) (pps_cons pe_str pe_dnewK pps_nil)) (by rfl) (by rfl) (fun z => by cases z) (by decide)))
    (pss_cons (ps_for PassesOwn.never rfl (pi_range1 (by rfl) T.n_range (pa_cons (pe_op op_add pe_int (pe_call (ok_draw T) (hr.mono (by decide)) (by rfl) T.g_draw T.F_draw.kp T.b_draw .nil pass0 (pa_cons (pv 0) (pa_cons pe_int pa_nil)))) pa_nil)) (pg_name (i := 6) sc_shop.nd rfl (Or.inl rfl)) (pss_cons (ps_asg (pe_tup (pa_cons (pe_ix ix_list (pv 2) (pe_op op_mod (pe_callTy call_int1 (by rfl) T.n_int (by decide +kernel) (pa_cons (pe_op op_add (pv 4) (pv 6)) pa_nil)) pe_int) (fun _ _ => rfl)) (pa_cons (pe_op op_cat (pe_listRg (by rfl) (by rfl) T.n_list (prg_1 (by rfl) T.n_range (pv 3))) (pe_lst (pa_cons pe_non pa_nil))) pa_nil))) (pg_tup (by rfl) (pgs_cons (pg_name (i := 7) sc_shop.nd rfl (Or.inl rfl)) (pgs_cons (pg_name (i := 8) sc_shop.nd rfl (Or.inr rfl)) pgs_nil))))
    (pss_one (ps_dput (hu_of hr) (pe_dget (hu_of hr) (pv 5) pe_str (fun _ _ => rfl)) (pv 7) (pe_callTy call_tuple_of (by rfl) T.n_tuple (by decide +kernel) (pa_cons (pe_lc (own := [("q", 9)]) rfl sc_shop.nd (pi_range1 (by rfl) T.n_range (pa_cons (pv 3) pa_nil)) (blkOk_by (own := [("q", 9)]) (N := N_shop) (sc := defScope s_shop) (by decide +kernel)) (fun _ _ _ _ _ => (pg_name (i := 9) sc_shop.nd rfl (Or.inl rfl))) (fun _ _ _ _ _ => pts_nil) (fun _ _ _ _ _ => (pe_call (ok_pick T) (hr.mono (by decide)) (by rfl) T.g_pick T.F_pick.kp T.b_pick .nil pass0 (pa_cons (pv 0) (pa_cons (pv 8) pa_nil))))) pa_nil)) rfl))))
    (pss_cons (ps_dput (hu_of hr) (pv 5) pe_str (pe_callTy call_tuple_of (by rfl) T.n_tuple (by decide +kernel) (pa_cons (pe_call (ok_some T) (hr.mono (by decide)) (by rfl) T.g_some T.F_some.kp T.b_some .nil pass0 (pa_cons (pv 0) (pa_cons (pe_listRg (by rfl) (by rfl) T.n_list (prg_1 (by rfl) T.n_range (pv 3))) (pa_cons pe_int pa_nil)))) pa_nil)) rfl)
    (pss_cons (ps_dput (hu_of hr) (pv 5) pe_str (pe_call (ok_leads T) (hr.mono (by decide)) (by rfl) T.g_leads T.F_leads.kp T.b_leads .nil pass0 (pa_cons (pv 5) pa_nil)) rfl)
    (pss_one (ps_ret (pv 5))))))))), ?_⟩
  obtain ⟨wd, l, a, C, ss, rfl, hW, hC, na, ha, hs0, hs10, hs, q⟩ := h
  refine ⟨by show 7 ≤ sizeLine; decide, fun pw hpw => ?_⟩
  have kw := same_new (o := .lst (nm7.map V.str)) hpw
  have npw := well_trk hW hpw
  have hw1 : (upd H pw (.lst (nm7.map V.str))) pw = some (.lst (nm7.map V.str)) := upd_same
  have W1 := hW.same kw
  have ha1 := kw _ _ ha
  dsimp only [gName]
  show tSeq (tPar _ _ _) _ _ _ (upd H pw (.lst (nm7.map V.str)))
  generalize upd H pw (.lst (nm7.map V.str)) = H1 at kw hw1 W1 ha1 ⊢
  refine ⟨_, rfl, _, rfl, wd, l, a, C, ss.map V.int, rfl, W1, by omega, na, ha1, fun z => hs0 (List.map_eq_nil_iff.mp z), by rw [List.length_map]; omega, fun H2 x k2 W2 hx => ?_⟩
  obtain ⟨z, mz, rfl⟩ := List.mem_map.mp hx
  obtain ⟨z1, z3⟩ := hs z mz
  obtain ⟨sz, rfl⟩ : ∃ sz : Nat, z = (sz : Int) := ⟨z.toNat, by omega⟩
  refine ⟨_, rfl, wd, l, 7, C + 1, rfl, W2, by omega, by decide, by decide, fun H3 r k3 W3 r0 r7 => ⟨_, _, rfl, ?_⟩⟩
  have k03 : Kp [wd, l] H H3 := (Kp.of kw).trans (k2.trans k3)
  have hw3 := k3 _ _ npw (k2 _ _ npw hw1)
  obtain ⟨rn, rfl⟩ : ∃ rn : Nat, r = (rn : Int) := ⟨r.toNat, by omega⟩
  dsimp only []
  refine fun sh hsh => ⟨_, rfl, fun mo hmo => ?_⟩
  have ksh := same_new (o := .dK []) hsh
  have kmo := same_new (o := .dK []) hmo
  have hms : mo ≠ sh := fun z => by
    rw [z, upd_same] at hmo
    cases hmo
  have hmo3 := ksh.free hmo
  refine ⟨by rw [upd_ne hms.symm]; exact upd_same, [(.inr "size", .int (sz : Int)), (.inr "moves", .ref mo)], rfl, by show 2 ≤ 15; decide, ?_⟩
  have h4a : ∀ b o, H3 b = some o → (upd (upd (upd H3 sh (.dK [])) mo (.dK [])) sh (.dK (SK sz mo))) b = some o := fun b o e => by
    rw [upd_ne (ne_of_none e hsh), upd_ne (ne_of_none e hmo3), upd_ne (ne_of_none e hsh)]
    exact e
  have k34 : Same H3 (upd (upd (upd H3 sh (.dK [])) mo (.dK [])) sh (.dK (SK sz mo))) := h4a
  have hsh4 : (upd (upd (upd H3 sh (.dK [])) mo (.dK [])) sh (.dK (SK sz mo))) sh = some (.dK (SK sz mo)) := upd_same
  have hmo4 : (upd (upd (upd H3 sh (.dK [])) mo (.dK [])) sh (.dK (SK sz mo))) mo = some (.dK []) := by rw [upd_ne hms, upd_same]
  have nsh := well_trk W3 hsh
  have nmo := well_trk W3 hmo3
  have npm : pw ≠ mo := ne_of_none hw3 hmo3
  have nps : pw ≠ sh := ne_of_none hw3 hsh
  have hsh0 : H sh = none := k03.free nsh hsh
  have hmo0 : H mo = none := k03.free nmo hmo3
  have eSK : mergeK [] [((.inr "size" : Key), V.int (sz : Int)), (.inr "moves", V.ref mo)] = SK sz mo := by rfl
  rw [eSK]
  dsimp only [gName]
  have W4 := W3.same k34
  have hw4 := k34 _ _ hw3
  have k04 : Kp [wd, l] H (upd (upd (upd H3 sh (.dK [])) mo (.dK [])) sh (.dK (SK sz mo))) := k03.trans (Kp.of k34)
  generalize upd (upd (upd H3 sh (.dK [])) mo (.dK [])) sh (.dK (SK sz mo)) = H4 at hsh4 hmo4 W4 hw4 k04 ⊢
  have hsz1 : 1 ≤ sz := by omega
  have hsz3 : sz ≤ 3 := by omega
  refine ⟨_, rfl, wd, l, 4, C + 2, rfl, W4, by omega, by decide, by decide, fun H5 r5 k5 W5 r50 r54 => ⟨_, _, rfl, rfl, _, rfl, by omega, by omega, ?_⟩⟩
  obtain ⟨m, hm⟩ : ∃ m : Nat, (1 + r5).toNat = m := ⟨_, rfl⟩
  rw [hm]
  have hm1 : 1 ≤ m := by omega
  have hm4 : m ≤ 4 := by omega
  refine for_it (J := Itr 0 m) (walk_range (lo := 0) (n := m)) (fun i σ H' => ∃ (x6 x7 x8 x9 : Option V) (mkv : List (Key × V)) (ms : List PySem.Str), σ = [some (.ref wd), some (.ref a), some (.ref pw), some (.int (sz : Int)), some (.int (rn : Int)), some (.ref sh), x6, x7, x8, x9] ∧ Kp [wd, l] H H' ∧ Well H' wd l (C + 3 + i * 3) ∧ H' pw = some (.lst (nm7.map V.str)) ∧ H' sh = some (.dK (SK sz mo)) ∧ H' mo = some (.dK mkv) ∧ mkv.map (·.1) = ms.map Sum.inr ∧ (i ≠ 0 → ms ≠ []) ∧ ms.length ≤ i ∧ (∀ x ∈ ms, Nm x) ∧ mkv.length ≤ i ∧ ∀ kv ∈ mkv, Row H' sz kv.2)
    ⟨none, none, none, none, [], [], rfl, k04.trans k5, W5, k5 _ _ npw hw4, k5 _ _ nsh hsh4, k5 _ _ nmo hmo4, rfl, fun z => absurd rfl z, Nat.le_refl _, (fun _ z => nomatch z), Nat.le_refl _, fun _ z => nomatch z⟩ (fun _ _ _ _ _ => trivial) ?_ ?_
  · rintro i x σ H' H'' hi ⟨x6, x7, x8, x9, mkv, ms, rfl, k, W, hpw', hsh', hmo', hk, h0, hml, hmn, hkl, hrow⟩ ⟨rfl, rfl⟩
    have e7 : ((rn : Int) + (0 + (i : Int))) % 7 = (((rn + i) % 7 : Nat) : Int) := by omega
    refine ⟨_, rfl, _, rfl, _, rfl, _, _, rfl, rfl, .inl ⟨_, rfl, _, _, rfl, rfl, (by decide : (0 : Int) < 7), ?_⟩⟩
    show rIxL K (V.ref pw) (.int (((rn : Int) + (0 + (i : Int))) % 7)) H'' _
    rw [e7]
    have h8 : (rn + i) % 7 < 7 := Nat.mod_lt _ (by decide)
    have nn : Nm (nm7.getD ((rn + i) % 7) "") := nm7_ok ⟨(rn + i) % 7, h8⟩
    have hat : (nm7.map V.str)[(rn + i) % 7]? = some (V.str (nm7.getD ((rn + i) % 7) "")) := by
      rw [List.getElem?_map, List.getD_eq_getElem?_getD]
      generalize (rn + i) % 7 = j at h8
      have : j < nm7.length := h8
      rw [List.getElem?_eq_getElem this]
      rfl
    generalize nm7.getD ((rn + i) % 7) "" = nm at nn hat
    refine ⟨pw, _, _, _, rfl, rfl, SqL.of hpw', atI_nat hat, _, rfl, _, rfl, RgOk.of_le (by decide) (by omega) (by decide) (by omega), fun p1 hp1 => ⟨by show 1 ≤ sizeLine; decide, fun p2 hp2 => ?_⟩⟩
    have q1 := same_new (o := .lst (rgV 0 (sz : Int))) hp1
    have q2 := same_new (o := .lst [V.non]) hp2
    have lr : (rgV 0 (sz : Int)).length = sz := by rw [rgV_length]; omega
    refine ⟨p1, p2, _, _, rfl, rfl, q2 _ _ upd_same, upd_same, by rw [lr, sizeLine_eq]; show sz + 1 ≤ _; omega, fun p3 hp3 => ⟨by show 2 ≤ sizeLine; decide, fun p4 hp4 => ?_⟩⟩
    have q3 := same_new (o := .lst (rgV 0 (sz : Int) ++ [V.non])) hp3
    have q4 := same_new (o := .tup [.str nm, .ref p3]) hp4
    have q14 := q1.trans (q2.trans (q3.trans q4))
    refine ⟨p4, _, rfl, SqT.of upd_same, rfl, _, _, rfl, _, _, rfl, rfl, ?_⟩
    dsimp only [gName]
    have hp3' := q4 _ _ (upd_same (H := upd (upd H'' p1 (.lst (rgV 0 (sz : Int)))) p2 (.lst [V.non])) (a := p3) (o := .lst (rgV 0 (sz : Int) ++ [V.non])))
    have np3 : p3 ∉ [wd, l] := well_trk ((W.same q1).same q2) hp3
    have hall : ∀ v ∈ rgV 0 (sz : Int) ++ [V.non], v = .non ∨ ∃ i : Nat, v = .int (i : Int) ∧ i < sz := fun v mv => by
      rcases List.mem_append.mp mv with h | h
      · unfold rgV at h
        obtain ⟨i, hi, rfl⟩ := List.mem_map.mp h
        have := List.mem_range.mp hi
        exact .inr ⟨i, by rw [Int.zero_add], by omega⟩
      · exact .inl (List.mem_singleton.mp h)
    have lall : (rgV 0 (sz : Int) ++ [V.non]).length ≤ 4 := by rw [List.length_append, lr]; show sz + 1 ≤ 4; omega
    have nall : rgV 0 (sz : Int) ++ [V.non] ≠ [] := fun z => by simp at z
    have W6 := W.same q14
    have k6 := k.trans (Kp.of q14)
    have hpw6 := q14 _ _ hpw'
    have hsh6 := q14 _ _ hsh'
    have hmo6 := q14 _ _ hmo'
    have hrow6 : ∀ kv ∈ mkv, Row _ sz kv.2 := fun kv mv => (hrow kv mv).kp (S := []) q14
    generalize upd (upd (upd (upd H'' p1 (.lst (rgV 0 (sz : Int)))) p2 (.lst [V.non])) p3 (.lst (rgV 0 (sz : Int) ++ [V.non]))) p4 (.tup [.str nm, .ref p3]) = H6 at q14 hp3' W6 k6 hpw6 hsh6 hmo6 hrow6 ⊢
    generalize rgV 0 (sz : Int) ++ [V.non] = opts at hp3' hall lall nall ⊢
    refine ⟨_, rfl, _, rfl, by omega, by omega, fun D hD => ?_⟩
    have e0 : ((sz : Int)).toNat = sz := rfl
    rw [e0]
    have nD := well_trk W6 hD
    refine lc_it (J := Itr 0 sz) (walk_range (lo := 0) (n := sz)) (fun j H' => ∃ ys, Kp [wd, l] H6 H' ∧ Well H' wd l (C + 3 + i * 3 + j) ∧ H' D = some (.lst ys) ∧ ys.length = j ∧ ∀ v ∈ ys, v = .non ∨ ∃ i : Nat, v = .int (i : Int) ∧ i < sz) ⟨[], Kp.new hD, W6.put nD, upd_same, rfl, fun _ z => nomatch z⟩ (fun _ _ _ _ => trivial) ?_ ?_
    · rintro j x H7 H8 hj ⟨ys, k7, W7, hD7, hyl, hys⟩ ⟨rfl, rfl⟩
      have h16 : i * 3 ≤ 3 * 3 := Nat.mul_le_mul_right 3 (by omega)
      refine ⟨rfl, _, rfl, _, rfl, wd, l, p3, _, opts, rfl, W7, by omega, np3, k7 _ _ np3 hp3', nall, by omega, fun H9 x k9 W9 hx => ⟨ys, k9 _ _ nD hD7, by rw [sizeLine_eq]; omega, ys ++ [x], fun b o nb e => ?_, W9.put nD, upd_same, by rw [List.length_append, List.length_singleton, hyl], fun v mv => ?_⟩⟩
      · rw [upd_ne (fun z => by rw [z, hD] at e; cases e)]
        exact k9 _ _ nb (k7 _ _ nb e)
      · rcases List.mem_append.mp mv with h | h
        · exact hys v h
        · exact (List.mem_singleton.mp h) ▸ hall x hx
    · rintro H7 ⟨ys, k7, W7, hD7, hyl, hys⟩
      refine ⟨D, ys, rfl, .inl ⟨SqL.of hD7, fun pr hpr => ?_⟩⟩
      have kr := same_new (o := .tup ys) hpr
      have k67 := k7.trans (Kp.of kr)
      refine ⟨_, rfl, sh, _, rfl, DGet.k (k := .inr "moves") (k67 _ _ nsh hsh6), _, rfl, mo, _, rfl, DPut.k (k := .inr nm) (k67 _ _ nmo hmo6) (by rw [sizeLine_eq]; omega), ?_⟩
      obtain ⟨ms', e1, e2, e3, e4⟩ := put_keys hk nm (V.ref pr)
      have W8 := W7.same kr
      have hmo8 := k67 _ _ nmo hmo6
      have hr8 : (upd H7 pr (.tup ys)) pr = some (.tup ys) := upd_same
      have hsh8 := k67 _ _ nsh hsh6
      have hpw8 := k67 _ _ npw hpw6
      have t68 := TupK.of W6 k67
      have k08 := k6.trans k67
      generalize upd H7 pr (.tup ys) = H8 at k67 W8 hmo8 hr8 hsh8 hpw8 t68 k08 ⊢
      have tmo : TupK H8 (upd H8 mo (.dK (putK mkv (.inr nm) (.ref pr)))) := TupK.put fun xs z => by rw [hmo8] at z; cases z
      refine ⟨_, _, _, x9, putK mkv (.inr nm) (.ref pr), ms', rfl, k08.wr (.inr hmo0), (W8.put nmo).mono (by omega), by rw [upd_ne npm]; exact hpw8, by rw [upd_ne hms.symm]; exact hsh8, upd_same, e1, fun _ => e2, by omega, fun x mx => ?_, Nat.le_trans (putK_len' _ _ _) (Nat.succ_le_succ hkl), fun kv mkv' => ?_⟩
      · rcases e3 x mx with h | rfl
        · exact hmn x h
        · exact nn
      · rcases mem_put mkv' with h | rfl
        · exact ((hrow6 kv h).tup t68).tup tmo
        · exact ⟨pr, ys, rfl, tmo _ _ hr8, hyl, hys⟩
  · rintro σ H6 ⟨x6, x7, x8, x9, mkv, ms, rfl, k6, W6, hpw6, hsh6, hmo6, hk, h0, hml, hmn, hkl, hrow⟩
    dsimp only []
    have h16 : m * 3 ≤ 4 * 3 := Nat.mul_le_mul_right 3 hm4
    have lr : (rgV 0 (sz : Int)).length = sz := by rw [rgV_length]; omega
    refine ⟨_, rfl, _, rfl, _, rfl, RgOk.of_le (by decide) (by omega) (by decide) (by omega), fun p1 hp1 => ?_⟩
    have q1 := same_new (o := .lst (rgV 0 (sz : Int))) hp1
    refine ⟨wd, l, p1, 2, C + 3 + m * 3, rgV 0 (sz : Int), rfl, W6.same q1, by rw [lr]; omega, well_trk W6 hp1, upd_same, by rw [lr]; omega, by decide, by decide, fun H8 p8 ys k8 W8 hp8 h8 hy hl => ⟨p8, ys, rfl, .inl ⟨SqL.of h8, fun pt hpt => ?_⟩⟩⟩
    have qt := same_new (o := .tup ys) hpt
    have k68 : Kp [wd, l] H6 (upd H8 pt (.tup ys)) := (Kp.of q1).trans (k8.trans (Kp.of qt))
    have t68 := TupK.of W6 k68
    have W9 := W8.same qt
    have hsh9 := k68 _ _ nsh hsh6
    have hmo9 := k68 _ _ nmo hmo6
    have hrow9 : ∀ kv ∈ mkv, Row (upd H8 pt (.tup ys)) sz kv.2 := fun kv mv => (hrow kv mv).tup t68
    refine ⟨_, rfl, sh, _, rfl, DPut.k (k := .inr "resting") hsh9 (by show 2 < sizeLine; decide), ?_⟩
    have k09 := k6.trans k68
    generalize upd H8 pt (.tup ys) = H9 at W9 hsh9 hmo9 hrow9 k09 ⊢
    have e1 : putK (SK sz mo) (.inr "resting") (V.ref pt) = SK sz mo ++ [(.inr "resting", .ref pt)] := by rfl
    dsimp only []
    rw [e1]
    have t910 : TupK H9 (upd H9 sh (.dK (SK sz mo ++ [(.inr "resting", .ref pt)]))) := TupK.put fun xs z => by rw [hsh9] at z; cases z
    have hsp : Shp (upd H9 sh (.dK (SK sz mo ++ [(.inr "resting", .ref pt)]))) sh mo (SK sz mo ++ [(.inr "resting", .ref pt)]) mkv sz :=
      ⟨upd_same, by rfl, by rfl, by rw [upd_ne hms]; exact hmo9, fun kv mv => (hrow9 kv mv).tup t910, by omega, hsz1, hsz3⟩
    have W10 := W9.put (p := sh) (o := .dK (SK sz mo ++ [(.inr "resting", .ref pt)])) nsh
    have k010 : Kp [wd, l] H (upd H9 sh (.dK (SK sz mo ++ [(.inr "resting", .ref pt)]))) := k09.wr (.inr hsh0)
    generalize upd H9 sh (.dK (SK sz mo ++ [(.inr "resting", .ref pt)])) = H10 at hsp W10 k010 ⊢
    refine ⟨_, rfl, sh, mo, _, mkv, sz, rfl, hsp, fun H11 g lkv k11 hg h11 hl11 => ?_⟩
    have hsp11 := hsp.same k11
    have W11 := W10.same k11
    refine ⟨_, rfl, sh, _, rfl, DPut.k (k := .inr "leads") hsp11.sh (by show 3 < sizeLine; decide), ?_⟩
    have e2 : putK (SK sz mo ++ [(.inr "resting", .ref pt)]) (.inr "leads") (V.ref g) = SK sz mo ++ [(.inr "resting", .ref pt), (.inr "leads", .ref g)] := by rfl
    dsimp only []
    rw [e2]
    have t1112 : TupK H11 (upd H11 sh (.dK (SK sz mo ++ [(.inr "resting", .ref pt), (.inr "leads", .ref g)]))) := TupK.put fun xs z => by rw [hsp11.sh] at z; cases z
    have gs : g ≠ sh := fun z => by
      rw [z, hsp.sh] at hg
      cases hg
    refine ⟨_, rfl, q _ sh mo g (SK sz mo ++ [(.inr "resting", .ref pt), (.inr "leads", .ref g)]) mkv lkv ms sz ((k010.trans (Kp.of k11)).wr (.inr hsh0)) ((W11.put nsh).mono (by rw [lr]; omega)) hsh0 hmo0 ⟨⟨upd_same, by rfl, by rfl, by rw [upd_ne hms]; exact hsp11.mo, fun kv mv => (hsp11.rows kv mv).tup t1112, by omega, hsz1, hsz3⟩, hk, h0 (by omega), by omega, hmn, by rfl, gs, by rw [upd_ne gs]; exact h11, hl11.1, fun kv mv => ?_⟩⟩
    obtain ⟨b, ls, e3, e4, e5⟩ := hl11.2 kv mv
    exact ⟨b, ls, e3, by rw [upd_ne (fun z => by rw [z, hsp11.sh] at e4; cases e4)]; exact e4, e5⟩
end
end K19
set_option Elab.async false
set_option linter.all false
set_option maxRecDepth 100000
set_option maxHeartbeats 4000000
/-! k19: plans drawn. -/
namespace K19
open PySem PySem.Spec PyProof.Rows L2 Zg Zr Zd Zv
theorem valV_mem {kvs : List (Key × V)} {k : Key} {v : V} (h : (k, v) ∈ kvs) : ∃ v', valV kvs k = some v' ∧ (k, v') ∈ kvs := by
  unfold valV
  cases e : kvs.find? (fun kv => decide (kv.1 = k)) with
  | none =>
    have := List.find?_eq_none.mp e _ h
    exact absurd (decide_eq_true rfl) this
  | some kv =>
    have h1 := List.find?_some e
    have h2 := List.mem_of_find?_eq_some e
    have h3 : kv.1 = k := of_decide_eq_true h1
    exact ⟨kv.2, rfl, by rw [← h3]; exact h2⟩
def ef (e : PySem.Str × Int) : Key × V := (.inr e.1, .int e.2)
theorem put_es (es : List (PySem.Str × Int)) (y : PySem.Str) (v : Int) : ∃ es' : List (PySem.Str × Int), putK (es.map ef) (.inr y) (.int v) = es'.map ef ∧ es'.length ≤ es.length + 1 ∧ ∀ e ∈ es', e ∈ es ∨ e = (y, v) := by
  unfold putK
  by_cases e : ((es.map ef).any fun kv => decide (kv.1 = Sum.inr y)) = true
  · rw [if_pos e]
    refine ⟨es.map fun u => if u.1 = y then (y, v) else u, ?_, by rw [List.length_map]; omega, fun u m => ?_⟩
    · rw [List.map_map, List.map_map]
      refine List.map_congr_left fun u _ => ?_
      show (if (Sum.inr u.1 : Key) = Sum.inr y then ((Sum.inr u.1 : Key), V.int v) else (.inr u.1, .int u.2)) = ef (if u.1 = y then (y, v) else u)
      by_cases q : u.1 = y
      · rw [if_pos (by rw [q]), if_pos q, q]
        rfl
      · rw [if_neg (fun z => q (Sum.inr.inj z)), if_neg q]
        rfl
    · obtain ⟨u', mu, rfl⟩ := List.mem_map.mp m
      by_cases q : u'.1 = y
      · rw [if_pos q]
        exact .inr rfl
      · rw [if_neg q]
        exact .inl mu
  · rw [if_neg e]
    refine ⟨es ++ [(y, v)], by rw [List.map_append]; rfl, by rw [List.length_append, List.length_singleton]; exact Nat.le_refl _, fun u m => ?_⟩
    rcases List.mem_append.mp m with m | m
    · exact .inl m
    · exact .inr (List.mem_singleton.mp m)
def L10 : List V := (List.replicate (Int.toNat 2) [V.str "f", .str "retry", .str "part", .str "zzzzzzzz", .str "main"]).flatten
def NmB (x : PySem.Str) : Bool := decide (x.length ≤ 8) && PyData.strOk x
theorem NmB.nm {x : PySem.Str} (h : NmB x = true) : Nm x := by
  have := Bool.and_eq_true_iff.mp h
  exact ⟨of_decide_eq_true this.1, this.2⟩
theorem nm5_ok (rn : Nat) (h : rn < 5) : ∃ n0 n1 n2 n3 n4 : PySem.Str, cutV L10 (some (rn : Int)) (some ((rn : Int) + 5)) = [V.str n0, .str n1, .str n2, .str n3, .str n4] ∧ (NmB n0 = true ∧ NmB n1 = true ∧ NmB n2 = true ∧ NmB n3 = true) ∧ n1 ≠ n0 ∧ n2 ≠ n0 ∧ n3 ≠ n0 := by
  rcases rn with _ | _ | _ | _ | _ | rn
  · exact ⟨"f", "retry", "part", "zzzzzzzz", "main", by rfl, by decide +kernel, by decide +kernel, by decide +kernel, by decide +kernel⟩
  · exact ⟨"retry", "part", "zzzzzzzz", "main", "f", by rfl, by decide +kernel, by decide +kernel, by decide +kernel, by decide +kernel⟩
  · exact ⟨"part", "zzzzzzzz", "main", "f", "retry", by rfl, by decide +kernel, by decide +kernel, by decide +kernel, by decide +kernel⟩
  · exact ⟨"zzzzzzzz", "main", "f", "retry", "part", by rfl, by decide +kernel, by decide +kernel, by decide +kernel, by decide +kernel⟩
  · exact ⟨"main", "f", "retry", "part", "zzzzzzzz", by rfl, by decide +kernel, by decide +kernel, by decide +kernel, by decide +kernel⟩
  · omega
theorem cut_its (n0 n1 n2 n3 n4 : PySem.Str) (rn : Nat) (h : rn < 3) : ∃ its : List PySem.Str, cutV [V.str n0, .str n1, .str n2, .str n3, .str n4] (some 1) (some (2 + (rn : Int))) = its.map V.str ∧ its.length ≤ 3 ∧ ∀ x ∈ its, x = n1 ∨ x = n2 ∨ x = n3 := by
  rcases rn with _ | _ | _ | rn
  · exact ⟨[n1], rfl, by show 1 ≤ 3; decide, by simp⟩
  · exact ⟨[n1, n2], rfl, by show 2 ≤ 3; decide, by simp⟩
  · exact ⟨[n1, n2, n3], rfl, by show 3 ≤ 3; decide, by simp⟩
  · omega
theorem slA_to {K : PySem.W.Frag} {H : Hp} {Q : VK} {a : Addr} {xs : List V} {n : Int} {k : Nat} (hn : n = (k : Int)) (ha : H a = some (.tup xs)) (q : ∀ H' p, Same H H' → H' p = some (.tup (xs.take k)) → (p = a ∨ H p = none) → Q (.ref p) H') : rSlA K (.ref a) none (some n) H Q := by
  subst hn
  refine ⟨a, xs, rfl, SqT.of ha, fun hw => ?_, fun hw p hp => ?_⟩
  · have h1 := hw.2
    rw [HT.sIx_nat] at h1
    refine q H a (Same.refl H) ?_ (.inl rfl)
    rw [List.take_of_length_le (by omega)]
    exact ha
  · refine q _ p (same_new hp) ?_ (.inr hp)
    rw [upd_same]
    by_cases hk : k ≤ xs.length
    · rw [cut_to xs k hk]
    · exact absurd ⟨by rw [HT.sIx_none], by rw [HT.sIx_nat, Nat.min_eq_right (by omega)]⟩ hw
theorem put_keys2 {kvs : List (Key × V)} {ms : List PySem.Str} (h : kvs.map (·.1) = ms.map Sum.inr) (y : PySem.Str) (v : V) : ∃ ms' : List PySem.Str, (putK kvs (.inr y) v).map (·.1) = ms'.map Sum.inr ∧ (∀ x ∈ ms', x ∈ ms ∨ x = y) ∧ (∀ x ∈ ms, x ∈ ms') ∧ ms'.length ≤ ms.length + 1 := by
  unfold putK
  by_cases e : (kvs.any fun kv => decide (kv.1 = Sum.inr y)) = true
  · rw [if_pos e]
    refine ⟨ms, ?_, fun x m => .inl m, fun x m => m, Nat.le_succ _⟩
    rw [← h, List.map_map]
    refine List.map_congr_left fun kv _ => ?_
    show (if kv.1 = Sum.inr y then (kv.1, v) else kv).1 = kv.1
    split <;> rfl
  · rw [if_neg e]
    refine ⟨ms ++ [y], by rw [List.map_append, List.map_append, h]; rfl, fun x m => ?_, fun x m => List.mem_append_left _ m, by rw [List.length_append, List.length_singleton]; exact Nat.le_refl _⟩
    rcases List.mem_append.mp m with m | m
    · exact .inl m
    · exact .inr (List.mem_singleton.mp m)
theorem trk_put {S : List Addr} {H : Hp} {a : Addr} {o : HO} (t : Trk S H) : Trk S (upd H a o) := fun b m => by
  by_cases e : b = a
  · rw [e, upd_same]
    exact fun z => nomatch z
  · rw [upd_ne e]
    exact t b m
theorem trk_w {S : List Addr} {H H' : Hp} {wd l : Addr} {C : Nat} (t : Trk S H) (k : Kp [wd, l] H H') (W : Well H' wd l C) : Trk S H' := trk_kp t k fun a m => by
  obtain ⟨_, _, _, _, h1, h2, _⟩ := W
  simp only [List.mem_cons, List.not_mem_nil, or_false] at m
  rcases m with rfl | rfl
  · rw [h1]
    exact fun z => nomatch z
  · rw [h2]
    exact fun z => nomatch z
theorem xyw_ok : ∀ k : Fin 4, ∀ x ∈ ((["x", "y", "wait"] : List PySem.Str).take k), NmB x = true := by decide +kernel
theorem xy_ok : ∀ x ∈ (["x", "y"] : List PySem.Str), NmB x = true := by decide +kernel
/-- heads that stand in a dict -/
structure HdAt (S : List Addr) (H : Hp) (hkv : List (Key × V)) (ks : List PySem.Str) (hget : PySem.Str → List (PySem.Str × Int) × List PySem.Str) : Prop where
  hk : hkv.map (·.1) = ks.map Sum.inr
  hv : ∀ y ∈ ks, Nm y ∧ HeadOk (hget y).1 (hget y).2 ∧ ∃ v, valV hkv (.inr y) = some v ∧ Dv S H v (headD (hget y).1 (hget y).2)
theorem HdAt.kp {S : List Addr} {H H' : Hp} {hkv : List (Key × V)} {ks : List PySem.Str} {hget : PySem.Str → List (PySem.Str × Int) × List PySem.Str} (h : HdAt S H hkv ks hget) (k : Kp S H H') : HdAt S H' hkv ks hget := ⟨h.hk, fun y m => by
  obtain ⟨a, b, v, c, d⟩ := h.hv y m
  exact ⟨a, b, v, c, d.kp k⟩⟩
def hput (hget : PySem.Str → List (PySem.Str × Int) × List PySem.Str) (y : PySem.Str) (u : List (PySem.Str × Int) × List PySem.Str) : PySem.Str → List (PySem.Str × Int) × List PySem.Str := fun z => if z = y then u else hget z
theorem HdAt.put {S : List Addr} {H : Hp} {hkv : List (Key × V)} {ks : List PySem.Str} {hget : PySem.Str → List (PySem.Str × Int) × List PySem.Str} (h : HdAt S H hkv ks hget) {y : PySem.Str} {v : V} {u : List (PySem.Str × Int) × List PySem.Str} (ny : Nm y) (hu : HeadOk u.1 u.2) (hv : Dv S H v (headD u.1 u.2)) :
    ∃ ks', HdAt S H (putK hkv (.inr y) v) ks' (hput hget y u) ∧ (∀ x ∈ ks, x ∈ ks') ∧ ks'.length ≤ ks.length + 1 := by
  obtain ⟨ks', e1, e2, e3, e4⟩ := put_keys2 h.hk y v
  refine ⟨ks', ⟨e1, fun z mz => ?_⟩, e3, e4⟩
  rw [valV_put]
  unfold hput
  by_cases e : z = y
  · subst e
    simp only [if_true, eq_self]
    exact ⟨ny, hu, v, rfl, hv⟩
  · simp only [if_neg e, if_neg (fun q : (Sum.inr z : Key) = Sum.inr y => e (Sum.inr.inj q))]
    rcases e2 z mz with m | m
    · exact h.hv z m
    · exact absurd m e
def P0 (sh ex hd md : Addr) : List (Key × V) := [(.inr "shop", .ref sh), (.inr "externals", .ref ex), (.inr "heads", .ref hd), (.inr "made", .ref md), (.inr "left", .int 0)]
def nm4 : List PySem.Str := ["log", "op", "given", "zy"]
theorem nm4_ok : ∀ k : Fin 4, (nm4.getD k "").length ≤ 8 ∧ PyData.strOk (nm4.getD k "") = true := by decide +kernel
theorem getD_at (l : List PySem.Str) {j : Nat} (h : j < l.length) : (l.map V.str)[j]? = some (V.str (l.getD j "")) := by
  rw [List.getElem?_map, List.getD_eq_getElem?_getD, List.getElem?_eq_getElem h]
  rfl
section
variable {P : Program} {w : World} {K : PySem.W.Frag} {mg : PySem.Str → Option Value} {base : Heap}
/-- what was made -/
structure MadeAt (S : List Addr) (H : Hp) (md : Addr) (dkv : List (Key × V)) (ms : List PySem.Str) : Prop where
  md : H md = some (.dK dkv)
  mks : dkv.map (·.1) = ms.map Sum.inr
  m64 : ms.length ≤ 4
  lk : dkv.length ≤ 4
  at' : ∀ y ∈ ms, ∃ v pn ns t, valV dkv (.inr y) = some v ∧ Dv S H v (mkD pn ns t) ∧ HeadOk pn ns ∧ Gen ns 3 t
def cP : Nat := 100 + 4 * cT 3
def sp_plan : Sp := fun vs H Q _ => ∃ (wd l : Addr) (C : Nat), vs = [.ref wd] ∧ Well H wd l C ∧ C + cP < LIM ∧
  ∀ (H' : Hp) (p : Addr) (pl : Pl) (n : Int) (dkv : List (Key × V)) (ms : List PySem.Str), Kp [wd, l] H H' → Fr [wd, l, p] H' wd l p pl (C + cP) n → pl.Ok → pl.md ∉ [wd, l, p] → MadeAt [wd, l, p] H' pl.md dkv ms → Q (.ref p) H'
theorem ok_plan (T : Txt K mg) : FnOk P w K mg base CX0 8 T.a_plan T.d_plan P_plan sp_plan := by
  refine T.F_plan.ok sc_plan (fun vs H Q E h => by obtain ⟨wd, l, C, rfl, _⟩ := h; rfl) (fun cdv A outer s H vs Q E hr h => ?_)
  refine ⟨_, (pss_cons (ps_set (i := 1) sc_plan.nd rfl (Or.inr rfl) (pe_call (ok_shop T) (hr.mono (by decide)) (by rfl) T.g_shop T.F_shop.kp T.b_shop .nil pass0 (pa_cons (pv 0) (pa_cons (pe_lst (pa_cons pe_int (pa_cons pe_int (pa_cons pe_int (pa_cons pe_int (pa_cons pe_int (pa_cons pe_int pa_nil))))))) pa_nil))))
    (pss_cons (ps_set (i := 2) sc_plan.nd rfl (Or.inl rfl) (pe_callB (cr_sum rfl) (by rfl) T.n_sum (by decide +kernel) (pa_cons (pe_lock (pe_lc (own := [("q", 3)]) rfl sc_plan.nd (pi_keys (pe_dget (hu_of hr) (pv 1) pe_str (fun _ _ => rfl))) (blkOk_by (own := [("q", 3)]) (N := N_plan) (sc := defScope s_plan) (by decide +kernel)) (fun _ _ _ _ _ => (pg_name (i := 3) sc_plan.nd rfl (Or.inl rfl))) (fun _ _ _ _ _ => pts_nil) (fun _ _ _ _ _ => (pe_callB (show CallR _ (.builtin "len") (rLenS K) from call_len_seq) (by rfl) T.n_len (by decide +kernel) (pa_cons (pe_dget (hu_of hr) (pe_dget (hu_of hr) (pv 1) pe_str (fun _ _ => rfl)) (pv 3) (fun _ _ => rfl)) pa_nil))))) pa_nil)))
    (pss_cons (ps_set (i := 4) sc_plan.nd rfl (Or.inl rfl) (pe_disp (pps_cons pe_str (pv 1) (pps_cons pe_str pe_dnewK (pps_cons pe_str pe_dnewK (pps_cons pe_str pe_dnewK (pps_cons pe_str pe_int pps_nil))))) (by rfl) (by rfl) (fun z => by cases z) (by decide)))
    (pss_cons (ps_par3 (i := 5) (j := 6) (l := 7) (by rfl) sc_plan.nd rfl rfl rfl (by decide) (by decide) (by decide) rfl rfl rfl (pa_cons (pe_lst (pa_cons pe_str (pa_cons pe_str (pa_cons pe_str (pa_cons pe_str pa_nil))))) (pa_cons (pe_call (ok_draw T) (hr.mono (by decide)) (by rfl) T.g_draw T.F_draw.kp T.b_draw .nil pass0 (pa_cons (pv 0) (pa_cons pe_int pa_nil))) (pa_cons pe_int pa_nil))) (by rfl))
    (pss_cons (ps_for PassesOwn.never rfl (pi_range1 (by rfl) T.n_range (pa_cons (pe_call (ok_draw T) (hr.mono (by decide)) (by rfl) T.g_draw T.F_draw.kp T.b_draw .nil pass0 (pa_cons (pv 0) (pa_cons pe_int pa_nil))) pa_nil)) (pg_name (i := 8) sc_plan.nd rfl (Or.inl rfl)) (pss_cons (ps_set (i := 9) sc_plan.nd rfl (Or.inl rfl) (pe_op op_add pe_int (pe_call (ok_draw T) (hr.mono (by decide)) (by rfl) T.g_draw T.F_draw.kp T.b_draw .nil pass0 (pa_cons (pv 0) (pa_cons pe_int pa_nil)))))
    (pss_one (ps_if (pt_cmpR op_le (pe_op op_mul (pv 9) (pv 2)) (pv 7) (nomark _)) (pss_cons (ps_dput (hu_of hr) (pe_dget (hu_of hr) (pv 4) pe_str (fun _ _ => rfl)) (pe_ix ix_list (pv 5) (pe_op op_mod (pe_callTy call_int1 (by rfl) T.n_int (by decide +kernel) (pa_cons (pe_op op_add (pv 6) (pv 8)) pa_nil)) pe_int) (fun _ _ => rfl)) (pv 9) rfl)
    (pss_one (ps_set (i := 7) sc_plan.nd rfl (Or.inl rfl) (pe_op op_sub (pv 7) (pe_op op_mul (pv 9) (pv 2)))))) pss_nil))))
    (pss_cons (ps_set (i := 6) sc_plan.nd rfl (Or.inl rfl) (pe_call (ok_draw T) (hr.mono (by decide)) (by rfl) T.g_draw T.F_draw.kp T.b_draw .nil pass0 (pa_cons (pv 0) (pa_cons pe_int pa_nil))))
    (pss_cons (ps_set (i := 5) sc_plan.nd rfl (Or.inl rfl) (pe_slice sl_list (pe_op op_rep (pe_lst (pa_cons pe_str (pa_cons pe_str (pa_cons pe_str (pa_cons pe_str (pa_cons pe_str pa_nil)))))) pe_int) (po_some (pv 6)) (po_some (pe_op op_add (pv 6) pe_int))))
    (pss_cons (ps_asg (pe_tup (pa_cons (pe_ix ix_list (pv 5) pe_int (fun _ _ => rfl)) (pa_cons (pe_tup (pa_cons (pe_tup pa_nil) (pa_cons (pe_tup (pa_cons pe_str (pa_cons pe_str pa_nil))) pa_nil))) pa_nil))) (pg_tup (by rfl) (pgs_cons (pg_sub (pv 4) pe_str (set_dict (hu_of hr))) (pgs_cons (pg_sub (pe_dget (hu_of hr) (pv 4) pe_str (fun _ _ => rfl)) (pe_ix ix_list (pv 5) pe_int (fun _ _ => rfl)) (set_dict (hu_of hr))) pgs_nil))))
    (pss_cons (ps_for PassesOwn.never rfl (pi_list (pe_slice sl_list (pv 5) (po_some pe_int) (po_some (pe_op op_add pe_int (pe_call (ok_draw T) (hr.mono (by decide)) (by rfl) T.g_draw T.F_draw.kp T.b_draw .nil pass0 (pa_cons (pv 0) (pa_cons pe_int pa_nil))))))) (pg_name (i := 10) sc_plan.nd rfl (Or.inl rfl)) (pss_one (ps_dput (hu_of hr) (pe_dget (hu_of hr) (pv 4) pe_str (fun _ _ => rfl)) (pv 10) (pe_tup (pa_cons (pe_call (ok_parameters T) (hr.mono (by decide)) (by rfl) T.g_parameters T.F_parameters.kp T.b_parameters .nil pass0 (pa_cons (pv 0) (pa_cons (pv 7) (pa_cons (pv 2) pa_nil)))) (pa_cons (pe_slice sl_tupA (pe_tup (pa_cons pe_str (pa_cons pe_str (pa_cons pe_str pa_nil)))) po_none (po_some (pe_call (ok_draw T) (hr.mono (by decide)) (by rfl) T.g_draw T.F_draw.kp T.b_draw .nil pass0 (pa_cons (pv 0) (pa_cons pe_int pa_nil))))) pa_nil))) rfl)))
    (pss_cons (ps_for PassesOwn.never rfl (pi_list (pe_callTy (call_listD (by rfl)) (by rfl) T.n_list (by decide +kernel) (pa_cons (pe_dget (hu_of hr) (pv 4) pe_str (fun _ _ => rfl)) pa_nil))) (pg_name (i := 10) sc_plan.nd rfl (Or.inl rfl)) (pss_cons (ps_dput (hu_of hr) (pv 4) pe_str pe_int rfl)
    (pss_one (ps_dput (hu_of hr) (pe_dget (hu_of hr) (pv 4) pe_str (fun _ _ => rfl)) (pv 10) (pe_op op_catA (pe_dget (hu_of hr) (pe_dget (hu_of hr) (pv 4) pe_str (fun _ _ => rfl)) (pv 10) (fun _ _ => rfl)) (pe_tup (pa_cons (pe_call (ok_task T) (hr.mono (by decide)) (by rfl) T.g_task T.F_task.kp T.b_task .nil pass0 (pa_cons (pv 0) (pa_cons (pv 4) (pa_cons (pe_dget (hu_of hr) (pe_dget (hu_of hr) (pv 4) pe_str (fun _ _ => rfl)) (pv 10) (fun _ _ => rfl)) (pa_cons pe_int pa_nil))))) pa_nil))) rfl))))
    (pss_one (ps_ret (pv 4))))))))))))), ?_⟩
  obtain ⟨wd, l, C, rfl, hW, hC, q⟩ := h
  unfold cP at hC q
  refine ⟨_, rfl, by show 6 ≤ sizeLine; decide, fun a ha => ?_⟩
  have k1 := same_new (o := .lst (([2, 2, 2, 2, 1, 3] : List Int).map V.int)) ha
  refine ⟨wd, l, a, C, [2, 2, 2, 2, 1, 3], rfl, hW.same k1, by omega, well_trk hW ha, upd_same, (fun z => nomatch z), by decide, by decide, fun H2 sh mo g skv mkv lkv ms sz k2 W2 hsh hmo hS => ?_⟩
  have k02 : Kp [wd, l] H H2 := (Kp.of k1).trans k2
  have hsh0 : H sh = none := k1.free hsh
  have hmo0 : H mo = none := k1.free hmo
  dsimp only [gName]
  refine ⟨g, .dK lkv, hS.g, trivial, fun od => ?_⟩
  have hsg : sh ≠ g := hS.gs.symm
  have hz2 : (upd H2 g (.frz od (.dK lkv))) g = some (.frz od (.dK lkv)) := upd_same
  have hsz : (upd H2 g (.frz od (.dK lkv))) sh = some (.dK skv) := by rw [upd_ne hsg]; exact hS.shp.sh
  have oth : ∀ b o, b ≠ g → H2 b = some o → (upd H2 g (.frz od (.dK lkv))) b = some o := fun b o nb e => by rw [upd_ne nb]; exact e
  have hlead : ∀ kv ∈ lkv, ∃ (a : Addr) (ls : List Int), kv.2 = .ref a ∧ (upd H2 g (.frz od (.dK lkv))) a = some (.lst (ls.map V.int)) ∧ ls.length ≤ 13 := fun kv m => by
    obtain ⟨b, ls, e1, e2, e3⟩ := hS.ok.2 kv m
    exact ⟨b, ls, e1, oth _ _ (fun z => by rw [z, hS.g] at e2; cases e2) e2, e3⟩
  generalize hZ : upd H2 g (.frz od (.dK lkv)) = Z at hz2 hsz oth hlead
  refine ⟨_, rfl, sh, _, rfl, hS.leads ▸ DGet.k (k := .inr "leads") hsz, g, od, rfl, .inl ⟨lkv, hz2, fun D hD => ?_⟩⟩
  have hDg : D ≠ g := fun z => by rw [z, hz2] at hD; cases hD
  have hlk := hS.ok.1
  refine lc_it (walk_keys (d := g) (o := od) (kvs := lkv)) (fun i H' => ∃ ns : List Int, Same Z H' ∧ H' D = some (.lst (ns.map V.int)) ∧ ns.length ≤ i) ⟨[], same_new hD, upd_same, Nat.le_refl _⟩ (fun i H' _ ⟨_, k, _⟩ => k _ _ hz2) ?_ ?_
  · rintro i x H' H'' hi ⟨ns, k, hDl, hnl⟩ ⟨rfl, kk, v, hkv, rfl⟩
    obtain ⟨v', e1, e2⟩ := valV_mem (List.mem_of_getElem? hkv)
    obtain ⟨b, ls, e3, e4, e5⟩ := hlead _ e2
    have e3' : v' = .ref b := e3
    rw [e3'] at e1
    refine ⟨rfl, _, rfl, sh, _, rfl, hS.leads ▸ DGet.k (k := .inr "leads") (k _ _ hsz), _, rfl, g, _, rfl, .inl ⟨lkv, kk, .inr ⟨od, k _ _ hz2⟩, rfl, e1.symm⟩, b, _, rfl, .inl (SqL.of (k _ _ e4)), ?_⟩
    exact ⟨_, hDl, by rw [List.length_map, sizeLine_eq]; omega, ns ++ [_], same_put k hD, by rw [upd_same, List.map_append]; rfl, by rw [List.length_append, List.length_singleton]; omega⟩
  rintro H3 ⟨ns, k3, hD3, hnl⟩
  refine ⟨k3 _ _ hz2, D, ns, rfl, SqL.of (by rw [upd_ne hDg]; exact hD3), ?_⟩
  have k23 : Same H2 (upd H3 g (.dK lkv)) := fun b o e => by
    by_cases eb : b = g
    · subst eb
      rw [hS.g] at e
      cases e
      exact upd_same
    · rw [upd_ne eb]
      exact k3 _ _ (oth b o eb e)
  generalize ns.sum = pairs
  dsimp only [gName]
  have k03 := k02.trans (Kp.of k23)
  have W3 := W2.same k23
  have hsh3 := k23 _ _ hS.shp.sh
  have hmo3 := k23 _ _ hS.shp.mo
  generalize upd H3 g (.dK lkv) = H3' at k23 k03 W3 hsh3 hmo3 ⊢
  clear hlead oth hz2 hsz hZ k3 hD3 hD
  refine fun p hp => ⟨_, rfl, fun ex hex => fun hd hhd => fun md hmd => ?_⟩
  have e1p : ex ≠ p := fun z => by rw [z, upd_same] at hex; cases hex
  have h1e : H3' ex = none := by rw [upd_ne e1p] at hex; exact hex
  have e2e : hd ≠ ex := fun z => by rw [z, upd_same] at hhd; cases hhd
  have h2a : (upd H3' p (.dK [])) hd = none := by rw [upd_ne e2e] at hhd; exact hhd
  have e2p : hd ≠ p := fun z => by rw [z, upd_same] at h2a; cases h2a
  have h2e : H3' hd = none := by rw [upd_ne e2p] at h2a; exact h2a
  have e3h : md ≠ hd := fun z => by rw [z, upd_same] at hmd; cases hmd
  have h3a : (upd (upd H3' p (.dK [])) ex (.dK [])) md = none := by rw [upd_ne e3h] at hmd; exact hmd
  have e3e : md ≠ ex := fun z => by rw [z, upd_same] at h3a; cases h3a
  have h3b : (upd H3' p (.dK [])) md = none := by rw [upd_ne e3e] at h3a; exact h3a
  have e3p : md ≠ p := fun z => by rw [z, upd_same] at h3b; cases h3b
  have h3e : H3' md = none := by rw [upd_ne e3p] at h3b; exact h3b
  have eP : mergeK [] (P0 sh ex hd md) = P0 sh ex hd md := by rfl
  refine ⟨by rw [upd_ne e3p.symm, upd_ne e2p.symm, upd_ne e1p.symm, upd_same], P0 sh ex hd md, rfl, by show 5 ≤ 15; decide, ?_⟩
  rw [eP]
  dsimp only [gName]
  have npw := well_trk W3 hp
  have nex := well_trk W3 h1e
  have nhd := well_trk W3 h2e
  have nmd := well_trk W3 h3e
  have p0 : H p = none := k03.free npw hp
  have ex0 : H ex = none := k03.free nex h1e
  have hd0 : H hd = none := k03.free nhd h2e
  have md0 : H md = none := k03.free nmd h3e
  have k34 : Same H3' (upd (upd (upd (upd (upd H3' p (.dK [])) ex (.dK [])) hd (.dK [])) md (.dK [])) p (.dK (P0 sh ex hd md))) := fun b o e => by
    rw [upd_ne (ne_of_none e hp), upd_ne (ne_of_none e h3e), upd_ne (ne_of_none e h2e), upd_ne (ne_of_none e h1e), upd_ne (ne_of_none e hp)]
    exact e
  have hp4 : (upd (upd (upd (upd (upd H3' p (.dK [])) ex (.dK [])) hd (.dK [])) md (.dK [])) p (.dK (P0 sh ex hd md))) p = some (.dK (P0 sh ex hd md)) := upd_same
  have hex4 : (upd (upd (upd (upd (upd H3' p (.dK [])) ex (.dK [])) hd (.dK [])) md (.dK [])) p (.dK (P0 sh ex hd md))) ex = some (.dK []) := by rw [upd_ne e1p, upd_ne e3e.symm, upd_ne e2e.symm, upd_same]
  have hhd4 : (upd (upd (upd (upd (upd H3' p (.dK [])) ex (.dK [])) hd (.dK [])) md (.dK [])) p (.dK (P0 sh ex hd md))) hd = some (.dK []) := by rw [upd_ne e2p, upd_ne e3h.symm, upd_same]
  have hmd4 : (upd (upd (upd (upd (upd H3' p (.dK [])) ex (.dK [])) hd (.dK [])) md (.dK [])) p (.dK (P0 sh ex hd md))) md = some (.dK []) := by rw [upd_ne e3p, upd_same]
  have nse : sh ≠ ex := ne_of_none hsh3 h1e
  have nsh' : sh ≠ hd := ne_of_none hsh3 h2e
  have nsm : sh ≠ md := ne_of_none hsh3 h3e
  have nsp : sh ≠ p := ne_of_none hsh3 hp
  have nme : mo ≠ ex := ne_of_none hmo3 h1e
  have nmh : mo ≠ hd := ne_of_none hmo3 h2e
  have nmm : mo ≠ md := ne_of_none hmo3 h3e
  have nmp : mo ≠ p := ne_of_none hmo3 hp
  have nsw : sh ∉ [wd, l] := fun z => by
    have : sh ∉ [wd, l] := fun m => by
      obtain ⟨_, _, _, _, q1, q2, _⟩ := hW
      simp only [List.mem_cons, List.not_mem_nil, or_false] at m
      rcases m with rfl | rfl
      · rw [hsh0] at q1; cases q1
      · rw [hsh0] at q2; cases q2
    exact this z
  have nmw : mo ∉ [wd, l] := fun m => by
    obtain ⟨_, _, _, _, q1, q2, _⟩ := hW
    simp only [List.mem_cons, List.not_mem_nil, or_false] at m
    rcases m with rfl | rfl
    · rw [hmo0] at q1; cases q1
    · rw [hmo0] at q2; cases q2
  have W4 := W3.same k34
  have k04 := k03.trans (Kp.of k34)
  have hsh4 := k34 _ _ hsh3
  have hmo4 := k34 _ _ hmo3
  generalize upd (upd (upd (upd (upd H3' p (.dK [])) ex (.dK [])) hd (.dK [])) md (.dK [])) p (.dK (P0 sh ex hd md)) = H4 at hp4 hex4 hhd4 hmd4 W4 k04 hsh4 hmo4 ⊢
  clear k34 h2a h3a h3b hhd hmd hex
  refine ⟨by show 4 ≤ sizeLine; decide, fun pw hpw => ⟨_, rfl, wd, l, 4, C + 40, rfl, W4.same (same_new hpw), by omega, by decide, by decide, fun H5 r k5 W5 r0 r4 => ⟨_, _, _, rfl, ?_⟩⟩⟩
  have kw := same_new (o := .lst (nm4.map V.str)) hpw
  have nw := well_trk W4 hpw
  have pw0 : H pw = none := k04.free nw hpw
  have k45 : Kp [wd, l] H4 H5 := (Kp.of kw).trans k5
  have hw5 : H5 pw = some (.lst (nm4.map V.str)) := k5 _ _ nw upd_same
  have wp : pw ≠ p := (ne_of_none hp4 hpw).symm
  have we : pw ≠ ex := (ne_of_none hex4 hpw).symm
  obtain ⟨rn, rfl⟩ : ∃ rn : Nat, r = (rn : Int) := ⟨r.toNat, by omega⟩
  refine ⟨_, rfl, wd, l, 3, C + 41, rfl, W5, by omega, by decide, by decide, fun H6 r6 k6 W6 r60 r63 => ?_⟩
  refine ⟨_, rfl, by omega, by omega, ?_⟩
  obtain ⟨m, hm⟩ : ∃ m : Nat, r6.toNat = m := ⟨_, rfl⟩
  rw [hm]
  have hm2 : m ≤ 2 := by omega
  have k46 := k45.trans k6
  refine for_it (J := Itr 0 m) (walk_range (lo := 0) (n := m)) (fun i σ H' => ∃ (x8 x9 : Option V) (room : Int) (es : List (PySem.Str × Int)), σ = [some (.ref wd), some (.ref sh), some (.int pairs), none, some (.ref p), some (.ref pw), some (.int (rn : Int)), some (.int room), x8, x9, none] ∧ Kp [wd, l] H H' ∧ Well H' wd l (C + 42 + i) ∧ H' pw = some (.lst (nm4.map V.str)) ∧ H' p = some (.dK (P0 sh ex hd md)) ∧ H' ex = some (.dK (es.map ef)) ∧ H' hd = some (.dK []) ∧ H' md = some (.dK []) ∧ H' sh = some (.dK skv) ∧ H' mo = some (.dK mkv) ∧ es.length ≤ i ∧ ∀ e ∈ es, Nm e.1 ∧ 1 ≤ e.2 ∧ e.2 ≤ 2)
    ⟨none, none, 6, [], rfl, k04.trans k46, W6, k6 _ _ nw hw5, k46 _ _ npw hp4, k46 _ _ nex hex4, k46 _ _ nhd hhd4, k46 _ _ nmd hmd4, k46 _ _ nsw hsh4, k46 _ _ nmw hmo4, Nat.le_refl _, fun _ z => nomatch z⟩ (fun _ _ _ _ _ => trivial) ?_ ?_
  · rintro i x σ H' H'' hi ⟨x8, x9, room, es, rfl, k, W, hw, hp', hex', hhd', hmd', hsh', hmo', hel, hen⟩ ⟨rfl, rfl⟩
    refine ⟨_, rfl, wd, l, 2, C + 42 + i, rfl, W, by omega, by decide, by decide, fun H7 r7 k7 W7 r70 r71 => ?_⟩
    refine ⟨_, _, rfl, rfl, ?_⟩
    dsimp only [gName]
    have hmulb : CMul (1 + r7) pairs := .inl ⟨by omega, by omega⟩
    have e4 : ((rn : Int) + (0 + (i : Int))) % 4 = (((rn + i) % 4 : Nat) : Int) := by omega
    have k07 := k.trans k7
    refine ⟨_, rfl, _, rfl, _, _, rfl, rfl, hmulb, _, rfl, _, _, rfl, rfl, _, rfl, ite2 (fun _ => ?_) (fun _ => ?_)⟩
    · refine ⟨_, rfl, _, rfl, p, _, rfl, DGet.k (k := .inr "externals") (k7 _ _ npw hp'), _, rfl, _, rfl, _, rfl, _, _, rfl, rfl, .inl ⟨_, rfl, _, _, rfl, rfl, (by decide : (0 : Int) < 4), ?_⟩⟩
      show rIxL K (V.ref pw) (.int (((rn : Int) + (0 + (i : Int))) % 4)) H7 _
      rw [e4]
      have h8 : (rn + i) % 4 < 4 := Nat.mod_lt _ (by decide)
      have nn : Nm (nm4.getD ((rn + i) % 4) "") := nm4_ok ⟨(rn + i) % 4, h8⟩
      have hat := getD_at nm4 (show (rn + i) % 4 < nm4.length from h8)
      generalize nm4.getD ((rn + i) % 4) "" = nm at nn hat
      obtain ⟨es', e5, e6, e7⟩ := put_es es nm (1 + r7)
      refine ⟨pw, _, _, _, rfl, rfl, SqL.of (k7 _ _ nw hw), atI_nat hat, ex, _, rfl, DPut.k (k := .inr nm) (k7 _ _ nex hex') (by rw [List.length_map, sizeLine_eq]; omega), ?_⟩
      rw [e5]
      refine ⟨_, rfl, _, rfl, _, rfl, _, _, rfl, rfl, hmulb, _, _, rfl, rfl, ?_⟩
      refine ⟨_, _, _, es', rfl, k07.wr (.inr ex0), W7.put nex, ?_, ?_, upd_same, ?_, ?_, ?_, ?_, by omega, fun e me => ?_⟩
      · rw [upd_ne we]; exact k7 _ _ nw hw
      · rw [upd_ne e1p.symm]; exact k7 _ _ npw hp'
      · rw [upd_ne e2e]; exact k7 _ _ nhd hhd'
      · rw [upd_ne e3e]; exact k7 _ _ nmd hmd'
      · rw [upd_ne nse]; exact k7 _ _ nsw hsh'
      · rw [upd_ne nme]; exact k7 _ _ nmw hmo'
      · rcases e7 e me with h | rfl
        · exact hen e h
        · exact ⟨nn, by show 1 ≤ 1 + r7; omega, by show 1 + r7 ≤ 2; omega⟩
    · exact ⟨_, _, room, es, rfl, k07, W7, k7 _ _ nw hw, k7 _ _ npw hp', k7 _ _ nex hex', k7 _ _ nhd hhd', k7 _ _ nmd hmd', k7 _ _ nsw hsh', k7 _ _ nmw hmo', Nat.le_succ_of_le hel, hen⟩
  rintro σ H7 ⟨x8, x9, room, es, rfl, k07, W7, hw7, hp7, hex7, hhd7, hmd7, hsh7, hmo7, hel, hen⟩
  dsimp only []
  refine ⟨_, rfl, wd, l, 5, C + 42 + m, rfl, W7, by omega, by decide, by decide, fun H8 r8 k8 W8 r80 r85 => ?_⟩
  dsimp only [gName]
  obtain ⟨fn, rfl⟩ : ∃ fn : Nat, r8 = (fn : Int) := ⟨r8.toNat, by omega⟩
  refine ⟨by show 5 ≤ sizeLine; decide, fun p1 hp1 => ⟨p1, 2, _, rfl, rfl, upd_same, by decide, by decide, by show 5 * 2 ≤ sizeLine; decide, fun p2 hp2 => ?_⟩⟩
  obtain ⟨n0, n1, n2, n3, n4, hcut, ⟨b0, b1, b2, b3⟩, d1, d2, d3⟩ := nm5_ok fn (by omega)
  have q1 := same_new (o := .lst [V.str "f", .str "retry", .str "part", .str "zzzzzzzz", .str "main"]) hp1
  have q2 := same_new (o := .lst L10) hp2
  refine ⟨_, rfl, _, rfl, _, rfl, _, _, rfl, rfl, _, rfl, p2, L10, rfl, SqL.of upd_same, fun p3 hp3 => ?_⟩
  rw [hcut]
  have q3 := same_new (o := .lst [V.str n0, .str n1, .str n2, .str n3, .str n4]) hp3
  have k79 : Kp [wd, l] H7 _ := k8.trans (Kp.of (q1.trans (q2.trans q3)))
  have W9 := W8.same (q1.trans (q2.trans q3))
  have h3l := upd_same (H := upd (upd H8 p1 (.lst [V.str "f", .str "retry", .str "part", .str "zzzzzzzz", .str "main"])) p2 (.lst L10)) (a := p3) (o := .lst [V.str n0, .str n1, .str n2, .str n3, .str n4])
  have np3 : p3 ∉ [wd, l] := well_trk ((W8.same q1).same q2) hp3
  have ow3 : ∀ {b : Addr} {o : HO}, b ∉ [wd, l] → H7 b = some o → b ≠ p3 := fun {b o} nb e => ne_of_none (q2 _ _ (q1 _ _ (k8 _ _ nb e))) hp3
  have n3p := ow3 npw hp7
  have n3h := ow3 nhd hhd7
  have p30 : H p3 = none := k07.free np3 (k8.free np3 (q1.free (q2.free hp3)))
  dsimp only [gName]
  have k79' : Kp [wd, l] H7 (upd (upd (upd H8 p1 (.lst [V.str "f", .str "retry", .str "part", .str "zzzzzzzz", .str "main"])) p2 (.lst L10)) p3 (.lst [V.str n0, .str n1, .str n2, .str n3, .str n4])) := k79
  have W9' : Well (upd (upd (upd H8 p1 (.lst [V.str "f", .str "retry", .str "part", .str "zzzzzzzz", .str "main"])) p2 (.lst L10)) p3 (.lst [V.str n0, .str n1, .str n2, .str n3, .str n4])) wd l (C + 42 + m + 1) := W9
  show tSeq (tAsg _ _) _ _ _ (upd (upd (upd H8 p1 (.lst [V.str "f", .str "retry", .str "part", .str "zzzzzzzz", .str "main"])) p2 (.lst L10)) p3 (.lst [V.str n0, .str n1, .str n2, .str n3, .str n4]))
  generalize upd (upd (upd H8 p1 (.lst [V.str "f", .str "retry", .str "part", .str "zzzzzzzz", .str "main"])) p2 (.lst L10)) p3 (.lst [V.str n0, .str n1, .str n2, .str n3, .str n4]) = H9 at k79' W9' h3l ⊢
  clear k79 W9 q3
  have k09 := k07.trans k79'
  have hp9 := k79' _ _ npw hp7
  have hhd9 := k79' _ _ nhd hhd7
  have hmd9 := k79' _ _ nmd hmd7
  have hex9 := k79' _ _ nex hex7
  have hsh9 := k79' _ _ nsw hsh7
  have hmo9 := k79' _ _ nmw hmo7
  -- the base
  refine ⟨_, rfl, p3, _, 0, _, rfl, rfl, SqL.of h3l, atI_nat (j := 0) rfl, by show 0 ≤ sizeLine; decide, fun pa hpa => ⟨by show 2 ≤ sizeLine; decide, fun pb hpb => ⟨by show 2 ≤ sizeLine; decide, fun pc hpc => ⟨by show 2 ≤ sizeLine; decide, fun pd hpd => ?_⟩⟩⟩⟩
  have ka := same_new (o := .tup []) hpa
  have kb := same_new (o := .tup [V.str "x", .str "y"]) hpb
  have kc := same_new (o := .tup [V.ref pa, .ref pb]) hpc
  have kd := same_new (o := .tup [V.str n0, .ref pc]) hpd
  have kad := ka.trans (kb.trans (kc.trans kd))
  have t9 : Trk [wd, l, p, md, hd] H9 := fun b m => by
    obtain ⟨_, _, _, _, q1, q2, _⟩ := W9'
    simp only [List.mem_cons, List.not_mem_nil, or_false] at m
    rcases m with rfl | rfl | rfl | rfl | rfl
    · rw [q1]; exact fun z => nomatch z
    · rw [q2]; exact fun z => nomatch z
    · rw [hp9]; exact fun z => nomatch z
    · rw [hmd9]; exact fun z => nomatch z
    · rw [hhd9]; exact fun z => nomatch z
  have hc10 : Dv [wd, l, p, md, hd] (upd (upd (upd (upd H9 pa (.tup [])) pb (.tup [V.str "x", .str "y"])) pc (.tup [V.ref pa, .ref pb])) pd (.tup [V.str n0, .ref pc])) (.ref pc) (headD [] ["x", "y"]) :=
    .tup (kd _ _ upd_same) (((t9.same ka).same kb).out hpc) (.cons (.tup (kd _ _ (kc _ _ (kb _ _ upd_same))) (t9.out hpa) .nil) (.cons (.tup (kd _ _ (kc _ _ upd_same)) ((t9.same ka).out hpb) (.cons (.str _) (.cons (.str _) .nil))) .nil))
  have hd10 : (upd (upd (upd (upd H9 pa (.tup [])) pb (.tup [V.str "x", .str "y"])) pc (.tup [V.ref pa, .ref pb])) pd (.tup [V.str n0, .ref pc])) pd = some (.tup [V.str n0, .ref pc]) := upd_same
  have W10 := W9'.same kad
  have t10 := t9.same kad
  have k010 := k09.trans (Kp.of kad)
  have hp10 := kad _ _ hp9
  have hhd10 := kad _ _ hhd9
  have hmd10 := kad _ _ hmd9
  have hex10 := kad _ _ hex9
  have hsh10 := kad _ _ hsh9
  have hmo10 := kad _ _ hmo9
  have h3l10 := kad _ _ h3l
  generalize upd (upd (upd (upd H9 pa (.tup [])) pb (.tup [V.str "x", .str "y"])) pc (.tup [V.ref pa, .ref pb])) pd (.tup [V.str n0, .ref pc]) = H10 at hc10 hd10 W10 t10 k010 hp10 hhd10 hmd10 hex10 hsh10 hmo10 h3l10 ⊢
  refine ⟨pd, _, rfl, SqT.of hd10, rfl, _, _, rfl, _, rfl, p, _, rfl, DPut.k (k := .inr "base") hp10 (by show 5 < sizeLine; decide), ?_⟩
  have eB : putK (P0 sh ex hd md) (.inr "base") (V.str n0) = PK sh ex hd md 0 n0 := by rfl
  rw [eB]
  have hp11 : (upd H10 p (.dK (PK sh ex hd md 0 n0))) p = some (.dK (PK sh ex hd md 0 n0)) := upd_same
  have hhd11 : (upd H10 p (.dK (PK sh ex hd md 0 n0))) hd = some (.dK []) := by rw [upd_ne e2p]; exact hhd10
  refine ⟨_, _, rfl, _, rfl, p, _, rfl, DGet.k (k := .inr "heads") hp11, _, rfl, p3, _, 0, _, rfl, rfl, SqL.of (by rw [upd_ne n3p.symm]; exact h3l10), atI_nat (j := 0) rfl, hd, _, rfl, DPut.k (k := .inr n0) hhd11 (by show 0 < sizeLine; decide), rfl, ?_⟩
  have eH : putK [] (.inr n0) (V.ref pc) = [((.inr n0 : Key), V.ref pc)] := by rfl
  rw [eH]
  dsimp only []
  have k1012 : Kp [wd, l, p, md, hd] H10 (upd (upd H10 p (.dK (PK sh ex hd md 0 n0))) hd (.dK [((.inr n0 : Key), V.ref pc)])) := ((Kp.refl _ _).wr (.inl (by simp))).wr (.inl (by simp))
  have k012 : Kp [wd, l] H (upd (upd H10 p (.dK (PK sh ex hd md 0 n0))) hd (.dK [((.inr n0 : Key), V.ref pc)])) := (k010.wr (.inr p0)).wr (.inr hd0)
  have W12 := (W10.put (p := p) (o := .dK (PK sh ex hd md 0 n0)) npw).put (p := hd) (o := .dK [((.inr n0 : Key), V.ref pc)]) nhd
  have t12 : Trk [wd, l, p, md, hd] (upd (upd H10 p (.dK (PK sh ex hd md 0 n0))) hd (.dK [((.inr n0 : Key), V.ref pc)])) := trk_put (trk_put t10)
  have hp12 : (upd (upd H10 p (.dK (PK sh ex hd md 0 n0))) hd (.dK [((.inr n0 : Key), V.ref pc)])) p = some (.dK (PK sh ex hd md 0 n0)) := by rw [upd_ne e2p.symm, upd_same]
  have hhd12 : (upd (upd H10 p (.dK (PK sh ex hd md 0 n0))) hd (.dK [((.inr n0 : Key), V.ref pc)])) hd = some (.dK [((.inr n0 : Key), V.ref pc)]) := upd_same
  have hmd12 : (upd (upd H10 p (.dK (PK sh ex hd md 0 n0))) hd (.dK [((.inr n0 : Key), V.ref pc)])) md = some (.dK []) := by rw [upd_ne e3h, upd_ne e3p]; exact hmd10
  have hex12 : (upd (upd H10 p (.dK (PK sh ex hd md 0 n0))) hd (.dK [((.inr n0 : Key), V.ref pc)])) ex = some (.dK (es.map ef)) := by rw [upd_ne e2e.symm, upd_ne e1p]; exact hex10
  have hsh12 : (upd (upd H10 p (.dK (PK sh ex hd md 0 n0))) hd (.dK [((.inr n0 : Key), V.ref pc)])) sh = some (.dK skv) := by rw [upd_ne nsh', upd_ne nsp]; exact hsh10
  have hmo12 : (upd (upd H10 p (.dK (PK sh ex hd md 0 n0))) hd (.dK [((.inr n0 : Key), V.ref pc)])) mo = some (.dK mkv) := by rw [upd_ne nmh, upd_ne nmp]; exact hmo10
  have h3l12 : (upd (upd H10 p (.dK (PK sh ex hd md 0 n0))) hd (.dK [((.inr n0 : Key), V.ref pc)])) p3 = some (.lst [V.str n0, .str n1, .str n2, .str n3, .str n4]) := by rw [upd_ne n3h.symm, upd_ne n3p.symm]; exact h3l10
  have hA12 : HdAt [wd, l, p, md, hd] (upd (upd H10 p (.dK (PK sh ex hd md 0 n0))) hd (.dK [((.inr n0 : Key), V.ref pc)])) [((.inr n0 : Key), V.ref pc)] [n0] (fun _ => ([], ["x", "y"])) := ⟨rfl, fun y my => by
    rw [List.mem_singleton.mp my]
    exact ⟨NmB.nm b0, ⟨Nat.zero_le _, (fun _ m => nomatch m), by show 2 ≤ 3; decide, fun x m => NmB.nm (xy_ok x m)⟩, V.ref pc, by unfold valV; simp, hc10.kp k1012⟩⟩
  generalize upd (upd H10 p (.dK (PK sh ex hd md 0 n0))) hd (.dK [((.inr n0 : Key), V.ref pc)]) = H12 at k012 W12 t12 hp12 hhd12 hmd12 hex12 hsh12 hmo12 h3l12 hA12 ⊢
  generalize [((.inr n0 : Key), V.ref pc)] = hkv0 at hhd12 hA12
  have lh0 : hkv0.length ≤ 1 := by
    have := congrArg List.length hA12.hk
    rw [List.length_map, List.length_map] at this
    rw [this]
    exact Nat.le_refl _
  refine ⟨_, rfl, _, rfl, _, rfl, wd, l, 3, C + 42 + m + 1, rfl, W12, by omega, by decide, by decide, fun H13 r13 k13 W13 r130 r133 => ?_⟩
  obtain ⟨gn, rfl⟩ : ∃ gn : Nat, r13 = (gn : Int) := ⟨r13.toNat, by omega⟩
  refine ⟨_, _, rfl, rfl, _, rfl, p3, _, rfl, SqL.of (k13 _ _ np3 h3l12), fun pi hpi => ?_⟩
  obtain ⟨its, ecut, lits, hits⟩ := cut_its n0 n1 n2 n3 n4 gn (by omega)
  rw [ecut]
  refine ⟨pi, rfl, ⟨_, SqL.of upd_same⟩, ?_⟩
  have kpi := same_new (o := .lst (its.map V.str)) hpi
  have hpi1 : (upd H13 pi (.lst (its.map V.str))) pi = some (.lst (its.map V.str)) := upd_same
  have npi := well_trk W13 hpi
  have hits' : ∀ x ∈ its, Nm x ∧ x ≠ n0 := fun x mx => by
    rcases hits x mx with rfl | rfl | rfl
    · exact ⟨NmB.nm b1, d1⟩
    · exact ⟨NmB.nm b2, d2⟩
    · exact ⟨NmB.nm b3, d3⟩
  have ow : ∀ {b : Addr} {o : HO}, b ∉ [wd, l] → H12 b = some o → b ≠ pi := fun {b o} nb e => ne_of_none (k13 _ _ nb e) hpi
  have nihd := ow nhd hhd12
  have k1214 : Kp [wd, l] H12 (upd H13 pi (.lst (its.map V.str))) := k13.trans (Kp.of kpi)
  have W14 := W13.same kpi
  have t14 : Trk [wd, l, p, md, hd] (upd H13 pi (.lst (its.map V.str))) := (trk_w t12 k13 W13).same kpi
  have kS1 : ∀ {A B : Hp}, Kp [wd, l] A B → Kp [wd, l, p, md, hd] A B := fun {A B} k => k.sub fun a m => by
    simp only [List.mem_cons, List.not_mem_nil, or_false] at m ⊢
    rcases m with h | h
    · exact .inl h
    · exact .inr (.inl h)
  generalize upd H13 pi (.lst (its.map V.str)) = H14 at kpi hpi1 k1214 W14 t14 ⊢
  refine for_list (K := K) (a := pi) (xs := its.map V.str) (fun i σ H' => ∃ (x10 : Option V) (hkv : List (Key × V)) (ks : List PySem.Str) (hget : PySem.Str → List (PySem.Str × Int) × List PySem.Str), σ = [some (.ref wd), some (.ref sh), some (.int pairs), none, some (.ref p), some (.ref p3), some (.int (fn : Int)), some (.int room), x8, x9, x10] ∧ Kp [wd, l] H H' ∧ Well H' wd l (C + 44 + m + i * 6) ∧ Trk [wd, l, p, md, hd] H' ∧ H' pi = some (.lst (its.map V.str)) ∧ H' p = some (.dK (PK sh ex hd md 0 n0)) ∧ H' ex = some (.dK (es.map ef)) ∧ H' hd = some (.dK hkv) ∧ H' md = some (.dK []) ∧ H' sh = some (.dK skv) ∧ H' mo = some (.dK mkv) ∧ HdAt [wd, l, p, md, hd] H' hkv ks hget ∧ n0 ∈ ks ∧ 2 ≤ (hget n0).2.length ∧ ks.length ≤ 1 + i ∧ hkv.length ≤ 1 + i)
    ⟨none, hkv0, [n0], _, rfl, k012.trans k1214, W14.mono (by omega), t14, hpi1, k1214 _ _ npw hp12, k1214 _ _ nex hex12, k1214 _ _ nhd hhd12, k1214 _ _ nmd hmd12, k1214 _ _ nsw hsh12, k1214 _ _ nmw hmo12, hA12.kp (kS1 k1214), by simp, by show 2 ≤ 2; decide, by show 1 ≤ 1; decide, lh0⟩ (fun i σ H' _ ⟨_, _, _, _, _, _, _, _, h, _⟩ => SqL.of h) ?_ ?_
  · rintro i x σ H' hi ⟨x10, hkv, ks, hget, rfl, k, W, t, hi', hp', hex', hhd', hmd', hsh', hmo', hA, m0, h2, lk, lh⟩
    rw [List.getElem?_map] at hi
    cases hq : its[i]? with
    | none => rw [hq] at hi; cases hi
    | some y =>
    rw [hq] at hi
    cases hi
    obtain ⟨ny, yn⟩ := hits' y (List.mem_of_getElem? hq)
    have hil : i < its.length := (List.getElem?_eq_some_iff.mp hq).1
    refine ⟨_, rfl, _, rfl, _, rfl, wd, l, [wd, l, p, md, hd], C + 44 + m + i * 6, room, pairs, rfl, W, by omega, by simp, by simp, t, fun H15 v15 pn k15 W15 t15 hv15 lpn hpn => ?_⟩
    refine ⟨by show 3 ≤ sizeLine; decide, fun px hpx => ?_⟩
    have kx := same_new (o := .tup [V.str "x", .str "y", .str "wait"]) hpx
    have nx : px ∉ [wd, l, p, md, hd] := t15.out hpx
    dsimp only [tNoPart]
    refine ⟨_, rfl, wd, l, 4, C + 44 + m + i * 6 + 5, rfl, W15.same kx, by omega, by decide, by decide, fun H16 r16 k16 W16 r160 r164 => ?_⟩
    obtain ⟨qn, rfl⟩ : ∃ qn : Nat, r16 = (qn : Int) := ⟨r16.toNat, by omega⟩
    have hq4 : qn < 4 := by omega
    have npx : px ∉ [wd, l] := fun z => nx (by simp only [List.mem_cons, List.not_mem_nil, or_false] at z ⊢; rcases z with h | h; exact .inl h; exact .inr (.inl h))
    have hx16 : H16 px = some (.tup [V.str "x", .str "y", .str "wait"]) := k16 _ _ npx upd_same
    refine ⟨_, rfl, slA_to (k := qn) rfl hx16 fun H17 pe k17 hpe hpn' => ⟨by show 2 ≤ sizeLine; decide, fun pt hpt => ?_⟩⟩
    have t16 : Trk [wd, l, p, md, hd] H16 := trk_w (t15.same kx) k16 W16
    have npe : pe ∉ [wd, l, p, md, hd] := by
      rcases hpn' with rfl | h
      · exact nx
      · exact t16.out h
    have kt := same_new (o := .tup [v15, .ref pe]) hpt
    have k1516 : Kp [wd, l] H15 H16 := (Kp.of kx).trans k16
    have k1518 : Kp [wd, l] H15 (upd H17 pt (.tup [v15, .ref pe])) := k1516.trans (Kp.of (k17.trans kt))
    have kk : Kp [wd, l] H' (upd H17 pt (.tup [v15, .ref pe])) := k15.trans k1518
    have hv18 : Dv [wd, l, p, md, hd] (upd H17 pt (.tup [v15, .ref pe])) (.ref pt) (headD pn ((["x", "y", "wait"] : List PySem.Str).take qn)) := by
      refine .tup upd_same ((t16.same k17).out hpt) (.cons (hv15.kp (kS1 k1518)) (.cons (.tup (kt _ _ hpe) npe ?_) .nil))
      rw [List.map_take]
      exact DvAll.take qn (.cons (.str _) (.cons (.str _) (.cons (.str _) .nil)))
    have W18 := (W16.same k17).same kt
    have t18 := (t16.same k17).same kt
    have hhd18 := kk _ _ nhd hhd'
    refine ⟨_, rfl, p, _, rfl, DGet.k (k := .inr "heads") (kk _ _ npw hp'), _, rfl, hd, _, rfl, DPut.k (k := .inr y) hhd18 (by rw [sizeLine_eq]; omega), ?_⟩
    have hA18 := hA.kp (kS1 kk)
    have hi18 := kk _ _ npi hi'
    have hp18 := kk _ _ npw hp'
    have hex18 := kk _ _ nex hex'
    have hmd18 := kk _ _ nmd hmd'
    have hsh18 := kk _ _ nsw hsh'
    have hmo18 := kk _ _ nmw hmo'
    have k018 := k.trans kk
    generalize upd H17 pt (.tup [v15, .ref pe]) = H18 at hv18 W18 t18 hhd18 hA18 hi18 hp18 hex18 hmd18 hsh18 hmo18 k018 ⊢
    have kh : Kp [wd, l, p, md, hd] H18 (upd H18 hd (.dK (putK hkv (.inr y) (.ref pt)))) := (Kp.refl _ _).wr (.inl (by simp))
    obtain ⟨ks', hA', sub', lk'⟩ := (hA18.kp kh).put (y := y) (v := .ref pt) (u := (pn, (["x", "y", "wait"] : List PySem.Str).take qn)) ny ⟨lpn, hpn, by rw [List.length_take]; show min qn 3 ≤ 3; omega, fun x mx => NmB.nm (xyw_ok ⟨qn, hq4⟩ x mx)⟩ (hv18.kp kh)
    refine ⟨_, _, ks', _, rfl, k018.wr (.inr hd0), (W18.put nhd).mono (by omega), trk_put t18, by rw [upd_ne nihd.symm]; exact hi18, by rw [upd_ne e2p.symm]; exact hp18, by rw [upd_ne e2e.symm]; exact hex18, upd_same, by rw [upd_ne e3h]; exact hmd18, by rw [upd_ne nsh']; exact hsh18, by rw [upd_ne nmh]; exact hmo18, hA', sub' _ m0, ?_, by omega, Nat.le_trans (putK_len' _ _ _) (by omega)⟩
    show 2 ≤ (hput hget y _ n0).2.length
    unfold hput
    rw [if_neg (Ne.symm yn)]
    exact h2
  · rintro σ H15 ⟨x10, hkv, ks, hget, rfl, k015, W15, t15, hi15, hp15, hex15, hhd15, hmd15, hsh15, hmo15, hA15, m0, h2, lk, lh⟩
    dsimp only []
    rw [List.length_map] at lk lh W15
    have hlk : ks.length ≤ 4 := by omega
    refine ⟨_, rfl, p, _, rfl, DGet.k (k := .inr "heads") hp15, hd, hkv, rfl, .inl hhd15, fun pl' hpl' => ?_⟩
    have eks : (hkv.map fun kv => kV kv.1) = ks.map V.str := by
      have := congrArg (List.map kV) hA15.hk
      rw [List.map_map, List.map_map] at this
      exact this
    rw [eks]
    have kl := same_new (o := .lst (ks.map V.str)) hpl'
    have hl16 : (upd H15 pl' (.lst (ks.map V.str))) pl' = some (.lst (ks.map V.str)) := upd_same
    refine ⟨pl', rfl, ⟨_, SqL.of upd_same⟩, ?_⟩
    have nS2 : ∀ {b : Addr}, b ∉ [wd, l] → b ≠ p → b ≠ md → b ∉ [wd, l, p, md] := fun {b} h1 h2 h3 z => by
      simp only [List.mem_cons, List.not_mem_nil, or_false] at z h1
      rcases z with h | h | h | h
      · exact h1 (.inl h)
      · exact h1 (.inr h)
      · exact h2 h
      · exact h3 h
    have sub2 : ∀ a ∈ [wd, l, p, md], a ∈ [wd, l, p, md, hd] := fun a z => by
      simp only [List.mem_cons, List.not_mem_nil, or_false] at z ⊢
      rcases z with h | h | h | h <;> simp [h]
    obtain ⟨pln, hpln⟩ : ∃ pln : Pl, pln = { sh := sh, ex := ex, hd := hd, md := md, mo := mo, b := n0, skv := skv, mkv := mkv, hkv := hkv, ms := ms, ks := ks, es := es, sz := sz, hget := hget } := ⟨_, rfl⟩
    have hO : pln.Ok := by
      rw [hpln]
      exact ⟨hS.shp.sz1, hS.shp.sz3, hS.m0, by have := hS.m4; show ms.length < 64; omega, hS.mn, by show es.length ≤ 4; omega, hen, by show ks.length < 64; omega, fun y my => by
        obtain ⟨a, b, _⟩ := hA15.hv y my
        exact ⟨a, b⟩, ⟨n0, m0, h2⟩, NmB.nm b0⟩
    have f16 : Fr [wd, l, p, md] (upd H15 pl' (.lst (ks.map V.str))) wd l p pln (C + 70) 0 := by
      rw [hpln]
      refine ⟨(W15.same kl).mono (by omega), kl _ _ hp15, npw, ⟨kl _ _ hsh15, nS2 nsw nsp nsm, hS.shp.size, hS.shp.moves, kl _ _ hmo15, nS2 nmw nmp nmm, hS.mks, kl _ _ hex15, nS2 nex e1p e3e.symm, kl _ _ hhd15, nS2 nhd e2p e3h.symm, hA15.hk, fun y my => ?_⟩, fun a z => (t15.same kl) a (sub2 a z), by simp, by simp, by simp⟩
      obtain ⟨_, _, v, e1, e2⟩ := hA15.hv y my
      exact ⟨v, e1, (e2.sub sub2).kp (Kp.of kl)⟩
    have hmd16 := kl _ _ hmd15
    have k016 := k015.trans (Kp.of kl)
    have npl : pl' ∉ [wd, l, p] := fun z => by
      have h1 := well_trk W15 hpl'
      simp only [List.mem_cons, List.not_mem_nil, or_false] at z h1
      rcases z with h | h | h
      · exact h1 (.inl h)
      · exact h1 (.inr h)
      · rw [h, hp15] at hpl'; cases hpl'
    have nplm : pl' ≠ md := fun z => by rw [z, hmd15] at hpl'; cases hpl'
    have nmd3 : md ∉ [wd, l, p] := fun z => by
      simp only [List.mem_cons, List.not_mem_nil, or_false] at z nmd
      rcases z with h | h | h
      · exact nmd (.inl h)
      · exact nmd (.inr h)
      · exact e3p h
    have emd : pln.md = md := by rw [hpln]
    have ehd : pln.hd = hd := by rw [hpln]
    have eks' : pln.ks = ks := by rw [hpln]
    have wrp : ∀ {A B : Hp}, Kp [wd, l] H A → Kp [wd, l, p] A B → Kp [wd, l] H B := fun {A B} k1 k2 b o nb e => k2 b o (fun z => by
      simp only [List.mem_cons, List.not_mem_nil, or_false] at z nb
      rcases z with h | h | h
      · exact nb (.inl h)
      · exact nb (.inr h)
      · rw [h, p0] at e; cases e) (k1 b o nb e)
    generalize upd H15 pl' (.lst (ks.map V.str)) = H16 at hl16 f16 hmd16 k016 ⊢
    have hc3 : ks.length * cT 3 ≤ 4 * cT 3 := Nat.mul_le_mul_right _ hlk
    refine for_list (K := K) (a := pl') (xs := ks.map V.str) (fun i σ H' => ∃ (x10 : Option V) (dkv : List (Key × V)) (ds : List PySem.Str) (n' : Int), σ = [some (.ref wd), some (.ref sh), some (.int pairs), none, some (.ref p), some (.ref p3), some (.int (fn : Int)), some (.int room), x8, x9, x10] ∧ Kp [wd, l] H H' ∧ Fr [wd, l, p, md] H' wd l p pln (C + 70 + i * cT 3) n' ∧ H' pl' = some (.lst (ks.map V.str)) ∧ H' md = some (.dK dkv) ∧ dkv.map (·.1) = ds.map Sum.inr ∧ ds.length ≤ i ∧ dkv.length ≤ i ∧ ∀ y ∈ ds, ∃ v pn ns t, valV dkv (.inr y) = some v ∧ Dv [wd, l, p, md] H' v (mkD pn ns t) ∧ HeadOk pn ns ∧ Gen ns 3 t)
      ⟨x10, [], [], 0, rfl, k016, by rw [Nat.zero_mul]; exact f16, hl16, hmd16, rfl, Nat.le_refl _, Nat.le_refl _, fun _ z => nomatch z⟩ (fun i σ H' _ ⟨_, _, _, _, _, _, _, h, _⟩ => SqL.of h) ?_ ?_
    · rintro i x σ H' hi ⟨x10, dkv, ds, n', rfl, k, f, hl', hmd', hdk, hdl, hdl2, hdv⟩
      rw [List.getElem?_map] at hi
      cases hq : ks[i]? with
      | none => rw [hq] at hi; cases hi
      | some y =>
      rw [hq] at hi
      cases hi
      have my : y ∈ pln.ks := eks' ▸ List.mem_of_getElem? hq
      have hil : i < ks.length := (List.getElem?_eq_some_iff.mp hq).1
      have hci : (i + 1) * cT 3 ≤ 4 * cT 3 := Nat.mul_le_mul_right _ (by omega)
      rw [Nat.add_mul] at hci
      refine ⟨_, rfl, p, _, rfl, DPut.k (k := .inr "left") f.pk (by show 6 < sizeLine; decide), ?_⟩
      dsimp only []
      rw [pk_put]
      have f2 := f.left (n' := 14)
      have kl2 : Kp [wd, l, p] H' (upd H' p (.dK (PK pln.sh pln.ex pln.hd pln.md 14 pln.b))) := (Kp.refl _ _).wr (.inl (by simp))
      have hl2 := kl2 _ _ npl hl'
      have hmd2 := kl2 _ _ nmd3 hmd'
      have k02' := wrp k kl2
      have hdv2 : ∀ y ∈ ds, ∃ v pn ns t, valV dkv (.inr y) = some v ∧ Dv [wd, l, p, md] _ v (mkD pn ns t) ∧ HeadOk pn ns ∧ Gen ns 3 t := fun y my => by
        obtain ⟨v, pn, ns, t, a, b, c, d⟩ := hdv y my
        exact ⟨v, pn, ns, t, a, b.kp (f.kS kl2), c, d⟩
      generalize upd H' p (.dK (PK pln.sh pln.ex pln.hd pln.md 14 pln.b)) = H17 at f2 kl2 hl2 hmd2 k02' hdv2 ⊢
      obtain ⟨hvv, ehv, hdvv⟩ := f2.pl.hv y my
      obtain ⟨nyy, hHy⟩ := hO.kn y my
      obtain ⟨ah, xh, rfl, hah, nah, hxh⟩ := Dv.tup_inv hdvv
      have lxh := hxh.length
      refine ⟨_, rfl, p, _, rfl, DGet.k (k := .inr "heads") f2.pk, _, rfl, pln.hd, _, rfl, ehv ▸ DGet.k (k := .inr y) f2.pl.hd, _, rfl, _, rfl, _, rfl, p, _, rfl, DGet.k (k := .inr "heads") f2.pk, _, rfl, pln.hd, _, rfl, ehv ▸ DGet.k (k := .inr y) f2.pl.hd, ?_⟩
      refine ⟨3, Nat.le_refl _, wd, l, p, [wd, l, p, md], pln, C + 70 + i * cT 3, 14, .ref ah, (pln.hget y).1, (pln.hget y).2, rfl, f2, hO, hdvv, hHy, by omega, fun H18 r t n18 k18 f18 hr ht => ⟨by show 1 ≤ sizeLine; decide, fun pt hpt => ?_⟩⟩
      have kt := same_new (o := .tup [r]) hpt
      have h18a := (f2.kS k18) _ _ nah hah
      have f19 := f18.same kt
      refine cat_any (S := [wd, l, p, md]) f19.trk (kt _ _ h18a) nah upd_same (f18.trk.out hpt) (by rw [lxh]; show 2 + 1 ≤ _; decide) fun H20 p20 k20 hp20 np20 => ?_
      have k1720 : Kp [wd, l, p] H17 H20 := k18.trans (Kp.of (kt.trans k20))
      have f20 := f19.same k20
      have hv20 : Dv [wd, l, p, md] H20 (.ref p20) (mkD (pln.hget y).1 (pln.hget y).2 t) := by
        refine .tup hp20 np20 ?_
        exact (hxh.kp (f2.kS k1720)).append (.cons (hr.kp (Kp.of (kt.trans k20))) .nil)
      have hmd20 := k1720 _ _ nmd3 hmd2
      refine ⟨_, rfl, p, _, rfl, DGet.k (k := .inr "made") f20.pk, _, rfl, pln.md, _, rfl, DPut.k (k := .inr y) (emd ▸ hmd20) (by rw [sizeLine_eq]; omega), ?_⟩
      rw [emd]
      have kw : Kp [wd, l, p, md] H20 (upd H20 md (.dK (putK dkv (.inr y) (.ref p20)))) := (Kp.refl _ _).wr (.inl (by simp))
      obtain ⟨ds', e1, e2, e3, e4⟩ := put_keys2 hdk y (.ref p20)
      simp only [List.mem_cons, List.not_mem_nil, or_false, not_or] at nmd3
      refine ⟨_, putK dkv (.inr y) (.ref p20), ds', n18, rfl, (wrp k02' k1720).wr (.inr md0), ?_, ?_, upd_same, e1, by omega, Nat.le_trans (putK_len' _ _ _) (Nat.succ_le_succ hdl2), fun u mu => ?_⟩
      · rw [Nat.add_mul, Nat.one_mul, ← Nat.add_assoc]
        exact f20.put (by simp) nmd3.1 nmd3.2.1 nmd3.2.2
      · rw [upd_ne nplm]
        exact k1720 _ _ npl hl2
      · by_cases e : u = y
        · refine ⟨.ref p20, (pln.hget y).1, (pln.hget y).2, t, by rw [valV_put, if_pos (by rw [e])], hv20.kp kw, hHy, ht⟩
        · rcases e2 u mu with h | h
          · obtain ⟨v, pn, ns, t', a, b, c, d⟩ := hdv2 u h
            exact ⟨v, pn, ns, t', by rw [valV_put, if_neg (fun q : (Sum.inr u : Key) = Sum.inr y => e (Sum.inr.inj q))]; exact a, (b.kp (f2.kS k1720)).kp kw, c, d⟩
          · exact absurd h e
    · rintro σ H17 ⟨x10, dkv, ds, n', rfl, k, f, hl', hmd', hdk, hdl, hdl2, hdv⟩
      rw [List.length_map] at hdl hdl2 f
      have sub3 : ∀ a ∈ [wd, l, p], a ∈ [wd, l, p, md] := fun a z => by
        simp only [List.mem_cons, List.not_mem_nil, or_false] at z ⊢
        rcases z with h | h | h <;> simp [h]
      refine ⟨_, rfl, q H17 p pln n' dkv ds k ((f.sub sub3 (by simp) (by simp) (by simp)).mono (by omega)) hO (emd ▸ nmd3) ⟨emd ▸ hmd', hdk, by omega, by omega, fun y my => ?_⟩⟩
      obtain ⟨v, pn, ns, t, a, b, c, d⟩ := hdv y my
      exact ⟨v, pn, ns, t, a, b.sub sub3, c, d⟩
end
end K19
set_option Elab.async false
set_option linter.all false
set_option maxRecDepth 100000
set_option maxHeartbeats 4000000
/-! k19: the law. -/
namespace K19
open PySem PySem.Spec PyProof.Rows L2 Zg Zr Zd Zv
def zp (ts us : List Tm) : List Tm := (ts.zip us).map fun q => .pick [q.1, q.2]
theorem gen_sm {N : List PySem.Str} {t : Tm} (h : Gen N 2 t) : Sm 876 18 t := ⟨fit_okv h.fit, h.bk, Nat.le_trans h.dp (by decide)⟩
theorem gen_mkr {pn : List (PySem.Str × Int)} {ns : List PySem.Str} {t : Tm} (h : Gen ns 3 t) (hh : HeadOk pn ns) : Mkr pn ns t :=
  ⟨h.fit.mono (by decide), by have := hh.lp; omega, fun p m => by
    obtain ⟨a, b, c⟩ := hh.pp p m
    exact ⟨a, by omega, by omega⟩, by have := hh.ln; omega, hh.nn, ⟨fit_okv h.fit, h.bk, Nat.le_trans h.dp (by decide)⟩, h.pl⟩
theorem pick_sm {a b : Tm} (h1 : Sm 876 18 a) (h2 : Sm 876 18 b) : Sm 1759 20 (.pick [a, b]) := by
  have b1 := h1.bk
  have b2 := h2.bk
  have e1 := h1.dp
  have e2 := h2.dp
  refine ⟨okv_tupI (by show 3 ≤ 1000; decide) fun d hd => ?_, ?_, ?_⟩
  · rcases List.mem_cons.mp (show d ∈ PyData.str "pick" :: datas [a, b] from hd) with rfl | hd
    · decide +kernel
    · obtain ⟨t, ht, rfl⟩ := mem_datas hd
      simp only [List.mem_cons, List.not_mem_nil, or_false] at ht
      rcases ht with rfl | rfl
      · exact h1.ok
      · exact h2.ok
  · rw [bk_pick]
    show a.bk + 1 + (b.bk + 1 + 0) + 5 ≤ 1759
    omega
  · rw [dp_pick]
    show max a.dp (max b.dp 0) + 1 ≤ 20
    omega
theorem sm_up {B B' E E' : Nat} {t : Tm} (h : Sm B E t) (h1 : B ≤ B') (h2 : E ≤ E') : Sm B' E' t := ⟨h.ok, Nat.le_trans h.bk h1, Nat.le_trans h.dp h2⟩
def cL : Nat := 24940
section
variable {P : Program} {w : World} {K : PySem.W.Frag} {mg : PySem.Str → Option Value} {base : Heap}
def sp_law (K : PySem.W.Frag) : Sp := fun vs H Q _ => ∃ (a : Addr) (ns : List Int), vs = [.ref a] ∧ SqL K H a (ns.map V.int) ∧ ns.length ≤ 63 ∧ ∀ (H' : Hp), Q (.bl true) H'
theorem ok_law (T : Txt K mg) : FnG P w K mg base 22 T.a_law T.d_law P_law (sp_law K) := by
  refine okG T.F_law sc_law (fun vs H Q E h => by obtain ⟨a, ns, rfl, _⟩ := h; rfl) (fun cdv A outer s H vs Q hgd hr h => ?_)
  refine ⟨_, (pss_cons (ps_set (i := 1) sc_law.nd rfl (Or.inl rfl) (pe_call (ok_deck T) (hr.mono (by decide)) (by rfl) T.g_deck T.F_deck.kp T.b_deck .nil pass0 (pa_cons (pv 0) pa_nil)))
    (pss_cons (ps_for PassesOwn.never rfl (pi_list (pe_call (ok_by_hand T) (hr.mono (by decide)) (by rfl) T.g_by_hand T.F_by_hand.kp T.b_by_hand .nil pass0 (pa_cons (pv 1) pa_nil))) (pg_tup (by rfl) (pgs_cons (pg_name (i := 2) sc_law.nd rfl (Or.inl rfl)) (pgs_cons (pg_name (i := 3) sc_law.nd rfl (Or.inl rfl)) (pgs_cons (pg_name (i := 4) sc_law.nd rfl (Or.inl rfl)) (pgs_cons (pg_name (i := 5) sc_law.nd rfl (Or.inl rfl)) pgs_nil))))) (pss_one (ps_if (PW.pt (pw_or (pt_cmpR op_ne (pe_callB (cr_reprV (S := []) hgd hr) (by rfl) T.n_repr (by decide +kernel) (pa_cons (pe_call (ok_passed T) (hr.mono (by decide)) (by rfl) T.g_passed T.F_passed.kp T.b_passed .nil pass0 (pa_cons (pv 2) (pa_cons (pv 3) (pa_cons (pv 4) pa_nil)))) pa_nil)) (pe_callB (cr_reprV (S := []) hgd hr) (by rfl) T.n_repr (by decide +kernel) (pa_cons (pv 5) pa_nil)) (nomark _)) (pw_or1 (pt_not (pt_val (pe_callG (ok_right T) hgd (hr.mono (by decide)) (by rfl) T.g_right T.F_right.kp T.b_right .nil (pa_cons (pv 2) (pa_cons (pv 3) (pa_cons (pv 4) pa_nil))))))))) (pss_one (ps_ret pe_bl)) pss_nil)))
    (pss_cons (ps_for PassesOwn.never rfl (pi_range1 (by rfl) T.n_range (pa_cons pe_int pa_nil)) (pg_name (i := 6) sc_law.nd rfl (Or.inl rfl)) (pss_cons (ps_set (i := 7) sc_law.nd rfl (Or.inl rfl) (pe_call (ok_plan T) (hr.mono (by decide)) (by rfl) T.g_plan T.F_plan.kp T.b_plan .nil pass0 (pa_cons (pv 1) pa_nil)))
    (pss_one (ps_for PassesOwn.never rfl (pi_list (pe_callB (call_sortedD rfl) (by rfl) T.n_sorted (by decide +kernel) (pa_cons (pe_dget (hu_of hr) (pv 7) pe_str (fun _ _ => rfl)) pa_nil))) (pg_name (i := 8) sc_law.nd rfl (Or.inl rfl)) (pss_cons (ps_asg (pe_call (ok_given T) (hr.mono (by decide)) (by rfl) T.g_given T.F_given.kp T.b_given .nil pass0 (pa_cons (pv 1) (pa_cons (pv 7) (pa_cons (pe_dget (hu_of hr) (pe_dget (hu_of hr) (pv 7) pe_str (fun _ _ => rfl)) (pv 8) (fun _ _ => rfl)) pa_nil)))) (pg_tup (by rfl) (pgs_cons (pg_name (i := 3) sc_law.nd rfl (Or.inl rfl)) (pgs_cons (pg_name (i := 4) sc_law.nd rfl (Or.inl rfl)) pgs_nil))))
    (pss_one (ps_for PassesOwn.never rfl (pi_range1 (by rfl) T.n_range (pa_cons pe_int pa_nil)) (pg_name (i := 9) sc_law.nd rfl (Or.inl rfl)) (pss_cons (ps_if (pt_not (pt_val (pe_callG (ok_right T) hgd (hr.mono (by decide)) (by rfl) T.g_right T.F_right.kp T.b_right .nil (pa_cons (pe_dget (hu_of hr) (pe_dget (hu_of hr) (pv 7) pe_str (fun _ _ => rfl)) (pv 8) (fun _ _ => rfl)) (pa_cons (pv 3) (pa_cons (pv 4) pa_nil)))))) (pss_one (ps_ret pe_bl)) pss_nil)
    (pss_cons (ps_asg (pe_call (ok_given T) (hr.mono (by decide)) (by rfl) T.g_given T.F_given.kp T.b_given .nil pass0 (pa_cons (pv 1) (pa_cons (pv 7) (pa_cons (pe_dget (hu_of hr) (pe_dget (hu_of hr) (pv 7) pe_str (fun _ _ => rfl)) (pv 8) (fun _ _ => rfl)) pa_nil)))) (pg_tup (by rfl) (pgs_cons (pg_name (i := 3) sc_law.nd rfl (Or.inl rfl)) (pgs_cons (pg_name (i := 10) sc_law.nd rfl (Or.inl rfl)) pgs_nil))))
    (pss_one (ps_set (i := 4) sc_law.nd rfl (Or.inl rfl) (pe_callTy call_tuple_of (by rfl) T.n_tuple (by decide +kernel) (pa_cons (pe_lc (own := [("one", 11), ("other", 12)]) rfl sc_law.nd (RZ.pi_zipA (by rfl) T.n_zip (pa_cons (pv 4) (pa_cons (pv 10) pa_nil))) (blkOk_by (own := [("one", 11), ("other", 12)]) (N := N_law) (sc := defScope s_law) (by decide +kernel)) (fun _ _ _ _ _ => (show PG _ _ (gTup K 2 _) from (pg_tup (by rfl) (pgs_cons (pg_name (i := 11) sc_law.nd rfl (Or.inl rfl)) (pgs_cons (pg_name (i := 12) sc_law.nd rfl (Or.inl rfl)) pgs_nil))))) (fun _ _ _ _ _ => pts_nil) (fun _ _ _ _ _ => (pe_tup (pa_cons pe_str (pa_cons (pv 11) (pa_cons (pv 12) pa_nil)))))) pa_nil)))))))))))))
    (pss_one (ps_ret pe_bl))))), ?_⟩
  obtain ⟨a, ns, rfl, hS, hl, q⟩ := h
  refine ⟨_, rfl, a, ns, rfl, hS, hl, fun H1 wd l k1 hwd hl1 W1 => ?_⟩
  dsimp only [gName]
  refine ⟨_, rfl, wd, l, 0, rfl, W1, by decide, fun H2 pc cs k2 W2 hcs hok lcs => ?_⟩
  obtain ⟨xs, hpc, hxs⟩ : ∃ xs, H2 pc = some (.lst xs) ∧ DvAll [] H2 xs (cs.map Case.data) := by
    cases hcs with
    | lst h _ t => exact ⟨_, h, t⟩
  have lxs := hxs.length
  rw [List.length_map] at lxs
  refine ⟨pc, rfl, ⟨_, SqL.of hpc⟩, ?_⟩
  refine for_list (K := K) (a := pc) (xs := xs) (fun i σ H' => ∃ x2 x3 x4 x5 : Option V, σ = [some (.ref a), some (.ref wd), x2, x3, x4, x5, none, none, none, none, none, none, none] ∧ Same H2 H') ⟨none, none, none, none, rfl, Same.refl _⟩ (fun i σ H' _ ⟨_, _, _, _, _, k⟩ => SqL.of (k _ _ hpc)) ?_ ?_
  · rintro i x σ H' hi ⟨x2, x3, x4, x5, rfl, k⟩
    obtain ⟨d, hd, hdx⟩ := hxs.get hi
    rw [List.getElem?_map] at hd
    cases hc : cs[i]? with
    | none => rw [hc] at hd; cases hd
    | some c =>
    rw [hc] at hd
    cases hd
    have ok := hok c (List.mem_of_getElem? hc)
    obtain ⟨b, ys, rfl, hb, _, hys⟩ := Dv.tup_inv (show Dv [] H2 x (.tuple [mkD c.pn c.ns c.t, .tuple (datas c.fs), .tuple (datas c.ts), c.u.data]) from hdx)
    cases hys with
    | @cons v0 _ _ _ y0 hys =>
    cases hys with
    | @cons v1 _ _ _ y1 hys =>
    cases hys with
    | @cons v2 _ _ _ y2 hys =>
    cases hys with
    | @cons v3 _ _ _ y3 hys =>
    cases hys
    obtain ⟨d1, d2, d3⟩ := due_small ok.mkr ok.fs ok.ts
    have fd := okv_fits d1 d2
    have sd := (okv_short _ d1).2
    rw [ok.eq] at d3 fd sd
    refine ⟨b, _, rfl, SqT.of (k _ _ hb), rfl, _, _, rfl, _, _, rfl, _, _, rfl, _, _, rfl, rfl, ?_⟩
    refine ⟨_, rfl, _, rfl, _, rfl, v0, v1, v2, c.pn, c.ns, c.t, c.fs, c.ts, rfl, y0.kp (Kp.of k), y1.kp (Kp.of k), y2.kp (Kp.of k), ok.mkr.fit, (fun f m => (ok.fs f m).1), ok.len, by have := ok.mkr.lpn; omega, by have := ok.mkr.lns; omega, fun H3 r k3 hr3 => ?_⟩
    rw [ok.eq] at hr3
    have k23 := k.trans k3
    refine ⟨r, c.u.data, rfl, hr3, sd, d3, fd, _, rfl, v3, c.u.data, rfl, y3.kp (Kp.of k23), sd, d3, fd, ?_⟩
    refine ⟨rfl, _, rfl, ite2 (fun e => absurd e (by simp)) (fun _ => ?_)⟩
    refine ⟨_, rfl, _, rfl, _, rfl, v0, v1, v2, c.pn, c.ns, c.t, c.fs, c.ts, rfl, y0.kp (Kp.of k23), y1.kp (Kp.of k23), y2.kp (Kp.of k23), ok.mkr, ok.fs, ok.ts, ok.len, ok.lf, ok.lt, fun H4 k4 => ⟨true, rfl, ite2 (fun e => nomatch e) (fun _ => ?_)⟩⟩
    exact ⟨_, _, _, _, rfl, k23.trans k4⟩
  · rintro σ H3 ⟨x2, x3, x4, x5, rfl, k3⟩
    dsimp only []
    have W3 := W2.same k3
    have c2 : 5 * cT 2 = 1550 := rfl
    have c3 : cP = 6340 := rfl
    have hL : LIM = 1000000000 := rfl
    refine ⟨4, rfl, by decide, by decide, ?_⟩
    rw [show (4 : Int).toNat = 4 from rfl]
    refine for_it (J := Itr 0 4) (walk_range (lo := 0) (n := 4)) (fun i σ H' => ∃ x2 x3 x4 x5 x6 x7 x8 x9 x10 : Option V, σ = [some (.ref a), some (.ref wd), x2, x3, x4, x5, x6, x7, x8, x9, x10, none, none] ∧ Well H' wd l (1 + i * cL)) ⟨x2, x3, x4, x5, none, none, none, none, none, rfl, W3⟩ (fun _ _ _ _ _ => trivial) ?_ ?_
    · rintro i x σ H' H'' hi ⟨x2, x3, x4, x5, x6, x7, x8, x9, x10, rfl, W⟩ ⟨rfl, rfl⟩
      have hci : i * cL ≤ 3 * cL := Nat.mul_le_mul_right _ (by omega)
      have hcL : cL = 24940 := rfl
      refine ⟨_, rfl, wd, l, 1 + i * cL, rfl, W, by omega, fun H5 p pl n dkv ms k5 f5 hO nmd hM => ?_⟩
      dsimp only [gName]
      have hm4 := hM.m64
      refine ⟨_, rfl, p, _, rfl, DGet.k (k := .inr "made") f5.pk, pl.md, dkv, ms, rfl, .inl hM.md, hM.mks, by omega, fun ys pn hp _ hpn => ?_⟩
      have kn := same_new (o := .lst (ys.map V.str)) hpn
      have lys := hp.length_eq
      have npn : pn ∉ [wd, l, p] := f5.trk.out hpn
      have hpn1 : (upd H5 pn (.lst (ys.map V.str))) pn = some (.lst (ys.map V.str)) := upd_same
      refine ⟨pn, rfl, ⟨_, SqL.of upd_same⟩, ?_⟩
      have f6 := f5.same kn
      have k56 : Kp [wd, l, p] H5 (upd H5 pn (.lst (ys.map V.str))) := Kp.of kn
      generalize upd H5 pn (.lst (ys.map V.str)) = H6 at hpn1 f6 k56 ⊢
      refine for_list (K := K) (a := pn) (xs := ys.map V.str) (fun j σ H' => ∃ (x3 x4 x8 x9 x10 : Option V) (n' : Int), σ = [some (.ref a), some (.ref wd), x2, x3, x4, x5, some (.int (0 + (i : Int))), some (.ref p), x8, x9, x10, none, none] ∧ Kp [wd, l, p] H5 H' ∧ Fr [wd, l, p] H' wd l p pl (1 + i * cL + cP + j * 4650) n' ∧ H' pn = some (.lst (ys.map V.str)))
        ⟨x3, x4, x8, x9, x10, n, rfl, k56, by rw [Nat.zero_mul]; exact f6, hpn1⟩ (fun j σ H' _ ⟨_, _, _, _, _, _, _, _, _, h⟩ => SqL.of h) ?_ ?_
      · rintro j x σ H7 hj ⟨x3, x4, x8, x9, x10, n7, rfl, k7, f7, hpn7⟩
        rw [List.getElem?_map] at hj
        cases hq : ys[j]? with
        | none => rw [hq] at hj; cases hj
        | some y =>
        rw [hq] at hj
        cases hj
        have my := hp.mem_iff.mp (List.mem_of_getElem? hq)
        have hjl : j < ys.length := (List.getElem?_eq_some_iff.mp hq).1
        obtain ⟨v, pnn, nns, t, e1, hv, hH, hG⟩ := hM.at' y my
        have hMk := gen_mkr hG hH
        have hj2 : j * 4650 ≤ 3 * 4650 := Nat.mul_le_mul_right _ (by omega)
        have lpn := hH.lp
        have lns := hH.ln
        refine ⟨_, rfl, _, rfl, _, rfl, p, _, rfl, DGet.k (k := .inr "made") f7.pk, _, rfl, pl.md, _, rfl, e1 ▸ DGet.k (k := .inr y) (k7 _ _ nmd hM.md), wd, l, p, [wd, l, p], pl, 1 + i * cL + cP + j * 4650, n7, v, pnn, nns, t, rfl, f7, hO, hv.kp k7, hH, by omega, fun H8 a8 fs ts n8 k8 f8 hd8 lf8 lt8 hfs8 hts8 => ?_⟩
        obtain ⟨a8', x8', e8, ha8, na8, hx8⟩ := hd8.tup_inv
        cases e8
        cases hx8 with
        | @cons u0 _ _ _ z0 hx8 =>
        cases hx8 with
        | @cons u1 _ _ _ z1 hx8 =>
        cases hx8
        refine ⟨a8, _, rfl, SqT.of ha8, rfl, _, _, rfl, _, _, rfl, rfl, ?_⟩
        dsimp only [gName]
        refine ⟨2, rfl, by decide, by decide, ?_⟩
        rw [show (2 : Int).toNat = 2 from rfl]
        refine for_it (J := Itr 0 2) (walk_range (lo := 0) (n := 2)) (fun r σ H' => ∃ (x9 x10 : Option V) (vf vt : V) (fs ts : List Tm) (n' : Int), σ = [some (.ref a), some (.ref wd), x2, some vf, some vt, x5, some (.int (0 + (i : Int))), some (.ref p), some (.str y), x9, x10, none, none] ∧ Kp [wd, l, p] H5 H' ∧ Fr [wd, l, p] H' wd l p pl (1 + i * cL + cP + j * 4650 + 1550 + r * 1550) n' ∧ H' pn = some (.lst (ys.map V.str)) ∧ Dv [wd, l, p] H' vf (.tuple (datas fs)) ∧ Dv [wd, l, p] H' vt (.tuple (datas ts)) ∧ fs.length = pnn.length ∧ ts.length = nns.length ∧ (∀ f ∈ fs, Gen [] 2 f ∧ FunV f) ∧ (r = 0 → ∀ u ∈ ts, Sm 876 18 u) ∧ (r ≤ 1 → ∀ u ∈ ts, Sm 1759 20 u))
          ⟨x9, x10, u0, u1, fs, ts, n8, rfl, k7.trans k8, f8, k8 _ _ npn hpn7, z0, z1, lf8, lt8, hfs8, (fun _ u m => gen_sm (hts8 u m)), fun _ u m => sm_up (gen_sm (hts8 u m)) (by decide) (by decide)⟩ (fun _ _ _ _ _ => trivial) ?_ ?_
        · rintro r x σ H9 H9' hr ⟨x9, x10, vf, vt, fs, ts, n9, rfl, k9, f9, hpn9, hvf, hvt, lf, lt, hfs, hs0, hs1⟩ ⟨rfl, rfl⟩
          have nil : ∀ b ∈ ([] : List Addr), b ∈ [wd, l, p] := fun b m => nomatch m
          refine ⟨_, rfl, p, _, rfl, DGet.k (k := .inr "made") f9.pk, _, rfl, pl.md, _, rfl, e1 ▸ DGet.k (k := .inr y) (k9 _ _ nmd hM.md), _, rfl, _, rfl, v, vf, vt, pnn, nns, t, fs, ts, rfl, (hv.kp k9).sub nil, hvf.sub nil, hvt.sub nil, hMk, (fun f m => ⟨(hfs f m).2, sm_up (gen_sm (hfs f m).1) (by decide) (by decide)⟩), hs1 (by omega), by omega, by omega, by omega, fun H10 k10 => ⟨true, rfl, ite2 (fun e => nomatch e) (fun _ => ?_)⟩⟩
          dsimp only [tNext]
          have f10 := f9.same k10
          have k510 := k9.trans (Kp.of k10)
          have hr2 : r * 1550 ≤ 1 * 1550 := Nat.mul_le_mul_right _ (by omega)
          refine ⟨_, rfl, _, rfl, _, rfl, p, _, rfl, DGet.k (k := .inr "made") f10.pk, _, rfl, pl.md, _, rfl, e1 ▸ DGet.k (k := .inr y) (k510 _ _ nmd hM.md), wd, l, p, [wd, l, p], pl, 1 + i * cL + cP + j * 4650 + 1550 + r * 1550, n9, v, pnn, nns, t, rfl, f10, hO, hv.kp k510, hH, by omega, fun H11 a11 fs2 us n11 k11 f11 hd11 lf11 lt11 hfs11 hus11 => ?_⟩
          obtain ⟨a11', x11', e11, ha11, na11, hx11⟩ := hd11.tup_inv
          cases e11
          cases hx11 with
          | @cons w0 _ _ _ c0 hx11 =>
          cases hx11 with
          | @cons w1 _ _ _ c1 hx11 =>
          cases hx11
          refine ⟨a11, _, rfl, SqT.of ha11, rfl, _, _, rfl, _, _, rfl, rfl, ?_⟩
          dsimp only [gName]
          have hvt11 := (hvt.kp (Kp.of k10)).kp k11
          obtain ⟨pt, xt, rfl, hpt, npt, hxt⟩ := hvt11.tup_inv
          obtain ⟨pu, xu, rfl, hpu, npu, hxu⟩ := c1.tup_inv
          have lxt := hxt.length
          have lxu := hxu.length
          rw [datas_len] at lxt lxu
          have k511 := k510.trans k11
          refine ⟨_, rfl, _, rfl, pt, pu, _, _, rfl, .inr ⟨SqT.of hpt, SqT.of hpu, fun D hD => ?_⟩⟩
          have nD := f11.trk.out hD
          have lzp : (zp ts us).length = nns.length := by
            unfold zp
            rw [List.length_map, List.length_zip]
            omega
          refine lc_it (walk_zipT (n := (zp ts us).length) (by unfold zp; rw [List.length_map, List.length_zip, lxt, lxu])) (fun i H' => ∃ zs, Same H11 H' ∧ H' D = some (.lst zs) ∧ DvAll (D :: [wd, l, p]) H' zs (datas ((zp ts us).take i)) ∧ zs.length ≤ i) ⟨[], same_new hD, upd_same, .nil, Nat.le_refl _⟩ (fun i H' _ ⟨_, k, _⟩ => ⟨SqT.of (k _ _ hpt), SqT.of (k _ _ hpu)⟩) ?_ ?_
          · rintro g x H' H2' hg ⟨zs, k, hDl, hzs, hzl⟩ ⟨T', y', z', rfl, hT, rfl, hy, hz⟩
            dsimp only [] at hy hz
            obtain ⟨dy, e3, hdy⟩ := hxt.get hy
            obtain ⟨dz, e4, hdz⟩ := hxu.get hz
            rw [datas_map, List.getElem?_map] at e3 e4
            cases hty : ts[g]? with
            | none => rw [hty] at e3; cases e3
            | some ty =>
            cases htz : us[g]? with
            | none => rw [htz] at e4; cases e4
            | some tz =>
            rw [hty] at e3
            rw [htz] at e4
            cases e3
            cases e4
            have kT := same_new (o := .tup [y', z']) hT
            have hDT := kT _ _ hDl
            refine ⟨T', _, rfl, SqT.of upd_same, rfl, _, _, rfl, _, _, rfl, rfl, rfl, _, rfl, _, rfl, by show 3 ≤ sizeLine; decide, fun pq hpq => ?_⟩
            have kq := same_new (o := .tup [.str "pick", y', z']) hpq
            have hDq := kq _ _ hDT
            have kk := k.trans (kT.trans kq)
            have nq : pq ∉ D :: [wd, l, p] := fun m => by
              rcases List.mem_cons.mp m with rfl | m
              · rw [hDT] at hpq; cases hpq
              · exact ((f11.trk.same k).same kT).out hpq m
            have kw : Kp (D :: [wd, l, p]) (upd (upd H' T' (.tup [y', z'])) pq (.tup [.str "pick", y', z'])) (upd (upd (upd H' T' (.tup [y', z'])) pq (.tup [.str "pick", y', z'])) D (.lst (zs ++ [.ref pq]))) := (Kp.refl _ _).wr (.inl List.mem_cons_self)
            refine ⟨zs, hDq, by rw [sizeLine_eq]; omega, zs ++ [.ref pq], same_put kk hD, upd_same, ?_, by rw [List.length_append, List.length_singleton]; omega⟩
            have ez : (zp ts us)[g]? = some (.pick [ty, tz]) := by
              unfold zp
              rw [List.getElem?_map, List.getElem?_zip_eq_some.mpr (show ts[g]? = some (ty, tz).1 ∧ us[g]? = some (ty, tz).2 from ⟨hty, htz⟩)]
              rfl
            rw [List.take_succ, ez]
            show DvAll _ _ _ (datas (_ ++ [_]))
            rw [datas_append]
            refine ((hzs.kp (Kp.of (kT.trans kq))).kp kw).append (.cons (Dv.kp kw ?_) .nil)
            exact .tup upd_same nq (.cons (.str _) (.cons ((hdy.fresh hD).kp (Kp.of kk)) (.cons ((hdz.fresh hD).kp (Kp.of kk)) .nil)))
          · rintro H12 ⟨zs, k12, hD12, hzs, hzl⟩
            rw [List.take_length] at hzs
            refine ⟨D, zs, rfl, .inl ⟨SqL.of hD12, fun pe hpe => ?_⟩⟩
            have ke := same_new (o := .tup zs) hpe
            have k1113 := k12.trans ke
            have hzs' := hzs.sub (S' := [wd, l, p]) fun b m => List.mem_cons_of_mem _ m
            have f13 := f11.same k1113
            refine ⟨_, _, w0, .ref pe, fs2, zp ts us, n11, rfl, k511.trans (Kp.of k1113), ?_, k1113 _ _ (k11 _ _ npn (k10 _ _ hpn9)), c0.kp (Kp.of k1113), .tup upd_same ((f11.same k12).trk.out hpe) (hzs'.kp (Kp.of ke)), lf11, lzp, hfs11, fun e => absurd e (Nat.succ_ne_zero _), fun e u mu => ?_⟩
            · exact f13.mono (by rw [Nat.add_mul]; omega)
            · obtain ⟨qq, mq, rfl⟩ := List.mem_map.mp mu
              obtain ⟨m1, m2⟩ := List.of_mem_zip mq
              exact pick_sm (hs0 (by omega) _ m1) (gen_sm (hus11 _ m2))
        · rintro σ H9 ⟨x9, x10, vf, vt, fs, ts, n9, rfl, k9, f9, hpn9, hvf, hvt, lf, lt, hfs, hs0, hs1⟩
          exact ⟨_, _, _, _, _, n9, rfl, k9, f9.mono (by rw [Nat.add_mul]; omega), hpn9⟩
      · rintro σ H7 ⟨x3, x4, x8, x9, x10, n7, rfl, k7, f7, hpn7⟩
        rw [List.length_map] at f7
        have h46 : ys.length * 4650 ≤ 4 * 4650 := Nat.mul_le_mul_right _ (by omega)
        exact ⟨x2, x3, x4, x5, _, _, x8, x9, x10, rfl, f7.well.mono (by rw [Nat.add_mul]; omega)⟩
    · rintro σ H4 ⟨x2, x3, x4, x5, x6, x7, x8, x9, x10, rfl, W⟩
      exact q H4
end
end K19
set_option Elab.async false
set_option linter.all false
set_option maxRecDepth 100000
set_option maxHeartbeats 4000000
/-! k19: the end. -/
namespace K19
open PySem PySem.Spec PyProof.Rows L2 Zg Zr Zd Zv
theorem all_mk {l : PySem.W.OpenLaw} {w : World} {K : PySem.W.Frag} {h : Heap} {mg : PySem.Str → Option Value} {fa f0 f1 f2 f3 f4 f5 f6 f7 f8 f9 f10 f11 f12 f13 f14 f15 f16 f17 f18 f19 f20 f21 f22 : Addr} (X : K.In h) (G : h.Ns mainGlobals mg) (hfa : mg "law" = some (.ref fa))
    {od0 an0 od1 an1 od2 an2 od3 an3 od4 an4 od5 an5 od6 an6 od7 an7 od8 an8 od9 an9 od10 an10 od11 an11 od12 an12 od13 an13 od14 an14 od15 an15 od16 an16 od17 an17 od18 an18 od19 an19 od20 an20 od21 an21 od22 an22 : Option Addr} {sl0 sl1 sl2 sl3 sl4 sl5 sl6 sl7 sl8 sl9 sl10 sl11 sl12 sl13 sl14 sl15 sl16 sl17 sl18 sl19 sl20 sl21 sl22 : Array (Option Value)} {oc0 kV0 dc0 pm0 cd0 ct0 oc1 kV1 dc1 pm1 cd1 ct1 oc2 kV2 dc2 pm2 cd2 ct2 oc3 kV3 dc3 pm3 cd3 ct3 oc4 kV4 dc4 pm4 cd4 ct4 oc5 kV5 dc5 pm5 cd5 ct5 oc6 kV6 dc6 pm6 cd6 ct6 oc7 kV7 dc7 pm7 cd7 ct7 oc8 kV8 dc8 pm8 cd8 ct8 oc9 kV9 dc9 pm9 cd9 ct9 oc10 kV10 dc10 pm10 cd10 ct10 oc11 kV11 dc11 pm11 cd11 ct11 oc12 kV12 dc12 pm12 cd12 ct12 oc13 kV13 dc13 pm13 cd13 ct13 oc14 kV14 dc14 pm14 cd14 ct14 oc15 kV15 dc15 pm15 cd15 ct15 oc16 kV16 dc16 pm16 cd16 ct16 oc17 kV17 dc17 pm17 cd17 ct17 oc18 kV18 dc18 pm18 cd18 ct18 oc19 kV19 dc19 pm19 cd19 ct19 oc20 kV20 dc20 pm20 cd20 ct20 oc21 kV21 dc21 pm21 cd21 ct21 oc22 kV22 dc22 pm22 cd22 ct22 : Value}
    (a0 : PySem.W.nsIn K mainGlobals "call_of" = some (some (.ref f0))) (l0 : K.lookup f0 = some ⟨oc0, od0, .func (PySem.W.fnOf "call_of" "call_of" (defArgs s_call_of) (defBody s_call_of) (defScope s_call_of) .none kV0 dc0 pm0 an0 cd0 ct0), sl0⟩) (c0 : PySem.W.codeIn K cd0 "call_of" = true) (k0 : PySem.W.keepIn K (.ref f0) = true)
    (a1 : PySem.W.nsIn K mainGlobals "named_with" = some (some (.ref f1))) (l1 : K.lookup f1 = some ⟨oc1, od1, .func (PySem.W.fnOf "named_with" "named_with" (defArgs s_named_with) (defBody s_named_with) (defScope s_named_with) .none kV1 dc1 pm1 an1 cd1 ct1), sl1⟩) (c1 : PySem.W.codeIn K cd1 "named_with" = true) (k1 : PySem.W.keepIn K (.ref f1) = true)
    (a2 : PySem.W.nsIn K mainGlobals "term_with" = some (some (.ref f2))) (l2 : K.lookup f2 = some ⟨oc2, od2, .func (PySem.W.fnOf "term_with" "term_with" (defArgs s_term_with) (defBody s_term_with) (defScope s_term_with) .none kV2 dc2 pm2 an2 cd2 ct2), sl2⟩) (c2 : PySem.W.codeIn K cd2 "term_with" = true) (k2 : PySem.W.keepIn K (.ref f2) = true)
    (a3 : PySem.W.nsIn K mainGlobals "passed" = some (some (.ref f3))) (l3 : K.lookup f3 = some ⟨oc3, od3, .func (PySem.W.fnOf "passed" "passed" (defArgs s_passed) (defBody s_passed) (defScope s_passed) .none kV3 dc3 pm3 an3 cd3 ct3), sl3⟩) (c3 : PySem.W.codeIn K cd3 "passed" = true) (k3 : PySem.W.keepIn K (.ref f3) = true)
    (a4 : PySem.W.nsIn K mainGlobals "_law_deck" = some (some (.ref f4))) (l4 : K.lookup f4 = some ⟨oc4, od4, .func (PySem.W.fnOf "_law_deck" "_law_deck" (defArgs s_deck) (defBody s_deck) (defScope s_deck) .none kV4 dc4 pm4 an4 cd4 ct4), sl4⟩) (c4 : PySem.W.codeIn K cd4 "_law_deck" = true) (k4 : PySem.W.keepIn K (.ref f4) = true)
    (a5 : PySem.W.nsIn K mainGlobals "_law_draw" = some (some (.ref f5))) (l5 : K.lookup f5 = some ⟨oc5, od5, .func (PySem.W.fnOf "_law_draw" "_law_draw" (defArgs s_draw) (defBody s_draw) (defScope s_draw) .none kV5 dc5 pm5 an5 cd5 ct5), sl5⟩) (c5 : PySem.W.codeIn K cd5 "_law_draw" = true) (k5 : PySem.W.keepIn K (.ref f5) = true)
    (a6 : PySem.W.nsIn K mainGlobals "_law_pick" = some (some (.ref f6))) (l6 : K.lookup f6 = some ⟨oc6, od6, .func (PySem.W.fnOf "_law_pick" "_law_pick" (defArgs s_pick) (defBody s_pick) (defScope s_pick) .none kV6 dc6 pm6 an6 cd6 ct6), sl6⟩) (c6 : PySem.W.codeIn K cd6 "_law_pick" = true) (k6 : PySem.W.keepIn K (.ref f6) = true)
    (a7 : PySem.W.nsIn K mainGlobals "_law_some" = some (some (.ref f7))) (l7 : K.lookup f7 = some ⟨oc7, od7, .func (PySem.W.fnOf "_law_some" "_law_some" (defArgs s_some) (defBody s_some) (defScope s_some) .none kV7 dc7 pm7 an7 cd7 ct7), sl7⟩) (c7 : PySem.W.codeIn K cd7 "_law_some" = true) (k7 : PySem.W.keepIn K (.ref f7) = true)
    (a8 : PySem.W.nsIn K mainGlobals "_law_shop" = some (some (.ref f8))) (l8 : K.lookup f8 = some ⟨oc8, od8, .func (PySem.W.fnOf "_law_shop" "_law_shop" (defArgs s_shop) (defBody s_shop) (defScope s_shop) .none kV8 dc8 pm8 an8 cd8 ct8), sl8⟩) (c8 : PySem.W.codeIn K cd8 "_law_shop" = true) (k8 : PySem.W.keepIn K (.ref f8) = true)
    (a9 : PySem.W.nsIn K mainGlobals "_law_leads" = some (some (.ref f9))) (l9 : K.lookup f9 = some ⟨oc9, od9, .func (PySem.W.fnOf "_law_leads" "_law_leads" (defArgs s_leads) (defBody s_leads) (defScope s_leads) .none kV9 dc9 pm9 an9 cd9 ct9), sl9⟩) (c9 : PySem.W.codeIn K cd9 "_law_leads" = true) (k9 : PySem.W.keepIn K (.ref f9) = true)
    (a10 : PySem.W.nsIn K mainGlobals "_law_from" = some (some (.ref f10))) (l10 : K.lookup f10 = some ⟨oc10, od10, .func (PySem.W.fnOf "_law_from" "_law_from" (defArgs s_from) (defBody s_from) (defScope s_from) .none kV10 dc10 pm10 an10 cd10 ct10), sl10⟩) (c10 : PySem.W.codeIn K cd10 "_law_from" = true) (k10 : PySem.W.keepIn K (.ref f10) = true)
    (a11 : PySem.W.nsIn K mainGlobals "_law_plan" = some (some (.ref f11))) (l11 : K.lookup f11 = some ⟨oc11, od11, .func (PySem.W.fnOf "_law_plan" "_law_plan" (defArgs s_plan) (defBody s_plan) (defScope s_plan) .none kV11 dc11 pm11 an11 cd11 ct11), sl11⟩) (c11 : PySem.W.codeIn K cd11 "_law_plan" = true) (k11 : PySem.W.keepIn K (.ref f11) = true)
    (a12 : PySem.W.nsIn K mainGlobals "_law_parameters" = some (some (.ref f12))) (l12 : K.lookup f12 = some ⟨oc12, od12, .func (PySem.W.fnOf "_law_parameters" "_law_parameters" (defArgs s_parameters) (defBody s_parameters) (defScope s_parameters) .none kV12 dc12 pm12 an12 cd12 ct12), sl12⟩) (c12 : PySem.W.codeIn K cd12 "_law_parameters" = true) (k12 : PySem.W.keepIn K (.ref f12) = true)
    (a13 : PySem.W.nsIn K mainGlobals "_law_leaf" = some (some (.ref f13))) (l13 : K.lookup f13 = some ⟨oc13, od13, .func (PySem.W.fnOf "_law_leaf" "_law_leaf" (defArgs s_leaf) (defBody s_leaf) (defScope s_leaf) .none kV13 dc13 pm13 an13 cd13 ct13), sl13⟩) (c13 : PySem.W.codeIn K cd13 "_law_leaf" = true) (k13 : PySem.W.keepIn K (.ref f13) = true)
    (a14 : PySem.W.nsIn K mainGlobals "_law_task" = some (some (.ref f14))) (l14 : K.lookup f14 = some ⟨oc14, od14, .func (PySem.W.fnOf "_law_task" "_law_task" (defArgs s_task) (defBody s_task) (defScope s_task) .none kV14 dc14 pm14 an14 cd14 ct14), sl14⟩) (c14 : PySem.W.codeIn K cd14 "_law_task" = true) (k14 : PySem.W.keepIn K (.ref f14) = true)
    (a15 : PySem.W.nsIn K mainGlobals "_law_function" = some (some (.ref f15))) (l15 : K.lookup f15 = some ⟨oc15, od15, .func (PySem.W.fnOf "_law_function" "_law_function" (defArgs s_function) (defBody s_function) (defScope s_function) .none kV15 dc15 pm15 an15 cd15 ct15), sl15⟩) (c15 : PySem.W.codeIn K cd15 "_law_function" = true) (k15 : PySem.W.keepIn K (.ref f15) = true)
    (a16 : PySem.W.nsIn K mainGlobals "_law_is_term" = some (some (.ref f16))) (l16 : K.lookup f16 = some ⟨oc16, od16, .func (PySem.W.fnOf "_law_is_term" "_law_is_term" (defArgs s_is_term) (defBody s_is_term) (defScope s_is_term) .none kV16 dc16 pm16 an16 cd16 ct16), sl16⟩) (c16 : PySem.W.codeIn K cd16 "_law_is_term" = true) (k16 : PySem.W.keepIn K (.ref f16) = true)
    (a17 : PySem.W.nsIn K mainGlobals "_law_put" = some (some (.ref f17))) (l17 : K.lookup f17 = some ⟨oc17, od17, .func (PySem.W.fnOf "_law_put" "_law_put" (defArgs s_put) (defBody s_put) (defScope s_put) .none kV17 dc17 pm17 an17 cd17 ct17), sl17⟩) (c17 : PySem.W.codeIn K cd17 "_law_put" = true) (k17 : PySem.W.keepIn K (.ref f17) = true)
    (a18 : PySem.W.nsIn K mainGlobals "_law_body" = some (some (.ref f18))) (l18 : K.lookup f18 = some ⟨oc18, od18, .func (PySem.W.fnOf "_law_body" "_law_body" (defArgs s_body) (defBody s_body) (defScope s_body) .none kV18 dc18 pm18 an18 cd18 ct18), sl18⟩) (c18 : PySem.W.codeIn K cd18 "_law_body" = true) (k18 : PySem.W.keepIn K (.ref f18) = true)
    (a19 : PySem.W.nsIn K mainGlobals "_law_given" = some (some (.ref f19))) (l19 : K.lookup f19 = some ⟨oc19, od19, .func (PySem.W.fnOf "_law_given" "_law_given" (defArgs s_given) (defBody s_given) (defScope s_given) .none kV19 dc19 pm19 an19 cd19 ct19), sl19⟩) (c19 : PySem.W.codeIn K cd19 "_law_given" = true) (k19 : PySem.W.keepIn K (.ref f19) = true)
    (a20 : PySem.W.nsIn K mainGlobals "_law_right" = some (some (.ref f20))) (l20 : K.lookup f20 = some ⟨oc20, od20, .func (PySem.W.fnOf "_law_right" "_law_right" (defArgs s_right) (defBody s_right) (defScope s_right) .none kV20 dc20 pm20 an20 cd20 ct20), sl20⟩) (c20 : PySem.W.codeIn K cd20 "_law_right" = true) (k20 : PySem.W.keepIn K (.ref f20) = true)
    (a21 : PySem.W.nsIn K mainGlobals "_law_by_hand" = some (some (.ref f21))) (l21 : K.lookup f21 = some ⟨oc21, od21, .func (PySem.W.fnOf "_law_by_hand" "_law_by_hand" (defArgs s_by_hand) (defBody s_by_hand) (defScope s_by_hand) .none kV21 dc21 pm21 an21 cd21 ct21), sl21⟩) (c21 : PySem.W.codeIn K cd21 "_law_by_hand" = true) (k21 : PySem.W.keepIn K (.ref f21) = true)
    (a22 : PySem.W.nsIn K mainGlobals "law" = some (some (.ref f22))) (l22 : K.lookup f22 = some ⟨oc22, od22, .func (PySem.W.fnOf "law" "law" (defArgs s_law) (defBody s_law) (defScope s_law) .none kV22 dc22 pm22 an22 cd22 ct22), sl22⟩) (c22 : PySem.W.codeIn K cd22 "law" = true) (k22 : PySem.W.keepIn K (.ref f22) = true)
    (z_dict : PySem.W.nsIn K mainGlobals "dict" = some none)
    (z_int : PySem.W.nsIn K mainGlobals "int" = some none)
    (z_isinstance : PySem.W.nsIn K mainGlobals "isinstance" = some none)
    (z_len : PySem.W.nsIn K mainGlobals "len" = some none)
    (z_list : PySem.W.nsIn K mainGlobals "list" = some none)
    (z_range : PySem.W.nsIn K mainGlobals "range" = some none)
    (z_repr : PySem.W.nsIn K mainGlobals "repr" = some none)
    (z_sorted : PySem.W.nsIn K mainGlobals "sorted" = some none)
    (z_str : PySem.W.nsIn K mainGlobals "str" = some none)
    (z_sum : PySem.W.nsIn K mainGlobals "sum" = some none)
    (z_tuple : PySem.W.nsIn K mainGlobals "tuple" = some none)
    (z_zip : PySem.W.nsIn K mainGlobals "zip" = some none)
    : ∃ fd : FuncData, (∀ (s : Shared) (v : Value), BindsTo s fd ⟨[v], []⟩ [("script", v)]) ∧ ∀ base : Heap, K.In base → base.Ns mainGlobals mg → FnG l.prog w K mg base 22 fa fd ["script"] (sp_law K) := by
  have e := hfa.symm.trans (PySem.W.mg_of X G a22)
  cases e
  have F0 := fun_mk (st := s_call_of) l0 c0 k0
  have b0 := F0.binds (ps := P_call_of) fun _ _ _ _ _ _ us hl => match us, hl with | [_, _], _ => rfl
  have F1 := fun_mk (st := s_named_with) l1 c1 k1
  have b1 := F1.binds (ps := P_named_with) fun _ _ _ _ _ _ us hl => match us, hl with | [_, _, _], _ => rfl
  have F2 := fun_mk (st := s_term_with) l2 c2 k2
  have b2 := F2.binds (ps := P_term_with) fun _ _ _ _ _ _ us hl => match us, hl with | [_, _, _], _ => rfl
  have F3 := fun_mk (st := s_passed) l3 c3 k3
  have b3 := F3.binds (ps := P_passed) fun _ _ _ _ _ _ us hl => match us, hl with | [_, _, _], _ => rfl
  have F4 := fun_mk (st := s_deck) l4 c4 k4
  have b4 := F4.binds (ps := P_deck) fun _ _ _ _ _ _ us hl => match us, hl with | [_], _ => rfl
  have F5 := fun_mk (st := s_draw) l5 c5 k5
  have b5 := F5.binds (ps := P_draw) fun _ _ _ _ _ _ us hl => match us, hl with | [_, _], _ => rfl
  have F6 := fun_mk (st := s_pick) l6 c6 k6
  have b6 := F6.binds (ps := P_pick) fun _ _ _ _ _ _ us hl => match us, hl with | [_, _], _ => rfl
  have F7 := fun_mk (st := s_some) l7 c7 k7
  have b7 := F7.binds (ps := P_some) fun _ _ _ _ _ _ us hl => match us, hl with | [_, _, _], _ => rfl
  have F8 := fun_mk (st := s_shop) l8 c8 k8
  have b8 := F8.binds (ps := P_shop) fun _ _ _ _ _ _ us hl => match us, hl with | [_, _], _ => rfl
  have F9 := fun_mk (st := s_leads) l9 c9 k9
  have b9 := F9.binds (ps := P_leads) fun _ _ _ _ _ _ us hl => match us, hl with | [_], _ => rfl
  have F10 := fun_mk (st := s_from) l10 c10 k10
  have b10 := F10.binds (ps := P_from) fun _ _ _ _ _ _ us hl => match us, hl with | [_, _], _ => rfl
  have F11 := fun_mk (st := s_plan) l11 c11 k11
  have b11 := F11.binds (ps := P_plan) fun _ _ _ _ _ _ us hl => match us, hl with | [_], _ => rfl
  have F12 := fun_mk (st := s_parameters) l12 c12 k12
  have b12 := F12.binds (ps := P_parameters) fun _ _ _ _ _ _ us hl => match us, hl with | [_, _, _], _ => rfl
  have F13 := fun_mk (st := s_leaf) l13 c13 k13
  have b13 := F13.binds (ps := P_leaf) fun _ _ _ _ _ _ us hl => match us, hl with | [_, _], _ => rfl
  have F14 := fun_mk (st := s_task) l14 c14 k14
  have b14 := F14.binds (ps := P_task) fun _ _ _ _ _ _ us hl => match us, hl with | [_, _, _, _], _ => rfl
  have F15 := fun_mk (st := s_function) l15 c15 k15
  have b15 := F15.binds (ps := P_function) fun _ _ _ _ _ _ us hl => match us, hl with | [_, _, _, _, _], _ => rfl
  have F16 := fun_mk (st := s_is_term) l16 c16 k16
  have b16 := F16.binds (ps := P_is_term) fun _ _ _ _ _ _ us hl => match us, hl with | [_], _ => rfl
  have F17 := fun_mk (st := s_put) l17 c17 k17
  have b17 := F17.binds (ps := P_put) fun _ _ _ _ _ _ us hl => match us, hl with | [_, _, _], _ => rfl
  have F18 := fun_mk (st := s_body) l18 c18 k18
  have b18 := F18.binds (ps := P_body) fun _ _ _ _ _ _ us hl => match us, hl with | [_, _, _], _ => rfl
  have F19 := fun_mk (st := s_given) l19 c19 k19
  have b19 := F19.binds (ps := P_given) fun _ _ _ _ _ _ us hl => match us, hl with | [_, _, _], _ => rfl
  have F20 := fun_mk (st := s_right) l20 c20 k20
  have b20 := F20.binds (ps := P_right) fun _ _ _ _ _ _ us hl => match us, hl with | [_, _, _], _ => rfl
  have F21 := fun_mk (st := s_by_hand) l21 c21 k21
  have b21 := F21.binds (ps := P_by_hand) fun _ _ _ _ _ _ us hl => match us, hl with | [_], _ => rfl
  have F22 := fun_mk (st := s_law) l22 c22 k22
  have b22 := F22.binds (ps := P_law) fun _ _ _ _ _ _ us hl => match us, hl with | [_], _ => rfl
  exact ⟨_, fun s v => .of_eq rfl, fun base _ _ => ok_law { a_call_of := f0, d_call_of := _, F_call_of := F0, g_call_of := PySem.W.mg_of X G a0, b_call_of := b0, a_named_with := f1, d_named_with := _, F_named_with := F1, g_named_with := PySem.W.mg_of X G a1, b_named_with := b1, a_term_with := f2, d_term_with := _, F_term_with := F2, g_term_with := PySem.W.mg_of X G a2, b_term_with := b2, a_passed := f3, d_passed := _, F_passed := F3, g_passed := PySem.W.mg_of X G a3, b_passed := b3, a_deck := f4, d_deck := _, F_deck := F4, g_deck := PySem.W.mg_of X G a4, b_deck := b4, a_draw := f5, d_draw := _, F_draw := F5, g_draw := PySem.W.mg_of X G a5, b_draw := b5, a_pick := f6, d_pick := _, F_pick := F6, g_pick := PySem.W.mg_of X G a6, b_pick := b6, a_some := f7, d_some := _, F_some := F7, g_some := PySem.W.mg_of X G a7, b_some := b7, a_shop := f8, d_shop := _, F_shop := F8, g_shop := PySem.W.mg_of X G a8, b_shop := b8, a_leads := f9, d_leads := _, F_leads := F9, g_leads := PySem.W.mg_of X G a9, b_leads := b9, a_from := f10, d_from := _, F_from := F10, g_from := PySem.W.mg_of X G a10, b_from := b10, a_plan := f11, d_plan := _, F_plan := F11, g_plan := PySem.W.mg_of X G a11, b_plan := b11, a_parameters := f12, d_parameters := _, F_parameters := F12, g_parameters := PySem.W.mg_of X G a12, b_parameters := b12, a_leaf := f13, d_leaf := _, F_leaf := F13, g_leaf := PySem.W.mg_of X G a13, b_leaf := b13, a_task := f14, d_task := _, F_task := F14, g_task := PySem.W.mg_of X G a14, b_task := b14, a_function := f15, d_function := _, F_function := F15, g_function := PySem.W.mg_of X G a15, b_function := b15, a_is_term := f16, d_is_term := _, F_is_term := F16, g_is_term := PySem.W.mg_of X G a16, b_is_term := b16, a_put := f17, d_put := _, F_put := F17, g_put := PySem.W.mg_of X G a17, b_put := b17, a_body := f18, d_body := _, F_body := F18, g_body := PySem.W.mg_of X G a18, b_body := b18, a_given := f19, d_given := _, F_given := F19, g_given := PySem.W.mg_of X G a19, b_given := b19, a_right := f20, d_right := _, F_right := F20, g_right := PySem.W.mg_of X G a20, b_right := b20, a_by_hand := f21, d_by_hand := _, F_by_hand := F21, g_by_hand := PySem.W.mg_of X G a21, b_by_hand := b21, a_law := fa, d_law := _, F_law := F22, g_law := PySem.W.mg_of X G a22, b_law := b22, kb_passed_tasks_functions_definition := kb0 F3 (fun _ _ _ _ _ _ ws hl => match ws, hl with | [_, _, _], _ => rfl) pm210_rel, n_dict := PySem.W.mg_none_of X G z_dict, n_int := PySem.W.mg_none_of X G z_int, n_isinstance := PySem.W.mg_none_of X G z_isinstance, n_len := PySem.W.mg_none_of X G z_len, n_list := PySem.W.mg_none_of X G z_list, n_range := PySem.W.mg_none_of X G z_range, n_repr := PySem.W.mg_none_of X G z_repr, n_sorted := PySem.W.mg_none_of X G z_sorted, n_str := PySem.W.mg_none_of X G z_str, n_sum := PySem.W.mg_none_of X G z_sum, n_tuple := PySem.W.mg_none_of X G z_tuple, n_zip := PySem.W.mg_none_of X G z_zip }⟩
end K19
open PySem PySem.W PyProof.Rows
set_option maxHeartbeats 0 in
theorem PySem.Challenge.cw_plugcaller_k19_passed_holds : PySem.Challenge.rw_plugcaller_k19_passed.Holds := by
  w_on; o_law; k_head; (case hw => w_witness2)
  k_fill
  refine Zg.walkG (l := PySem.Challenge.rw_plugcaller_k19_passed) (n := 63) (k := 22) (x := "script") (sp := K19.sp_law) rfl (by decide) rfl ⟨rfl, by decide, by decide⟩ (fun w h Y => PySem.W.kIn_of Y) ?F (fun K H a ns hl _ hS => ⟨a, ns, rfl, hS, hl, fun _ => rfl⟩)
  case F =>
    intro w mg fa h KX G hmg
    refine' K19.all_mk KX G hmg ?a0 ?l0 ?c0 ?k0 ?a1 ?l1 ?c1 ?k1 ?a2 ?l2 ?c2 ?k2 ?a3 ?l3 ?c3 ?k3 ?a4 ?l4 ?c4 ?k4 ?a5 ?l5 ?c5 ?k5 ?a6 ?l6 ?c6 ?k6 ?a7 ?l7 ?c7 ?k7 ?a8 ?l8 ?c8 ?k8 ?a9 ?l9 ?c9 ?k9 ?a10 ?l10 ?c10 ?k10 ?a11 ?l11 ?c11 ?k11 ?a12 ?l12 ?c12 ?k12 ?a13 ?l13 ?c13 ?k13 ?a14 ?l14 ?c14 ?k14 ?a15 ?l15 ?c15 ?k15 ?a16 ?l16 ?c16 ?k16 ?a17 ?l17 ?c17 ?k17 ?a18 ?l18 ?c18 ?k18 ?a19 ?l19 ?c19 ?k19 ?a20 ?l20 ?c20 ?k20 ?a21 ?l21 ?c21 ?k21 ?a22 ?l22 ?c22 ?k22 ?z_dict ?z_int ?z_isinstance ?z_len ?z_list ?z_range ?z_repr ?z_sorted ?z_str ?z_sum ?z_tuple ?z_zip
    (case a0 => k_is)
    (case l0 => k_is)
    (case c0 => k_is)
    (case k0 => k_is)
    (case a1 => k_is)
    (case l1 => k_is)
    (case c1 => k_is)
    (case k1 => k_is)
    (case a2 => k_is)
    (case l2 => k_is)
    (case c2 => k_is)
    (case k2 => k_is)
    (case a3 => k_is)
    (case l3 => k_is)
    (case c3 => k_is)
    (case k3 => k_is)
    (case a4 => k_is)
    (case l4 => k_is)
    (case c4 => k_is)
    (case k4 => k_is)
    (case a5 => k_is)
    (case l5 => k_is)
    (case c5 => k_is)
    (case k5 => k_is)
    (case a6 => k_is)
    (case l6 => k_is)
    (case c6 => k_is)
    (case k6 => k_is)
    (case a7 => k_is)
    (case l7 => k_is)
    (case c7 => k_is)
    (case k7 => k_is)
    (case a8 => k_is)
    (case l8 => k_is)
    (case c8 => k_is)
    (case k8 => k_is)
    (case a9 => k_is)
    (case l9 => k_is)
    (case c9 => k_is)
    (case k9 => k_is)
    (case a10 => k_is)
    (case l10 => k_is)
    (case c10 => k_is)
    (case k10 => k_is)
    (case a11 => k_is)
    (case l11 => k_is)
    (case c11 => k_is)
    (case k11 => k_is)
    (case a12 => k_is)
    (case l12 => k_is)
    (case c12 => k_is)
    (case k12 => k_is)
    (case a13 => k_is)
    (case l13 => k_is)
    (case c13 => k_is)
    (case k13 => k_is)
    (case a14 => k_is)
    (case l14 => k_is)
    (case c14 => k_is)
    (case k14 => k_is)
    (case a15 => k_is)
    (case l15 => k_is)
    (case c15 => k_is)
    (case k15 => k_is)
    (case a16 => k_is)
    (case l16 => k_is)
    (case c16 => k_is)
    (case k16 => k_is)
    (case a17 => k_is)
    (case l17 => k_is)
    (case c17 => k_is)
    (case k17 => k_is)
    (case a18 => k_is)
    (case l18 => k_is)
    (case c18 => k_is)
    (case k18 => k_is)
    (case a19 => k_is)
    (case l19 => k_is)
    (case c19 => k_is)
    (case k19 => k_is)
    (case a20 => k_is)
    (case l20 => k_is)
    (case c20 => k_is)
    (case k20 => k_is)
    (case a21 => k_is)
    (case l21 => k_is)
    (case c21 => k_is)
    (case k21 => k_is)
    (case a22 => k_is)
    (case l22 => k_is)
    (case c22 => k_is)
    (case k22 => k_is)
    (case z_dict => k_is)
    (case z_int => k_is)
    (case z_isinstance => k_is)
    (case z_len => k_is)
    (case z_list => k_is)
    (case z_range => k_is)
    (case z_repr => k_is)
    (case z_sorted => k_is)
    (case z_str => k_is)
    (case z_sum => k_is)
    (case z_tuple => k_is)
    (case z_zip => k_is)
