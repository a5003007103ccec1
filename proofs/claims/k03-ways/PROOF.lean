import PyProof.Rows.All
import Wide.All
import OpenK.AllK
import Wide.FinOn
import HandS.ForMost
import PyProof.ReprRoads
import HandS.TupMul
import HandS.TupAny
import PyProof.ReprBulk
import PyProof.FitsInt
import HandS.IsInst
import PyProof.EqAt
import PyProof.NeKinds
import HandS.Sort
import PyProof.Rows.SortKeyStr
import HandS.Star
import HandS.Defaults
import HandS.MakeKw
import HandS.SortOrd
import HandS.SortRule
import KE.KDictPairs
import PyProof.StrOps2
import PySem.Challenge.RW_plugcaller_k03_ways_leads_reached
import HandS.Style
import HandS.Flow
import HandS.More
import HandS.Strs
import HandS.Zip
import HandS.Codes
import HandS.Text
import HandS.ClsMeth
import HandS.Property
import HandS.NoneIn
import HandS.SortInts
import HandS.Conv
import HandS.Walk
import HandS.TryOnly
set_option Elab.async false
set_option linter.all false
set_option maxRecDepth 100000
set_option maxHeartbeats 4000000
/-! Zg: promises of defs that are called where no repr is under way (guards known to be none), and the end of a law over such a promise. -/
namespace Zg
open PySem PySem.Spec PyProof.Rows L2
/-- no repr is under way -/
abbrev Gd (A : Around) : Prop := A.guards = some []
/-- a def's promise, asked only where no repr is under way -/
structure FnG (P : Program) (w : World) (K : PySem.W.Frag) (mg : Str → Option Value) (base : Heap) (k : Nat) (f : Addr) (fd : FuncData) (ps : List Str) (sp : Sp) : Prop where
  len : ∀ vs H Q E, sp vs H Q E → vs.length = ps.length
  run : ∀ (A : Around) (outer : List Env) (s : Shared) (H : Hp) (args : Args) (us : List Value) (vs : List V) (Q : VK), Gd A → Room k A →
    Env0 P w K mg base A outer s H → BindsTo s fd args (ps.zip us) → Vals vs us → sp vs H Q E0 →
    codeAny (model P w) A (.call (.ref f) args) (CR CX0 outer P w H s Q E0) s
theorem FnG.of {P : Program} {w : World} {K : PySem.W.Frag} {mg : Str → Option Value} {base : Heap} {k : Nat} {f : Addr} {fd : FuncData} {ps : List Str} {sp : Sp}
    (F : FnOk P w K mg base CX0 k f fd ps sp) : FnG P w K mg base k f fd ps sp :=
  ⟨F.len, fun A outer s H args us vs Q _ hr e0 hb hv hs => F.run A outer s H args us vs Q E0 hr e0 hb hv hs⟩
section
variable {P : Program} {w : World} {K : PySem.W.Frag} {mg : Str → Option Value} {base : Heap}
theorem okG {x qual : Str} {st : Stmt} {f : Addr} {fd : FuncData} {N ps : List Str} {k : Nat} {sp : Sp} (F : Fun K x qual st f fd) (S : FnScope N ps (defScope st))
    (len : ∀ vs H Q E, sp vs H Q E → vs.length = ps.length)
    (hbody : ∀ (cdv : Value) (A : Around) (outer : List Env) (s : Shared) (H : Hp) (vs : List V) (Q : VK), Gd (A.deeper (envOfC qual (defScope st) s.heap.objs.size f cdv)) →
      Room k (A.deeper (envOfC qual (defScope st) s.heap.objs.size f cdv)) → sp vs H Q E0 →
      ∃ t, PSs (cxOf CX0 P w K mg base N qual (defScope st) f cdv A outer s H E0).nox (defBody st) t ∧ t { nx := fun _ H' => Q .non H', rt := Q } (start N vs) H) :
    FnG P w K mg base (k + 1) f fd ps sp := by
  obtain ⟨oc, od, kV, doc, pm, an, cdv, ct, osl, rfl, lk, hcd⟩ := F.ex
  refine ⟨len, fun A outer s H args us vs Q hgd hr e0 hb r hsp => ?_⟩
  have hl := len _ _ _ _ hsp
  have kept : ∀ b o, base.get? b = some o → s.heap.get? b = some o := fun b o e => (e0.bs b o e).1
  have known : ∀ y ∈ ps.zip us, (defScope st).names.lookup y.1 = some .local ∨
      ((defScope st).names.lookup y.1 = some .cell ∧ ((cellsFrom (s.heap.objs.size + 1) (defScope st).names []).lookup y.1).isSome = true) := fun ⟨n, v⟩ hy =>
    (S.par n (List.of_mem_zip hy).1).elim .inl fun q => .inr ⟨q, PySem.W.cellsFrom_some _ _ _ (.inl q)⟩
  refine codeAny_call_function hr.depth (e0.mod.kin.keeps kept _ _ lk) rfl S.co S.gen rfl (PySem.W.codeRec_of (e0.mod.kin.keeps kept) hcd) (hb _ _ _ _ ?_)
  refine wpAny_newFunctionEnv_cells S.kind known fun env he s1 x => ?_
  subst he
  refine ⟨(e0.mod.nolimit.keeps kept).keeps x.toInCall.keep, codeAny_func ?_⟩
  obtain ⟨t, ht, hq⟩ := hbody cdv A outer s H vs Q hgd (hr.deeper _) hsp
  refine wpAny_mono (ht.nox.run [] s1 (start N vs) H _ (inv_start S hr.hd e0 hl r x) hq) (fun fl s' hs => ?_) fun e s' hs => hs
  cases fl with
  | ret u =>
    obtain ⟨v, σ', H', J, rv, q⟩ := hs
    exact ⟨v, H', J.os, J.bare, J.base, J.hok, rv, q⟩
  | next =>
    obtain ⟨σ', H', J, q⟩ := hs
    exact ⟨V.non, H', J.os, J.bare, J.base, J.hok, rfl, q⟩
  | brk => exact hs.elim fun _ z => z.elim fun _ z => z.2.elim
  | cont => exact hs.elim fun _ z => z.elim fun _ z => z.2.elim
end
section
variable {X : Cx} {k : Nat} {f : Addr} {fd : FuncData} {ps ks : List Str} {sp : Sp} {dvs : List V} {ds : List Value} {x : Str} {p pos : Pos} {e : Expr} {es : List Expr} {kws : List Keyword} {t tk : TA}
/-- f(e, ..), f's promise asked where no repr is under way -/
theorem pe_callG (F : FnG X.prog X.w X.K X.mg X.base k f fd ps sp) (hgd : Gd X.A) (hr : Room k X.A) (hg : Gl X x) (hm : X.mg x = some (.ref f)) (hk : PySem.W.keepIn X.K (.ref f) = true) (hb : Binds X.K fd ps ds) (hd : Vals dvs ds)
    (ha : PA X (e :: es) t) (hdb : (x == ("__debug__" : Str)) = false := by decide) (he : starEach (e :: es) X.env = (false, eval e X.env) :: starEach es X.env := by rfl) (hpl : (backTo pos (starEach es X.env)).any (·.1) = false := by rfl) :
    PE X (.Call (.Name x p) (e :: es) [] pos) (tCall sp dvs E0 t) := by
  refine ⟨fun pins s σ H Q I h => wpAny_Call_Name_kw (ld_glob I hg hm ?_ hdb)⟩
  refine PySem.W.callWith_K (h₀ := X.base) I.ok.mod.kin hk (thn (ha.run pos pins s σ H _ I h) fun us s1 ⟨vs, H1, I1, r, q⟩ => ⟨I1.kIn, ?_⟩) he hpl
  have r2 : Vals (vs ++ dvs) (us ++ ds) := r.append hd
  have hl : (us ++ ds).length = ps.length := by rw [← r2.length]; exact F.len _ _ _ _ q
  refine wpAny_call (codeAny_mono (F.run X.A X.stack s1 H1 ⟨us, []⟩ (us ++ ds) (vs ++ dvs) Q hgd hr I1.env0 (hb s1 us I1.kIn hl) r2 q) fun r s' hq => ?_)
  cases r with
  | error e => exact hq.elim
  | ok fl =>
    cases fl with
    | ret u => exact I1.after hq
    | next => exact hq.elim
    | brk => exact hq.elim
    | cont => exact hq.elim
end
/-- how a call by keywords alone binds: g puts the keywords' values (names ks) in the parameters' order -/
structure KB0 (K : PySem.W.Frag) (fd : FuncData) (ps ks : List Str) (g : List Value → List Value) (gV : List V → List V) : Prop where
  to : ∀ (s : Shared) (ws : List Value), ws.length = ks.length → BindsTo s fd ⟨[], ks.zip ws⟩ (ps.zip (g ws))
  rel : ∀ {zs : List V} {ws : List Value}, Vals zs ws → Vals (gV zs) (g ws)
section
variable {X : Cx} {CX : CXT} {k : Nat} {f : Addr} {fd : FuncData} {ps ks : List Str} {sp : Sp} {E : XK} {x : Str} {p pos : Pos} {kws : List Keyword} {tk : TA} {g : List Value → List Value} {gV : List V → List V}
/-- f(k = v, ..): keywords alone -/
def tCallK0 (m : Nat) (sp : Sp) (gV : List V → List V) (E : XK) (tk : TA) : TE := fun σ H Q => tk σ H fun zs H2 => zs.length = m ∧ sp (gV zs) H2 Q E
theorem pe_callK0 (F : FnOk X.prog X.w X.K X.mg X.base CX k f fd ps sp) (hr : Room k X.A) (hg : Gl X x) (hm : X.mg x = some (.ref f)) (hk : PySem.W.keepIn X.K (.ref f) = true) (hb : KB0 X.K fd ps ks g gV) (hx : Passes CX X E)
    (hkw : PK X kws tk) (hall : (backToKw pos (keywordEach kws X.env)).all (·.1.isSome) = true := by rfl) (hks : (backToKw pos (keywordEach kws X.env)).filterMap (·.1) = ks := by rfl)
    (hdb : (x == ("__debug__" : Str)) = false := by decide) (hpl : ((backTo pos (starEach [] X.env)).any (·.1) || (backToKw pos (keywordEach kws X.env)).any (·.1.isNone)) = false := by rfl) :
    PE X (.Call (.Name x p) [] kws pos) (tCallK0 ks.length sp gV E tk) := by
  refine ⟨fun pins s σ H Q I h => wpAny_Call_Name_kw (ld_glob I hg hm ?_ hdb)⟩
  refine PySem.W.callWith_KW0 (h₀ := X.base) I.ok.mod.kin hk hall ?_ hpl
  refine thn (hkw.run pos pins s σ H _ I h) fun ws s2 ⟨zs, H2, I2, rz, l2, q2⟩ => ⟨I2.kIn, ?_⟩
  rw [hks, List.append_nil]
  have hw : ws.length = ks.length := by rw [← rz.length]; exact l2
  refine wpAny_call (codeAny_mono (F.run X.A X.stack s2 H2 ⟨[], ks.zip ws⟩ (g ws) (gV zs) Q E hr I2.env0 (hb.to s2 ws hw) (hb.rel rz) q2) fun r s' hq => ?_)
  cases r with
  | error e => exact hx pins σ H2 s2 e s' I2 hq
  | ok fl =>
    cases fl with
    | ret u => exact I2.after hq
    | next => exact hq.elim
    | brk => exact hq.elim
    | cont => exact hq.elim
end
/-- .. of a def of the text -/
theorem kb0 {K : PySem.W.Frag} {x qual : Str} {st : Stmt} {f : Addr} {fd : FuncData} {ps ks : List Str} {g : List Value → List Value} {gV : List V → List V} (F : Fun K x qual st f fd)
    (h : ∀ (kV doc pm : Value) (an : Option Addr) (cdv ct : Value) (ws : List Value), ws.length = ks.length → bindArgs (PySem.W.fnOf x qual (defArgs st) (defBody st) (defScope st) .none kV doc pm an cdv ct) ⟨[], ks.zip ws⟩ = pure (ps.zip (g ws)))
    (r : ∀ {zs : List V} {ws : List Value}, Vals zs ws → Vals (gV zs) (g ws)) : KB0 K fd ps ks g gV := by
  obtain ⟨oc, od, kV, doc, pm, an, cdv, ct, osl, rfl, lk, hcd⟩ := F.ex
  exact ⟨fun s ws hl => .of_eq (h kV doc pm an cdv ct ws hl), r⟩
/-! ### the end of a law over such a promise -/
section
variable {P : Program} {w : World} {K : PySem.W.Frag} {mg mb : Str → Option Value} {k : Nat} {fa a : Addr} {fd : FuncData} {x : Str} {sp : Sp} {s₁ : Shared} {vs : List Value} {ns : List Int}
/-- the call of the law, from an abstract heap that tracks the script at most -/
theorem enterG {H : Hp} (KX : K.In s₁.heap) (hns : s₁.heap.Ns mainGlobals mg) (hb : s₁.heap.Ns builtinsNs mb) (hbb : ∀ x : Str, x ≠ "__name__" → mb x = bootBuiltins x) (hlim : s₁.heap.NoLimit) (hg : s₁.gens = #[])
    (hscript : ∃ o : Obj, s₁.heap.get? a = some o ∧ ∀ es ep, o.data ≠ .dict es ep) (hr : Room k callerA)
    (F : ∀ base : Heap, K.In base → base.Ns mainGlobals mg → FnG P w K mg base k fa fd [x] sp) (hbind : ∀ (s : Shared) (u : Value), BindsTo s fd ⟨[u], []⟩ [(x, u)])
    (hsp : sp [.ref a] H (fun v _ => v = .bl true) E0) (hO : Only H) (hok : HOk P w H s₁.heap) (hA : ∀ b, H b ≠ none → b = a) (hK : H a ≠ none → K.lookup a = none) :
    codeAny (model P w) callerA (.call (.ref fa) ⟨[.ref a], []⟩) (fun r s' => r = .ok (.ret (.bool true)) ∧ OldK s₁.heap s'.heap ∧ s'.os = s₁.os ∧ AllBare s'.gens) s₁ := by
  obtain ⟨os, hs1, hs2⟩ := hscript
  have apart : ∀ b : Addr, H b ≠ none → (∀ o es ep, s₁.heap.get? b = some o → o.data = .dict es ep → False) := fun b hb o es ep e d => by
    rw [hA b hb, hs1] at e
    cases e
    exact hs2 es ep d
  have nsK : ∀ {b : Addr} {m : Str → Option Value}, s₁.heap.Ns b m → (hidT s₁.heap H).Ns b m := fun {b m} ⟨o, es, ep, e, d, r⟩ => by
    refine ⟨o, es, ep, hidT_get e ?_, d, r⟩
    cases q : H b with
    | none => rfl
    | some u => exact (apart b (by rw [q]; exact fun z => nomatch z) o es ep e d).elim
  have hKb : K.In (hidT s₁.heap H) := fun b o e => hidT_get (KX b o e) (by
    cases q : H b with
    | none => rfl
    | some u =>
      have e' : b = a := hA b (by rw [q]; exact fun z => nomatch z)
      rw [e'] at e q
      rw [hK (by rw [q]; exact fun z => nomatch z)] at e
      cases e)
  have hM : Mod K mg (hidT s₁.heap H) := ⟨hKb, nsK hns, ⟨mb, nsK hb, hbb⟩, let ⟨mc, h1, h2⟩ := hlim; ⟨mc, nsK h1, h2⟩⟩
  have e0 : Env0 P w K mg (hidT s₁.heap H) callerA [] s₁ H :=
    ⟨rfl, hM, fun b o e => of_hidT e, Nat.le_of_eq (hidT_size _ _), trivial, fun b hb => absurd hb List.not_mem_nil, hok, .of_eq hg⟩
  refine codeAny_mono ((F _ hKb (nsK hns)).run callerA [] s₁ H ⟨[.ref a], []⟩ [.ref a] [.ref a] _ rfl hr e0 (hbind s₁ (.ref a)) (.cons rfl .nil) hsp) fun r s' h => ?_
  cases r with
  | error e => exact h.elim
  | ok fl =>
    cases fl with
    | next => exact h.elim
    | brk => exact h.elim
    | cont => exact h.elim
    | ret u =>
      obtain ⟨v, H', os', bare, un, hok', r', q⟩ := h
      obtain rfl : v = .bl true := q
      obtain rfl : u = Value.bool true := r'
      refine ⟨rfl, OldK.of_keep fun b o e => ?_, os', bare⟩
      cases q : H b with
      | none => exact un.keep b o e q List.not_mem_nil List.not_mem_nil
      | some u =>
        rcases hO b with z | ⟨ob, xs, z⟩
        · rw [q] at z
          cases z
        · obtain ⟨e1, _⟩ := hok b _ z
          obtain ⟨e2, _⟩ := hok' b _ (un.frzs b ob _ z)
          rw [e] at e1
          cases e1
          exact e2
theorem callG (KX : K.In s₁.heap) (hns : s₁.heap.Ns mainGlobals mg) (hb : s₁.heap.Ns builtinsNs mb) (hbb : ∀ x : Str, x ≠ "__name__" → mb x = bootBuiltins x) (hlim : s₁.heap.NoLimit) (hg : s₁.gens = #[])
    (ha : s₁.heap.get? a = some { cls := .type "list", data := .seq vs.toArray }) (hi : IntsAre vs ns) (hl : ns.length ≤ sizeLine) (hr : Room k callerA)
    (F : ∀ base : Heap, K.In base → base.Ns mainGlobals mg → FnG P w K mg base k fa fd [x] sp) (hbind : ∀ (s : Shared) (u : Value), BindsTo s fd ⟨[u], []⟩ [(x, u)])
    (hsp : ∀ H : Hp, Only H → SqL K H a (ns.map V.int) → sp [.ref a] H (fun v _ => v = .bl true) E0) :
    codeAny (model P w) callerA (.call (.ref fa) ⟨[.ref a], []⟩) (fun r s' => r = .ok (.ret (.bool true)) ∧ OldK s₁.heap s'.heap ∧ s'.os = s₁.os ∧ AllBare s'.gens) s₁ := by
  have rv := vals_ints hi
  have hsc : ∃ o : Obj, s₁.heap.get? a = some o ∧ ∀ es ep, o.data ≠ .dict es ep := ⟨_, ha, fun _ _ z => nomatch z⟩
  cases hk : K.lookup a with
  | some o =>
    have e := KX a o hk
    rw [ha] at e
    cases e
    refine enterG (H := fun _ => none) KX hns hb hbb hlim hg hsc hr F hbind (hsp _ (fun _ => .inl rfl) (.inr ⟨_, vs.toArray, _, hk, rfl, rfl, rfl, by rw [List.size_toArray, hi.length]; exact hl, by simpa using rv⟩))
      (fun _ => .inl rfl) (fun b u z => nomatch (show (none : Option HO) = some u from z)) (fun b z => absurd rfl z) fun z => absurd rfl z
  | none =>
    have one : ∀ {b : Addr} {u : HO}, (if b = a then some (HO.frz { cls := .type "list", data := .seq vs.toArray } (.lst (ns.map V.int))) else none) = some u → b = a := fun {b u} z => by
      by_cases q : b = a
      · exact q
      · rw [if_neg q] at z
        cases z
    have hO : Only (fun b => if b = a then some (HO.frz { cls := .type "list", data := .seq vs.toArray } (.lst (ns.map V.int))) else none) := fun b => by
      by_cases q : b = a
      · exact .inr ⟨_, _, if_pos q⟩
      · exact .inl (if_neg q)
    refine enterG KX hns hb hbb hlim hg hsc hr F hbind (hsp _ hO (.inl (.inr ⟨_, if_pos rfl⟩))) hO (fun b u z => ?_) (fun b z => ?_) fun _ => hk
    · have q := one z
      subst q
      have z' := (if_pos rfl).symm.trans z
      cases z'
      exact ⟨ha, by rw [List.length_map]; exact hl, vs, _, rv, ha⟩
    · cases q : (if b = a then some (HO.frz { cls := .type "list", data := .seq vs.toArray } (.lst (ns.map V.int))) else none) with
      | none => exact absurd q z
      | some u => exact one q
end
/-- the goal that the head leaves, from the law's promise -/
theorem walkG {l : PySem.W.OpenLaw} {n k : Nat} {q : Program} {loose : List Str} {XP : (Str → Option Value) → Heap → Prop} {YP : World → Heap → Prop} {d : DefRec} {K : Params → PySem.W.Frag} {sp : PySem.W.Frag → Sp} {x : Str}
    (hn : l.most = some n) (hn2 : n ≤ sizeLine) (hdf : d.params.defaults = []) (hr : Room k callerA) (hY : ∀ (w : World) (h : Heap), YP w h → (K w.params).In h)
    (F : ∀ (w : World) (mg : Str → Option Value) (fa : Addr) (h : Heap), (K w.params).In h → h.Ns mainGlobals mg → mg d.name = some (.ref fa) →
      ∃ fd : FuncData, (∀ (s : Shared) (u : Value), BindsTo s fd ⟨[u], []⟩ [(x, u)]) ∧
        ∀ base : Heap, (K w.params).In base → base.Ns mainGlobals mg → FnG l.prog w (K w.params) mg base k fa fd [x] (sp (K w.params)))
    (hsp : ∀ (K : PySem.W.Frag) (H : Hp) (a : Addr) (ns : List Int), ns.length ≤ n → Only H → SqL K H a (ns.map V.int) → sp K [.ref a] H (fun v _ => v = .bl true) E0) :
    PySem.W.WalkO q loose XP YP l.row.toRowW d [] (fun f vs => PySem.call f vs) := by
  refine Att.attach_call hn hdf fun w s₀ s₁ mg mb fa o pm cd doc a vs ns G Y ho hd hcd hmg hobj hints hlen hg => ?_
  have KX := hY w _ Y
  obtain ⟨fd, hb, hF⟩ := F w mg fa _ KX G.T.g hmg
  exact callG KX G.T.g G.T.b G.T.builtins G.T.nolimit hg hobj hints (Nat.le_trans hlen hn2) hr hF hb fun H hO hS => hsp _ H a ns hlen hO hS
/-! ### repr of data -/
section
variable {X : Cx}
/-- repr(x), x an object that holds data -/
def rRepr (K : PySem.W.Frag) : List V → Hp → VK → Prop := fun xs H Q => ∃ (a : Addr) (d : PyData), xs = [.ref a] ∧ Dp K H (.ref a) d ∧ d.showable = true ∧ d.hasDict = false ∧ d.depth ≤ 60 ∧ d.shown.length ≤ sizeLine ∧ Q (.str d.shown) H
theorem cr_repr {k : Nat} (hgd : Gd X.A) (hr : Room k X.A) : CallR X (.builtin "repr") (rRepr X.K) := by
  intro pins s σ H xs us Q I r h
  obtain ⟨a, d, rfl, hd, hs, hn, hdp, hz, q⟩ := h
  obtain ⟨u, rfl, ru⟩ := Vals.one r
  cases ru
  obtain ⟨as, rd⟩ := Dp.reads I d _ _ hd rfl
  have hu := hr.un
  refine repr_of_reads' rd hs (fun z => by rw [hn] at z; cases z) hgd (by omega) (fun _ _ e => e) (fun h' u tk hk => ?_) hz
  exact ⟨.str d.shown, H, I.kept hk, ⟨u, rfl⟩, q⟩
end
end Zg
set_option Elab.async false
set_option linter.all false
set_option maxRecDepth 100000
set_option maxHeartbeats 4000000
/-! Zr: some rules of values: xs.extend(a tuple), t * 1. -/
namespace Zr
open PySem PySem.Spec PyProof.Rows L2
theorem extend_tup (l : Addr) (items : Array Value) (n : Nat) (b : Addr) (items2 : Array Value) (n2 : Nat) (dd : Option Addr) (sl : Array (Option Value)) (hs0 : ¬(!items.isEmpty && Builtin.List.listTooLong (items.size + items2.size)) = true) (hs1 : items.size ≤ sizeLine) (hs2 : items.size + items2.size ≤ sizeLine + 1) :
    Meets (Builtin.«list.extend» ⟨[.ref l, .ref b], []⟩) (fun _ R s => s.heap.get? l = some { cls := .type "list", dict := none, data := .seq items n, slots := #[] } ∧ s.heap.get? b = some { cls := .type "tuple", dict := dd, data := .seq items2 n2, slots := sl } ∧
      R (.ok (.ret Value.none)) { s with heap := s.heap.update l (Obj.mapSeq fun x => x ++ items2), toks := s.toks }) :=
  .of_wp fun prog w A R s h => by
    obtain ⟨hp, g, d, tk, os⟩ := s
    obtain ⟨hl, hb, h⟩ := h
    have f1 := AutoSeq1.idx_int
    have f2 := AutoSeq1.sub_tuple_tuple
    have f3 := AutoSeq1.sub_list_list
    have f4 := AutoSeq1.sub_tuple_list
    have f5 := AutoSeq1.sub_list_tuple
    have hz' : (items ++ items2).size ≤ sizeLine + 1 := by rw [Array.size_append]; exact hs2
    wp_walk using (wpAny_updateSeq hl rfl (hz := hs1) (_hz' := hz')), wpAny_loadPart' hl, wpAny_loadPart' hb
    exact ⟨_, rfl, h⟩
theorem tuple_mul1 (l : Addr) (items : Array Value) (n : Nat) (dd : Option Addr) (sl : Array (Option Value)) (u : Tok) :
    Meets (Builtin.«tuple.__mul__» ⟨[.ref l, .int 1 u], []⟩) (fun _ R s => s.heap.get? l = some { cls := .type "tuple", dict := dd, data := .seq items n, slots := sl } ∧ R (.ok (.ret (Value.ref l))) s) :=
  .of_wp fun prog w A R s h => by
    obtain ⟨hp, g, d, tk, os⟩ := s
    obtain ⟨hl, h⟩ := h
    have f1 := AutoSeq1.idx_int
    have c0 : (decide ((1 : Int) < -(2 ^ 63)) || decide ((1 : Int) ≥ 2 ^ 63)) = false := by decide
    have c1 : (items.isEmpty || (1 : Int) == 1) = true := by simp
    wp_walk using wpAny_loadPart' hl
    repeat (first
      | (refine wpAny_ite_false (decide_eq_false (by rw [c0]; exact Bool.false_ne_true)) ?_; wp_walk using wpAny_loadPart' hl)
      | (refine wpAny_ite_true (decide_eq_true c1) ?_; wp_walk using wpAny_loadPart' hl))
    exact ⟨_, rfl, h⟩
section
variable {X : Cx}
def rExtT (K : PySem.W.Frag) : V → List V → Hp → VK → Prop := fun x vs H Q => ∃ l b xs zs, x = .ref l ∧ vs = [.ref b] ∧ H l = some (.lst xs) ∧ SqT K H b zs ∧ xs.length + zs.length ≤ sizeLine ∧ Q .non (upd H l (.lst (xs ++ zs)))
theorem mt_extT : MtM X "list.extend" (rExtT X.K) := by
  intro pins s σ H x vs v us Q I rx rv h
  obtain ⟨l, b, xs, zs, rfl, rfl, hH, hB, hz, q⟩ := h
  cases rx
  obtain ⟨u, rfl, ru⟩ := rv.one
  cases ru
  obtain ⟨z, its, n, r, hl, e⟩ := I.lstM hH
  obtain ⟨its2, r2, ⟨⟨cls, dd, data, sl⟩, ho, hc, n2, hd⟩, _⟩ := I.tuple hB
  simp only at hc hd
  subst hc hd
  have hl2 := r2.length
  have hsz : its.toArray.size + its2.toArray.size ≤ sizeLine := by rw [List.size_toArray, List.size_toArray]; omega
  have hlong : ¬ (!its.toArray.isEmpty && Builtin.List.listTooLong (its.toArray.size + its2.toArray.size)) = true := by
    rw [notLongL hsz, Bool.and_false]
    exact Bool.false_ne_true
  refine call_meets F.slot_list_extend ⟨_, e, rfl⟩ F.entry_list_extend (F.args_list_extend_2 _ _)
    (extend_tup l its.toArray n b its2.toArray n2 dd sl hlong (by rw [List.size_toArray]; omega) (by omega)) ⟨e, ho, ?_⟩
  refine ⟨.non, _, I.lset (its' := its ++ its2) hH e (by simp) (r.append r2) ?_, rfl, q⟩
  rw [List.length_append]
  omega
/-- t * k, k from 1 on -/
def rRep1 (K : PySem.W.Frag) : R2 := fun x y H Q => ∃ l k xs, x = .ref l ∧ y = .int k ∧ SqT K H l xs ∧ xs ≠ [] ∧ 1 ≤ k ∧ k ≤ 1000 ∧ xs.length ≤ 1000 ∧ (k = 1 → Q (.ref l) H) ∧ (k ≠ 1 → ∀ p, H p = none → Q (.ref p) (upd H p (.tup (List.replicate k.toNat xs).flatten)))
theorem op_rep1 : OpR X (binaryOp .Mult) (rRep1 X.K) := by
  intro pins s σ H x y v u Q I rx ry h
  obtain ⟨l, k, xs, rfl, rfl, hT, hne, h1, h2, hz, q1, q2⟩ := h
  by_cases hk : k = 1
  · subst hk
    cases rx
    obtain ⟨t, rfl⟩ := ry
    obtain ⟨its, r, ⟨⟨cls, dd, data, sl⟩, ho, hc, n, hd⟩, hs⟩ := I.tuple hT
    simp only at hc hd
    subst hc hd
    refine wpAny_binaryOp_repeat_ref (T := "tuple") (U := "int") (by decide) ⟨_, ho, rfl⟩ (fun s' => typeIs_int s' 1 t) noFill_tuple_mul F.fills_int_mul F.slot_int_rmul repeat_tuple F.slot_int_index.lookup
      (call_meets F.slot_int_rmul (typeIs_int s 1 t) F.entry_int_rmul (F.args_int_rmul_2 _ _) (int_rmul_tuple 1 t l its.toArray n dd sl)
        ⟨ho, rfl, ⟨_, ho, rfl⟩, call_meets F.slot_tuple_mul ⟨_, ho, rfl⟩ F.entry_tuple_mul (F.args_tuple_mul_2 _ _) (tuple_mul1 l its.toArray n dd sl t) ⟨ho, ?_⟩⟩)
    exact ⟨.ref l, H, I, rfl, q1 rfl⟩
  · exact op_repT pins s σ H _ _ v u Q I rx ry ⟨l, k, xs, rfl, rfl, hT, hne, by omega, h2, hz, q2 hk⟩
end
end Zr
set_option Elab.async false
set_option linter.all false
set_option maxRecDepth 100000
set_option maxHeartbeats 4000000
/-! Zd: data whose leaves are small: they can be shown, compared. -/
namespace Zd
open PySem PySem.Spec PyProof.Rows L2
mutual
def okd : PyData → Bool
  | .none | .bool _ => true
  | .int i => decide (i.natAbs < 10 ^ 40)
  | .str x => PyData.strOk x
  | .list xs | .tuple xs => okAll xs
  | .dict _ => false
def okAll : List PyData → Bool
  | [] => true
  | x :: xs => okd x && okAll xs
end
theorem okAll_iff : ∀ {l : List PyData}, okAll l = true ↔ ∀ d ∈ l, okd d = true
  | [] => by simp [okAll]
  | x :: l => by
    rw [okAll, Bool.and_eq_true, okAll_iff (l := l)]
    simp
theorem int_log {i : Int} (h : i.natAbs < 10 ^ 40) : i.natAbs.log2 < 1920 :=
  Nat.lt_of_lt_of_le (PySem.Flt.log2_lt_of (n := i.natAbs) (k := 133) (by decide) (Nat.lt_trans h (by decide))) (by decide)
mutual
theorem okd_short : ∀ d : PyData, okd d = true → d.leavesShort 44 = true
  | .none, _ => rfl
  | .bool _, _ => rfl
  | .int i, h => by
    have h' : i.natAbs < 10 ^ 40 := of_decide_eq_true h
    have q := int_text_length_le10 (k := 40) (by decide) h'
    show decide ((PyData.shown (.int i)).length ≤ 44) = true
    refine decide_eq_true ?_
    show (PySem.Str.ofString (toString i)).length ≤ 44
    rw [PySem.ofString_length]
    omega
  | .str x, h => by
    have h' : x.cps.all (· < 0x110000) = true := h
    show x.cps.toList.all (fun c => decide (c < 16 ^ 8)) = true
    rw [List.all_eq_true]
    intro c hc
    rw [Array.all_eq_true'] at h'
    have q := h' c (by simpa using hc)
    have q' : c < 0x110000 := by simpa using q
    exact decide_eq_true (Nat.lt_trans q' (by decide))
  | .list xs, h => okAll_short xs h
  | .tuple xs, h => okAll_short xs h
  | .dict _, h => by cases h
theorem okAll_short : ∀ l : List PyData, okAll l = true → PyData.leavesShortAll 44 l = true
  | [], _ => rfl
  | x :: l, h => by
    rw [okAll, Bool.and_eq_true] at h
    show (PyData.leavesShort 44 x && PyData.leavesShortAll 44 l) = true
    rw [okd_short x h.1, okAll_short l h.2]
    rfl
end
mutual
theorem okd_show : ∀ d : PyData, okd d = true → d.showable = true ∧ d.canLay0 = true ∧ d.hasDict = false
  | .none, _ => ⟨rfl, rfl, rfl⟩
  | .bool _, _ => ⟨rfl, rfl, rfl⟩
  | .int i, h => ⟨decide_eq_true (int_log (of_decide_eq_true h)), rfl, rfl⟩
  | .str x, h => ⟨rfl, h, rfl⟩
  | .list xs, h => okAll_show xs h
  | .tuple xs, h => okAll_show xs h
  | .dict _, h => by cases h
theorem okAll_show : ∀ l : List PyData, okAll l = true → PyData.showableAll l = true ∧ PyData.canLayAll0 l = true ∧ PyData.hasDictAll l = false
  | [], _ => ⟨rfl, rfl, rfl⟩
  | x :: l, h => by
    rw [okAll, Bool.and_eq_true] at h
    obtain ⟨a1, a2, a3⟩ := okd_show x h.1
    obtain ⟨b1, b2, b3⟩ := okAll_show l h.2
    refine ⟨?_, ?_, ?_⟩
    · show (PyData.showable x && PyData.showableAll l) = true
      rw [a1, b1]; rfl
    · show (PyData.canLay0 x && PyData.canLayAll0 l) = true
      rw [a2, b2]; rfl
    · show (PyData.hasDict x || PyData.hasDictAll l) = false
      rw [a3, b3]; rfl
end
theorem okd_fits {d : PyData} (h : okd d = true) (hb : d.bulk ≤ 300000) : d.shown.length ≤ sizeLine := by
  have q := PyData.shown_le_bulk 44 (by decide) d (okd_short d h)
  rw [sizeLine_eq]
  omega
theorem shaped_of {d : PyData} (h : okd d = true) (hd : d.depth ≤ 60) : SeqAt.shaped d = true := by
  show (d.canLay0 && decide (d.depth ≤ 64)) = true
  rw [(okd_show d h).2.1, decide_eq_true (by omega)]
  rfl
/-- repr(x), x an object that holds small data -/
theorem repr_of {K : PySem.W.Frag} {a : Addr} {d : PyData} {H : Hp} {Q : VK} (hd : Dp K H (.ref a) d) (h : okd d = true) (hp : d.depth ≤ 60) (hb : d.bulk ≤ 300000) (q : Q (.str d.shown) H) : Zg.rRepr K [.ref a] H Q :=
  ⟨a, d, rfl, hd, (okd_show d h).1, (okd_show d h).2.2, hp, okd_fits h hb, q⟩
theorem dpAll_of {K : PySem.W.Frag} {H : Hp} {α : Type} (f : α → V) (g : α → PyData) : ∀ {l : List α}, (∀ x ∈ l, Dp K H (f x) (g x)) → DpAll K H (l.map f) (l.map g)
  | [], _ => .nil
  | x :: l, h => .cons (h x List.mem_cons_self) (dpAll_of f g fun y hy => h y (List.mem_cons_of_mem _ hy))
theorem dp_ints {K : PySem.W.Frag} {H : Hp} (ns : List Int) : DpAll K H (ns.map V.int) (ns.map PyData.int) := dpAll_of V.int PyData.int fun x _ => .int x
mutual
theorem dp_mono {K : PySem.W.Frag} {H H' : Hp} (k : ∀ a o, H a = some o → H' a = some o) : ∀ (d : PyData) (v : V), Dp K H v d → Dp K H' v d
  | _, _, .non => .non
  | _, _, .bl b => .bl b
  | _, _, .int i => .int i
  | _, _, .str x => .str x
  | _, _, .lst (xs := xs) (ds := ds) hs ha => .lst (by
      rcases hs with (h | ⟨o, h⟩) | h
      · exact .inl (.inl (k _ _ h))
      · exact .inl (.inr ⟨o, k _ _ h⟩)
      · exact .inr h) (dpAll_mono k ds xs ha)
  | _, _, .tup (xs := xs) (ds := ds) hs ha => .tup (by
      rcases hs with (h | ⟨o, h⟩) | h
      · exact .inl (.inl (k _ _ h))
      · exact .inl (.inr ⟨o, k _ _ h⟩)
      · exact .inr h) (dpAll_mono k ds xs ha)
theorem dpAll_mono {K : PySem.W.Frag} {H H' : Hp} (k : ∀ a o, H a = some o → H' a = some o) : ∀ (ds : List PyData) (vs : List V), DpAll K H vs ds → DpAll K H' vs ds
  | _, _, .nil => .nil
  | _, _, .cons h t => .cons (dp_mono k _ _ h) (dpAll_mono k _ _ t)
end
theorem depth_ints : ∀ ns : List Int, PyData.depthAll (ns.map PyData.int) = 0
  | [] => rfl
  | n :: r => by
    show max 0 (PyData.depthAll (r.map PyData.int)) = 0
    rw [depth_ints r]
    rfl
theorem lay_ints : ∀ ns : List Int, PyData.canLayAll0 (ns.map PyData.int) = true
  | [] => rfl
  | n :: r => lay_ints r
theorem shaped_ints (ns : List Int) : SeqAt.shaped (.list (ns.map PyData.int)) = true := by
  show (PyData.canLayAll0 (ns.map PyData.int) && decide (PyData.depthAll (ns.map PyData.int) + 1 ≤ 64)) = true
  rw [lay_ints, depth_ints]
  rfl
theorem eqv_empty (ns : List Int) : PyData.eqv (.list (ns.map PyData.int)) (.list []) = ns.isEmpty := by
  cases ns <;> rfl
end Zd
set_option Elab.async false
set_option linter.all false
set_option maxRecDepth 100000
set_option maxHeartbeats 4000000
/-! Zv: values of any kind: none, bools, ints, texts, lists, tuples, empty dicts, none of whose objects is one of S. -/
namespace Zv
open PySem PySem.Spec PyProof.Rows L2 Zg Zd
/-! ### the heap but for some -/
/-- all that was tracked but at the addresses of S is as it was -/
def Kp (S : List Addr) (H H' : Hp) : Prop := ∀ a o, a ∉ S → H a = some o → H' a = some o
theorem Kp.refl (S : List Addr) (H : Hp) : Kp S H H := fun _ _ _ e => e
theorem Kp.trans {S : List Addr} {H H1 H2 : Hp} (a : Kp S H H1) (b : Kp S H1 H2) : Kp S H H2 := fun x o n e => b x o n (a x o n e)
theorem Kp.new {S : List Addr} {H : Hp} {p : Addr} {o : HO} (h : H p = none) : Kp S H (upd H p o) := fun a u _ e => by
  rw [upd_ne (ne_of_none e h)]
  exact e
theorem Kp.wr {S : List Addr} {H H' : Hp} {p : Addr} {o : HO} (k : Kp S H H') (h : p ∈ S ∨ H p = none) : Kp S H (upd H' p o) := fun a u n e => by
  have q : a ≠ p := fun z => by
    subst z
    rcases h with h | h
    · exact n h
    · rw [h] at e
      cases e
  rw [upd_ne q]
  exact k a u n e
theorem Kp.of {S : List Addr} {H H' : Hp} (k : Same H H') : Kp S H H' := fun a o _ e => k a o e
theorem Kp.sub {S S' : List Addr} {H H' : Hp} (h : Kp S H H') (e : ∀ a ∈ S, a ∈ S') : Kp S' H H' := fun a o n => h a o fun m => n (e a m)
theorem Kp.free {S : List Addr} {H H' : Hp} (k : Kp S H H') {p : Addr} (n : p ∉ S) (h : H' p = none) : H p = none := by
  cases q : H p with
  | none => rfl
  | some o =>
    rw [k p o n q] at h
    cases h
theorem Kp.seq {K : PySem.W.Frag} {S : List Addr} {H H' : Hp} {a : Addr} {xs : List V} (k : Kp S H H') (n : a ∉ S) (h : SqL K H a xs) : SqL K H' a xs := by
  rcases h with (h | ⟨o, h⟩) | h
  · exact .inl (.inl (k _ _ n h))
  · exact .inl (.inr ⟨o, k _ _ n h⟩)
  · exact .inr h
theorem same_new {H : Hp} {p : Addr} {o : HO} (hp : H p = none) : Same H (upd H p o) := fun b u e => by rw [upd_ne (ne_of_none e hp)]; exact e
/-! ### the values -/
mutual
inductive Dv (S : List Addr) (H : Hp) : V → PyData → Prop
  | non : Dv S H .non .none
  | bl (b : Bool) : Dv S H (.bl b) (.bool b)
  | int (i : Int) : Dv S H (.int i) (.int i)
  | str (x : Str) : Dv S H (.str x) (.str x)
  | lst {a : Addr} {xs : List V} {ds : List PyData} : H a = some (.lst xs) → a ∉ S → DvAll S H xs ds → Dv S H (.ref a) (.list ds)
  | tup {a : Addr} {xs : List V} {ds : List PyData} : H a = some (.tup xs) → a ∉ S → DvAll S H xs ds → Dv S H (.ref a) (.tuple ds)
  | dic {a : Addr} : H a = some (.dK []) → a ∉ S → Dv S H (.ref a) (.dict [])
inductive DvAll (S : List Addr) (H : Hp) : List V → List PyData → Prop
  | nil : DvAll S H [] []
  | cons {v : V} {vs : List V} {d : PyData} {ds : List PyData} : Dv S H v d → DvAll S H vs ds → DvAll S H (v :: vs) (d :: ds)
end
mutual
theorem Dv.kp {S : List Addr} {H H' : Hp} (k : Kp S H H') : ∀ {v : V} {d : PyData}, Dv S H v d → Dv S H' v d
  | _, _, .non => .non
  | _, _, .bl b => .bl b
  | _, _, .int i => .int i
  | _, _, .str x => .str x
  | _, _, .lst h n t => .lst (k _ _ n h) n (DvAll.kp k t)
  | _, _, .tup h n t => .tup (k _ _ n h) n (DvAll.kp k t)
  | _, _, .dic h n => .dic (k _ _ n h) n
theorem DvAll.kp {S : List Addr} {H H' : Hp} (k : Kp S H H') : ∀ {vs : List V} {ds : List PyData}, DvAll S H vs ds → DvAll S H' vs ds
  | _, _, .nil => .nil
  | _, _, .cons h t => .cons (Dv.kp k h) (DvAll.kp k t)
end
mutual
theorem Dv.sub {S S' : List Addr} {H : Hp} (e : ∀ a ∈ S', a ∈ S) : ∀ {v : V} {d : PyData}, Dv S H v d → Dv S' H v d
  | _, _, .non => .non
  | _, _, .bl b => .bl b
  | _, _, .int i => .int i
  | _, _, .str x => .str x
  | _, _, .lst h n t => .lst h (fun m => n (e _ m)) (DvAll.sub e t)
  | _, _, .tup h n t => .tup h (fun m => n (e _ m)) (DvAll.sub e t)
  | _, _, .dic h n => .dic h (fun m => n (e _ m))
theorem DvAll.sub {S S' : List Addr} {H : Hp} (e : ∀ a ∈ S', a ∈ S) : ∀ {vs : List V} {ds : List PyData}, DvAll S H vs ds → DvAll S' H vs ds
  | _, _, .nil => .nil
  | _, _, .cons h t => .cons (Dv.sub e h) (DvAll.sub e t)
end
theorem DvAll.append {S : List Addr} {H : Hp} : ∀ {vs ws : List V} {ds es : List PyData}, DvAll S H vs ds → DvAll S H ws es → DvAll S H (vs ++ ws) (ds ++ es)
  | _, _, _, _, .nil, h => h
  | _, _, _, _, .cons a t, h => .cons a (DvAll.append t h)
theorem DvAll.length {S : List Addr} {H : Hp} : ∀ {vs : List V} {ds : List PyData}, DvAll S H vs ds → vs.length = ds.length
  | _, _, .nil => rfl
  | _, _, .cons _ t => by rw [List.length_cons, List.length_cons, DvAll.length t]
theorem DvAll.drop {S : List Addr} {H : Hp} : ∀ (n : Nat) {vs : List V} {ds : List PyData}, DvAll S H vs ds → DvAll S H (vs.drop n) (ds.drop n)
  | 0, _, _, h => h
  | n + 1, _, _, .nil => .nil
  | n + 1, _, _, .cons _ t => DvAll.drop n t
theorem DvAll.take {S : List Addr} {H : Hp} : ∀ (n : Nat) {vs : List V} {ds : List PyData}, DvAll S H vs ds → DvAll S H (vs.take n) (ds.take n)
  | 0, _, _, _ => .nil
  | n + 1, _, _, .nil => .nil
  | n + 1, _, _, .cons h t => .cons h (DvAll.take n t)
theorem DvAll.get {S : List Addr} {H : Hp} : ∀ {vs : List V} {ds : List PyData}, DvAll S H vs ds → ∀ {i : Nat} {v : V}, vs[i]? = some v → ∃ d, ds[i]? = some d ∧ Dv S H v d
  | _, _, .nil, i, v, e => by cases e
  | _, _, .cons (d := d) h t, 0, v, e => ⟨d, rfl, by cases e; exact h⟩
  | _, _, .cons h t, i + 1, v, e => DvAll.get t (i := i) e
section
variable {X : Cx} {pins : List (Addr × Obj)} {σ : L2.St} {H : Hp} {s : Shared} {S : List Addr}
/-- the object of an empty dict -/
theorem dic_at (I : Inv X pins σ H s) {a : Addr} (h : H a = some (.dK [])) : (a == sysModules) = false ∧ ∃ o n, s.heap.get? a = some o ∧ o.cls = .type "dict" ∧ o.data = .dict #[] n := by
  obtain ⟨_, hd, vs, kv, o, es, ep, h1, h2, h3, h4, h5, h6⟩ := dk_rd I.hok (.inl h)
  refine ⟨hd, o, ep, h1, h2.1, ?_⟩
  cases kv
  have e : es.toList = [] := by
    cases h5' : es.toList with
    | nil => rfl
    | cons x l => rw [h5'] at h5; cases h5
  have e2 : es = #[] := by
    obtain ⟨l⟩ := es
    simp only at e
    rw [e]
  rw [h3, e2]
mutual
theorem Dv.reads (I : Inv X pins σ H s) : ∀ {v : V} {d : PyData} (u : Value), Dv S H v d → RelV v u → ∃ as, Reads s.heap u d as
  | _, _, _, .non, r => by cases r; exact ⟨_, Reads.none⟩
  | _, _, _, .bl b, r => by cases r; exact ⟨_, Reads.bool b⟩
  | _, _, _, .int i, r => by obtain ⟨t, rfl⟩ := r; exact ⟨_, Reads.int i t⟩
  | _, _, _, .str x, r => by obtain ⟨t, rfl⟩ := r; exact ⟨_, Reads.str x t⟩
  | _, _, _, .lst h n t, r => by
    cases r
    obtain ⟨z, its, m, rv, _, e⟩ := I.lstM h
    obtain ⟨as, q⟩ := DvAll.reads I its t rv
    exact ⟨_, Reads.list e rfl rfl q⟩
  | _, _, _, .tup h n t, r => by
    cases r
    obtain ⟨its, rv, ⟨o, ho, hc, m, hd⟩, _⟩ := I.tuple (X := X) (SqT.of h)
    obtain ⟨as, q⟩ := DvAll.reads I its t rv
    exact ⟨_, Reads.tuple ho hc hd q⟩
  | _, _, _, .dic h n, r => by
    cases r
    obtain ⟨_, o, m, h1, h2, h3⟩ := dic_at I h
    exact ⟨_, Reads.dict h1 h2 h3 .nil .nil⟩
theorem DvAll.reads (I : Inv X pins σ H s) : ∀ {vs : List V} {ds : List PyData} (us : List Value), DvAll S H vs ds → Vals vs us → ∃ as, ReadsAll s.heap us ds as
  | _, _, _, .nil, r => by cases r; exact ⟨_, ReadsAll.nil⟩
  | _, _, _, .cons h t, r => by
    cases r with
    | cons r1 r2 =>
      obtain ⟨as, q1⟩ := Dv.reads I _ h r1
      obtain ⟨bs, q2⟩ := DvAll.reads I _ t r2
      exact ⟨_, ReadsAll.cons q1 q2⟩
end
end
/-! ### repr -/
section
variable {X : Cx} {pins : List (Addr × Obj)} {σ : L2.St} {H : Hp} {s : Shared} {S : List Addr}
mutual
/-- how such a value shows within another -/
theorem Dv.under (I : Inv X pins σ H s) : ∀ {v : V} {d : PyData} (u : Value), Dv S H v d → RelV v u → d.showable = true → d.shown.length ≤ sizeLine → ∃ bs, ReadAtMost s.heap d.depth bs ∧ ReprK X.prog X.w bs s.heap d.depth u d.shown
  | _, _, _, .non, r, _, _ => by
    cases r
    exact ⟨[], fun _ h => (nomatch h), ReprK.of_is ReprIs.none _ _ _⟩
  | _, _, _, .bl b, r, _, _ => by
    cases r
    exact ⟨[], fun _ h => (nomatch h), ReprK.of_is (ReprIs.bool b) _ _ _⟩
  | _, _, _, .int i, r, hs, _ => by
    obtain ⟨t, rfl⟩ := r
    exact ⟨[], fun _ h => (nomatch h), ReprK.of_is (ReprIs.int t (of_decide_eq_true hs)) _ _ _⟩
  | _, _, _, .str x, r, _, hz => by
    obtain ⟨t, rfl⟩ := r
    exact ⟨[], fun _ h => (nomatch h), ReprK.of_is (ReprIs.str x t hz) _ _ _⟩
  | _, _, _, .lst (a := a) (xs := xs) (ds := ds) h n t, r, hs, hz => by
    obtain ⟨as, hr⟩ := Dv.reads I _ (Dv.lst h n t) r
    cases r
    obtain ⟨_, its, m, rv, _, e⟩ := I.lstM h
    have hz' : (listText (PyData.shownAll ds)).length ≤ sizeLine := hz
    obtain ⟨bs, hb, hk⟩ := DvAll.under I its t rv hs fun x hx => Nat.le_trans (listText_mem_le hx) hz'
    have na : a ∉ bs := not_mem_of_deeper hr (Nat.lt_succ_self _) hb
    refine ⟨a :: bs, ReadAtMost.cons hr (Nat.le_succ _) hb, ?_⟩
    cases its with
    | nil =>
      cases rv
      cases t
      show ReprK X.prog X.w _ s.heap 1 (.ref a) (listText [])
      rw [listText_nil]
      exact ReprK.listEmpty e rfl rfl
    | cons y l => exact ReprK.list e rfl rfl na (by simpa using hk.length_eq) fun i z q => hk.item i z (by simpa using q)
  | _, _, _, .tup (a := a) (xs := xs) (ds := ds) h n t, r, hs, hz => by
    obtain ⟨as, hr⟩ := Dv.reads I _ (Dv.tup h n t) r
    cases r
    obtain ⟨its, rv, ⟨o, ho, hc, m, hd⟩, _⟩ := I.tuple (X := X) (SqT.of h)
    have hz' : (tupleText (PyData.shownAll ds)).length ≤ sizeLine := hz
    obtain ⟨bs, hb, hk⟩ := DvAll.under I its t rv hs fun x hx => Nat.le_trans (tupleText_mem_le hx) hz'
    have na : a ∉ bs := not_mem_of_deeper hr (Nat.lt_succ_self _) hb
    exact ⟨a :: bs, ReadAtMost.cons hr (Nat.le_succ _) hb, ReprK.tuple ho hc hd na (by simpa using hk)⟩
  | _, _, _, .dic (a := a) h n, r, hs, hz => by
    obtain ⟨as, hr⟩ := Dv.reads I _ (Dv.dic (S := S) h n) r
    cases r
    obtain ⟨lo, o, m, h1, h2, h3⟩ := dic_at I h
    refine ⟨[a], fun b hb => ?_, ReprK.dict (ps := []) h1 h2 h3 lo (fun z => nomatch z) .nil⟩
    rw [List.mem_singleton] at hb
    subst hb
    exact ⟨_, _, hr, Nat.le_refl _⟩
theorem DvAll.under (I : Inv X pins σ H s) : ∀ {vs : List V} {ds : List PyData} (us : List Value), DvAll S H vs ds → Vals vs us → PyData.showableAll ds = true → (∀ t ∈ PyData.shownAll ds, t.length ≤ sizeLine) →
    ∃ bs, ReadAtMost s.heap (PyData.depthAll ds) bs ∧ ReprAllK X.prog X.w bs s.heap (PyData.depthAll ds) us (PyData.shownAll ds)
  | _, _, _, .nil, r, _, _ => by
    cases r
    exact ⟨[], fun _ h => (nomatch h), .nil⟩
  | _, _, _, .cons (d := d) (ds := ds) h t, r, hs, hz => by
    cases r with
    | cons r1 r2 =>
      have hs' : (d.showable && PyData.showableAll ds) = true := hs
      rw [Bool.and_eq_true] at hs'
      obtain ⟨b1, q1, k1⟩ := Dv.under I _ h r1 hs'.1 (hz _ List.mem_cons_self)
      obtain ⟨b2, q2, k2⟩ := DvAll.under I _ t r2 hs'.2 fun x hx => hz x (List.mem_cons_of_mem _ hx)
      exact ⟨b1 ++ b2, (q1.mono (Nat.le_max_left _ _)).append (q2.mono (Nat.le_max_right _ _)),
        .cons ((k1.more fun b hb => List.mem_append_left _ hb).level_le (Nat.le_max_left _ _)) (k2.more_le (fun b hb => List.mem_append_right _ hb) (Nat.le_max_right _ _))⟩
end
end
section
variable {X : Cx}
/-- repr(x), x any such value -/
def rReprV (S : List Addr) : List V → Hp → VK → Prop := fun xs H Q => ∃ (v : V) (d : PyData), xs = [v] ∧ Dv S H v d ∧ d.showable = true ∧ d.depth ≤ 60 ∧ d.shown.length ≤ sizeLine ∧ Q (.str d.shown) H
theorem cr_reprV {S : List Addr} {k : Nat} (hgd : Gd X.A) (hr : Room k X.A) : CallR X (.builtin "repr") (rReprV S) := by
  intro pins s σ H xs us Q I r h
  obtain ⟨v, d, rfl, hd, hs, hdp, hz, q⟩ := h
  obtain ⟨u, rfl, ru⟩ := Vals.one r
  have hu := hr.un
  have hg1 : X.A.in1.guards = some [] := hgd
  have fin : ∀ (h' : Heap) (u : Tok) (tk : Nat), (∀ b o, s.heap.get? b = some o → h'.get? b = some o) → EP X pins σ Q (.str d.shown u) { s with heap := h', toks := tk } := fun h' u tk hk => ⟨.str d.shown, H, I.kept hk, ⟨u, rfl⟩, q⟩
  cases hd with
  | non => cases ru; exact PySem.P.repr_of_none ⟨.str _, H, I.tok _, ⟨_, rfl⟩, q⟩
  | bl b => cases ru; exact PySem.P.repr_of_bool ⟨.str _, H, I.tok _, ⟨_, rfl⟩, q⟩
  | int i => obtain ⟨t, rfl⟩ := ru; exact PySem.P.repr_of_int (of_decide_eq_true hs) ⟨.str _, H, I.tok _, ⟨_, rfl⟩, q⟩
  | str x => obtain ⟨t, rfl⟩ := ru; exact PySem.P.repr_of_str ⟨.str _, H, I.tok _, ⟨_, rfl⟩, q⟩ hz
  | @lst a xs ds h n t =>
    obtain ⟨as, hr⟩ := Dv.reads I _ (Dv.lst h n t) ru
    cases ru
    obtain ⟨_, its, m, rv, _, e⟩ := I.lstM h
    have hz' : (listText (PyData.shownAll ds)).length ≤ sizeLine := hz
    obtain ⟨bs, hb, hk⟩ := DvAll.under I its t rv hs fun x hx => Nat.le_trans (listText_mem_le hx) hz'
    have na : a ∉ bs := not_mem_of_deeper hr (Nat.lt_succ_self _) hb
    have hdp' : PyData.depthAll ds + 1 ≤ 60 := hdp
    refine call_repr_slot (by omega) (T := "list") ⟨_, e, rfl⟩ F.slot_list_repr.toG ?_
    cases its with
    | nil =>
      cases rv
      cases t
      refine call_list_repr_empty ⟨_, e, rfl⟩ e rfl ?_
      have q2 := fin s.heap s.toks (s.toks + 1) fun _ _ e => e
      have e2 : PyData.shown (.list []) = "[]" := listText_nil
      rw [e2] at q2
      exact ⟨_, _, rfl, q2⟩
    | cons y l =>
      exact call_list_reprK (h₀ := s.heap) e rfl rfl na (by simpa using hk.length_eq) (fun i z q => hk.item i z (by simpa using q)) hg1 (fun b _ => Clear.nil b) (by show X.A.units + 1 + (PyData.depthAll ds + 1) < cLine; omega) (fun _ _ e => e) (fun h' u tk hk' => ⟨_, _, rfl, fin h' u tk hk'⟩) hz'
  | @tup a xs ds h n t =>
    obtain ⟨as, hr⟩ := Dv.reads I _ (Dv.tup h n t) ru
    cases ru
    obtain ⟨its, rv, ⟨o, ho, hc, m, hdt⟩, _⟩ := I.tuple (X := X) (SqT.of h)
    have hz' : (tupleText (PyData.shownAll ds)).length ≤ sizeLine := hz
    obtain ⟨bs, hb, hk⟩ := DvAll.under I its t rv hs fun x hx => Nat.le_trans (tupleText_mem_le hx) hz'
    have na : a ∉ bs := not_mem_of_deeper hr (Nat.lt_succ_self _) hb
    have hdp' : PyData.depthAll ds + 1 ≤ 60 := hdp
    refine call_repr_slot (by omega) (T := "tuple") ⟨_, ho, hc⟩ F.slot_tuple_repr ?_
    exact call_tuple_reprK (h₀ := s.heap) ho hc hdt na (by simpa using hk) hg1 (fun b _ => Clear.nil b) (by show X.A.units + 1 + (PyData.depthAll ds + 1) < cLine; omega) (fun _ _ e => e) (fun h' u tk hk' => ⟨_, _, rfl, fin h' u tk hk'⟩) hz'
  | @dic a h n =>
    cases ru
    obtain ⟨lo, o, m, h1, h2, h3⟩ := dic_at I h
    refine call_repr_slot (by omega) (T := "dict") ⟨_, h1, h2⟩ F.slot_dict_repr ?_
    exact call_dict_reprK (as := []) (h₀ := s.heap) (d := 0) (ps := []) h1 h2 h3 lo (fun z => nomatch z) .nil hg1 (fun b _ => Clear.nil b) (by show X.A.units + 1 + (0 + 1) < cLine; omega) (fun _ _ e => e) (fun h' u tk hk' => ⟨_, _, rfl, fin h' u tk hk'⟩) hz
end
/-! ### isinstance -/
def tyD : PyData → String
  | .none => "NoneType"
  | .bool _ => "bool"
  | .int _ => "int"
  | .str _ => "str"
  | .list _ => "list"
  | .tuple _ => "tuple"
  | .dict _ => "dict"
def CLS : List String := ["tuple", "list", "str", "int", "bool", "dict"]
def TYS : List String := ["NoneType", "bool", "int", "str", "list", "tuple", "dict"]
def isB (T t : String) : Bool := t == T || (T == "int" && t == "bool")
theorem kit_all (K : PySem.W.Frag) : ∀ T ∈ CLS, ∀ t ∈ TYS, PySem.W.kitOne K (.type t) (.type T) = some (isB T t) := by
  intro T hT t ht
  simp only [CLS, TYS, List.mem_cons, List.not_mem_nil, or_false] at hT ht
  rcases hT with rfl | rfl | rfl | rfl | rfl | rfl <;> rcases ht with rfl | rfl | rfl | rfl | rfl | rfl | rfl <;> rfl
/-- of which built-in class -/
def isA (T : String) (d : PyData) : Bool := isB T (tyD d)
theorem tyD_mem (d : PyData) : tyD d ∈ TYS := by
  cases d <;> simp [tyD, TYS]
section
variable {K : PySem.W.Frag} {S : List Addr} {H : Hp}
theorem Dv.ty {v : V} {d : PyData} (h : Dv S H v d) : TyX K H v (.type (tyD d)) := by
  cases h with
  | non => exact .base .non
  | bl b => exact .base (.bl b)
  | int i => exact .base (.int i)
  | str x => exact .base (.str x)
  | lst h _ _ => exact .base (.lst h)
  | tup h _ _ => exact .base (.tup h)
  | dic h _ => exact .base (.dK h)
/-- isinstance(x, T) -/
theorem Dv.isi {v : V} {d : PyData} {T : String} {Q : VK} (h : Dv S H v d) (hT : T ∈ CLS) (q : Q (.bl (isA T d)) H) : rIsi K [v, .ty T] H Q :=
  ⟨v, .ty T, .type (tyD d), .type T, isA T d, rfl, .ty T, h.ty, kit_all K T hT _ (tyD_mem d), q⟩
theorem Dv.tuple {v : V} {d : PyData} (h : Dv S H v d) (hi : isA "tuple" d = true) : ∃ a xs ds, v = .ref a ∧ d = .tuple ds ∧ H a = some (.tup xs) ∧ a ∉ S ∧ DvAll S H xs ds := by
  cases h with
  | tup h n t => exact ⟨_, _, _, rfl, rfl, h, n, t⟩
  | non => cases hi
  | bl b => cases hi
  | int i => cases hi
  | str x => cases hi
  | lst h n t => cases hi
  | dic h n => cases hi
theorem Dv.text {v : V} {d : PyData} (h : Dv S H v d) (hi : isA "str" d = true) : ∃ x, v = .str x ∧ d = .str x := by
  cases h with
  | str x => exact ⟨x, rfl, rfl⟩
  | non => cases hi
  | bl b => cases hi
  | int i => cases hi
  | lst h n t => cases hi
  | tup h n t => cases hi
  | dic h n => cases hi
theorem Dv.number {v : V} {d : PyData} (h : Dv S H v d) (hi : isA "int" d = true) (hb : isA "bool" d = false) : ∃ x, v = .int x ∧ d = .int x := by
  cases h with
  | int x => exact ⟨x, rfl, rfl⟩
  | bl b => cases hb
  | non => cases hi
  | str x => cases hi
  | lst h n t => cases hi
  | tup h n t => cases hi
  | dic h n => cases hi
end
/-! ### == of a list or a tuple and an empty one -/
section
variable {X : Cx}
def rEqE (K : PySem.W.Frag) (neg : Bool) : R2 := fun x y H Q => ∃ a b xs, x = .ref a ∧ y = .ref b ∧ ((SqL K H a xs ∧ SqL K H b []) ∨ (SqT K H a xs ∧ SqT K H b [])) ∧ Q (.bl (if neg then !xs.isEmpty else xs.isEmpty)) H
theorem op_eqE (hu : X.A.units < cLine) : OpR X (compareOp .Eq) (rEqE X.K false) := by
  intro pins s σ H x y v u Q I rx ry h
  obtain ⟨a, b, xs, rfl, rfl, hab, q⟩ := h
  cases rx
  cases ry
  have q' : Q (.bl xs.isEmpty) H := q
  rcases hab with ⟨ha, hb⟩ | ⟨ha, hb⟩
  · obtain ⟨its, r1, p1, _⟩ := I.list ha
    obtain ⟨its2, r2, p2, _⟩ := I.list hb
    cases r2
    cases r1 with
    | nil => exact SeqAt.eq_listAt (e := fun _ => true) p1.isList p2.isList rfl hu (fun j h1 => absurd h1 (Nat.not_lt_zero _)) ⟨.bl true, H, I, rfl, q'⟩
    | cons a1 a2 => exact SeqAt.eq_list_lengthsAt p1.isList p2.isList rfl hu ⟨.bl false, H, I, rfl, q'⟩
  · obtain ⟨its, r1, p1, _⟩ := I.tuple ha
    obtain ⟨its2, r2, p2, _⟩ := I.tuple hb
    cases r2
    cases r1 with
    | nil => exact SeqAt.eq_tupleAt (e := fun _ => true) p1 p2 hu (fun j h1 => absurd h1 (Nat.not_lt_zero _)) ⟨.bl true, H, I, rfl, q'⟩
    | cons a1 a2 =>
      refine SeqAt.eq_tupleAt (e := fun _ => true) p1 p2 hu (fun j _ h2 => absurd h2 (Nat.not_lt_zero _)) ?_
      exact ⟨.bl false, H, I, by simp [L2.RelV], q'⟩
theorem op_neE (hu : X.A.units < cLine) : OpR X (compareOp .NotEq) (rEqE X.K true) := by
  intro pins s σ H x y v u Q I rx ry h
  obtain ⟨a, b, xs, rfl, rfl, hab, q⟩ := h
  cases rx
  cases ry
  have q' : Q (.bl (!xs.isEmpty)) H := q
  rcases hab with ⟨ha, hb⟩ | ⟨ha, hb⟩
  · obtain ⟨its, r1, p1, _⟩ := I.list ha
    obtain ⟨its2, r2, p2, _⟩ := I.list hb
    cases r2
    cases r1 with
    | nil => exact SeqAt.RcNeAt.lists (e := fun _ => true) p1.isList p2.isList rfl hu (fun j h1 => absurd h1 (Nat.not_lt_zero _)) _ _ _ _ ⟨.bl false, H, I, rfl, q'⟩
    | cons a1 a2 => exact SeqAt.RcNeAt.lists_lengths p1.isList p2.isList rfl hu _ _ _ _ ⟨.bl true, H, I, rfl, q'⟩
  · obtain ⟨its, r1, p1, _⟩ := I.tuple ha
    obtain ⟨its2, r2, p2, _⟩ := I.tuple hb
    cases r2
    cases r1 with
    | nil => exact SeqAt.RcNeAt.tuples (e := fun _ => true) p1 p2 hu (fun j h1 => absurd h1 (Nat.not_lt_zero _)) _ _ _ _ ⟨.bl false, H, I, rfl, q'⟩
    | cons a1 a2 =>
      refine SeqAt.RcNeAt.tuples (e := fun _ => true) p1 p2 hu (fun j _ h2 => absurd h2 (Nat.not_lt_zero _)) _ _ _ _ ?_
      exact ⟨.bl true, H, I, by simp [L2.RelV], q'⟩
end
/-! ### small values -/
mutual
/-- short texts, small numbers, no dict but empty ones -/
def okv : PyData → Bool
  | .none | .bool _ => true
  | .int i => decide (i.natAbs < 10 ^ 40)
  | .str x => PyData.strOk x && decide (x.length ≤ 1000)
  | .list xs | .tuple xs => decide (xs.length ≤ 1000) && okvAll xs
  | .dict kvs => kvs.isEmpty
def okvAll : List PyData → Bool
  | [] => true
  | x :: xs => okv x && okvAll xs
end
theorem okvAll_iff : ∀ {l : List PyData}, okvAll l = true ↔ ∀ d ∈ l, okv d = true
  | [] => by simp [okvAll]
  | x :: l => by
    rw [okvAll, Bool.and_eq_true, okvAll_iff (l := l)]
    simp
mutual
theorem okv_short : ∀ d : PyData, okv d = true → d.leavesShort 44 = true ∧ d.showable = true
  | .none, _ => ⟨rfl, rfl⟩
  | .bool _, _ => ⟨rfl, rfl⟩
  | .int i, h => by
    have h' : i.natAbs < 10 ^ 40 := of_decide_eq_true h
    have q := int_text_length_le10 (k := 40) (by decide) h'
    refine ⟨?_, decide_eq_true (int_log h')⟩
    show decide ((PyData.shown (.int i)).length ≤ 44) = true
    refine decide_eq_true ?_
    show (PySem.Str.ofString (toString i)).length ≤ 44
    rw [PySem.ofString_length]
    omega
  | .str x, h => by
    have h' : (PyData.strOk x && decide (x.length ≤ 1000)) = true := h
    rw [Bool.and_eq_true] at h'
    have h2 : x.cps.all (· < 0x110000) = true := h'.1
    refine ⟨?_, rfl⟩
    show x.cps.toList.all (fun c => decide (c < 16 ^ 8)) = true
    rw [List.all_eq_true]
    intro c hc
    rw [Array.all_eq_true'] at h2
    have q := h2 c (by simpa using hc)
    have q' : c < 0x110000 := by simpa using q
    exact decide_eq_true (Nat.lt_trans q' (by decide))
  | .list xs, h => okvAll_short xs (Bool.and_eq_true_iff.mp h).2
  | .tuple xs, h => okvAll_short xs (Bool.and_eq_true_iff.mp h).2
  | .dict kvs, h => by
    cases kvs with
    | nil => exact ⟨rfl, rfl⟩
    | cons a l => cases h
theorem okvAll_short : ∀ l : List PyData, okvAll l = true → PyData.leavesShortAll 44 l = true ∧ PyData.showableAll l = true
  | [], _ => ⟨rfl, rfl⟩
  | x :: l, h => by
    rw [okvAll, Bool.and_eq_true] at h
    obtain ⟨a1, a2⟩ := okv_short x h.1
    obtain ⟨b1, b2⟩ := okvAll_short l h.2
    refine ⟨?_, ?_⟩
    · show (PyData.leavesShort 44 x && PyData.leavesShortAll 44 l) = true
      rw [a1, b1]; rfl
    · show (PyData.showable x && PyData.showableAll l) = true
      rw [a2, b2]; rfl
end
theorem okv_fits {d : PyData} (h : okv d = true) (hb : d.bulk ≤ 300000) : d.shown.length ≤ sizeLine := by
  have q := PyData.shown_le_bulk 44 (by decide) d (okv_short d h).1
  rw [sizeLine_eq]
  omega
/-! ### t[k:] -/
theorem cut_from (xs : List V) (k : Nat) (h : k ≤ xs.length) : cutV xs (some (k : Int)) none = xs.drop k := by
  unfold cutV
  rw [HT.sIx_none, HT.sIx_nat, Nat.min_eq_left h]
  exact List.take_of_length_le (by rw [List.length_drop]; omega)
theorem cut_to (xs : List V) (k : Nat) (h : k ≤ xs.length) : cutV xs none (some (k : Int)) = xs.take k := by
  unfold cutV
  rw [HT.sIx_none, HT.sIx_nat, Nat.min_eq_left h, Nat.sub_zero, List.drop_zero]
theorem slA_from {K : PySem.W.Frag} {H : Hp} {Q : VK} {a : Addr} {xs : List V} {n : Int} {k : Nat} (hn : n = (k : Int)) (ha : H a = some (.tup xs)) (q : ∀ H' p, Same H H' → H' p = some (.tup (xs.drop k)) → (p = a ∨ H p = none) → Q (.ref p) H') : rSlA K (.ref a) (some n) none H Q := by
  subst hn
  refine ⟨a, xs, rfl, SqT.of ha, fun hw => ?_, fun hw p hp => ?_⟩
  · have h1 := hw.1
    rw [HT.sIx_nat] at h1
    refine q H a (Same.refl H) ?_ (.inl rfl)
    by_cases hk : k = 0
    · subst hk
      exact ha
    · have h0 : xs = [] := List.length_eq_zero_iff.mp (by omega)
      rw [h0] at ha ⊢
      rw [List.drop_nil]
      exact ha
  · refine q _ p (same_new hp) ?_ (.inr hp)
    rw [upd_same]
    by_cases hk : k ≤ xs.length
    · rw [cut_from xs k hk]
    · unfold cutV
      rw [HT.sIx_none, HT.sIx_nat, Nat.min_eq_right (by omega), List.drop_length, List.drop_eq_nil_of_le (by omega), List.take_nil]
/-- all of S are tracked -/
def Trk (S : List Addr) (H : Hp) : Prop := ∀ a ∈ S, H a ≠ none
theorem Trk.same {S : List Addr} {H H' : Hp} (h : Trk S H) (k : Same H H') : Trk S H' := fun a m e => by
  cases q : H a with
  | none => exact h a m q
  | some o =>
    rw [k a o q] at e
    cases e
theorem Trk.out {S : List Addr} {H : Hp} {p : Addr} (h : Trk S H) (n : H p = none) : p ∉ S := fun m => h p m n
mutual
theorem Dv.fresh {S : List Addr} {H : Hp} {p : Addr} (n : H p = none) : ∀ {v : V} {d : PyData}, Dv S H v d → Dv (p :: S) H v d
  | _, _, .non => .non
  | _, _, .bl b => .bl b
  | _, _, .int i => .int i
  | _, _, .str x => .str x
  | _, _, .lst h m t => .lst h (fun q => by
      rcases List.mem_cons.mp q with rfl | q
      · rw [n] at h; cases h
      · exact m q) (DvAll.fresh n t)
  | _, _, .tup h m t => .tup h (fun q => by
      rcases List.mem_cons.mp q with rfl | q
      · rw [n] at h; cases h
      · exact m q) (DvAll.fresh n t)
  | _, _, .dic h m => .dic h (fun q => by
      rcases List.mem_cons.mp q with rfl | q
      · rw [n] at h; cases h
      · exact m q)
theorem DvAll.fresh {S : List Addr} {H : Hp} {p : Addr} (n : H p = none) : ∀ {vs : List V} {ds : List PyData}, DvAll S H vs ds → DvAll (p :: S) H vs ds
  | _, _, .nil => .nil
  | _, _, .cons h t => .cons (Dv.fresh n h) (DvAll.fresh n t)
end
theorem okv_tup {ds : List PyData} (h : okv (.tuple ds) = true) : ds.length ≤ 1000 ∧ ∀ d ∈ ds, okv d = true := by
  obtain ⟨h1, h2⟩ := Bool.and_eq_true_iff.mp h
  exact ⟨of_decide_eq_true h1, okvAll_iff.mp h2⟩
end Zv
set_option Elab.async false
set_option linter.all false
set_option maxRecDepth 100000
set_option maxHeartbeats 4000000
/-! Zt: sorted texts are one. -/
namespace Zt
open PySem PySem.Spec PyProof.Rows L2
theorem le_trans' {a b c : List Nat} (h1 : ¬ b < a) (h2 : ¬ c < b) : ¬ c < a := by
  have q1 : a ≤ b := h1
  have q2 : b ≤ c := h2
  exact List.le_trans q1 q2
theorem rising_pw : ∀ (l : List PySem.Str) (p : PySem.Str), risingS p l = true → (p :: l).Pairwise (fun a b => ¬ b.cps.toList < a.cps.toList)
  | [], p, _ => List.pairwise_singleton _ _
  | x :: r, p, h => by
    have h' : (!ltCps x.cps.toList p.cps.toList && risingS x r) = true := h
    rw [Bool.and_eq_true, ltCps_eq] at h'
    have q := rising_pw r x h'.2
    have e : ¬ x.cps.toList < p.cps.toList := by simpa using h'.1
    refine List.Pairwise.cons (fun y hy => ?_) q
    rcases List.mem_cons.mp hy with rfl | hy
    · exact e
    · exact le_trans' e ((List.pairwise_cons.mp q).1 y hy)
theorem sorted_pw : ∀ (l : List PySem.Str), sortedS l = true → l.Pairwise (fun a b => ¬ b.cps.toList < a.cps.toList)
  | [], _ => List.Pairwise.nil
  | x :: r, h => rising_pw r x h
theorem str_ext {x y : PySem.Str} (h : x.cps.toList = y.cps.toList) : x = y := by
  obtain ⟨⟨x⟩⟩ := x
  obtain ⟨⟨y⟩⟩ := y
  have h' : x = y := h
  rw [h']
theorem sorted_uniq {l m : List PySem.Str} (h1 : sortedS l = true) (h2 : sortedS m = true) (n1 : l.Nodup) (n2 : m.Nodup) (h : ∀ x, x ∈ l ↔ x ∈ m) : l = m :=
  List.Perm.eq_of_pairwise (le := fun a b : PySem.Str => ¬ b.cps.toList < a.cps.toList) (fun a b _ _ p q => str_ext (List.le_antisymm p q)) (sorted_pw l h1) (sorted_pw m h2) ((List.perm_ext_iff_of_nodup n1 n2).mpr h)
end Zt
set_option Elab.async false
set_option linter.all false
set_option maxRecDepth 100000
set_option maxHeartbeats 4000000
/-! Yo: sorted of a list of pairs of a text and a number. -/
namespace Yo
open PySem PyProof.Rows
section
variable {prog : Program} {w : World} {A : Around} {E : Value → Shared → Prop} {s : Shared}
/-- a text and a number stand at v -/
def TxN (h : Heap) (v : Value) : Prop := ∃ (x : Str) (y : Int) (a : Addr) (o : Obj) (t u : Tok) (n : Nat), v = .ref a ∧ h.get? a = some o ∧ o.cls = .type "tuple" ∧ o.data = .seq #[.str x t, .int y u] n
theorem cmpd {vs : List Value} (hp : ∀ v ∈ vs, TxN s.heap v) : Srt.Tot prog w A s (tuples' true) (fun p => p.1 ∈ vs) := by
  rintro p q hm hm'
  obtain ⟨x, y, a, o, t, u, n, e, ho, -, hd⟩ := hp _ hm
  obtain ⟨x', y', a', o', t', u', n', e', ho', -, hd'⟩ := hp _ hm'
  rw [e, e']
  by_cases ex : x = x'
  · by_cases ey : y = y'
    · refine ⟨false, PySem.W.kat_lt ho hd ho' hd' ?_⟩
      show PySem.W.KatLex prog w A true (decide (2 < 2)) _ [(.str x t, .str x' t'), (.int y u, .int y' u')] 0 s
      refine PySem.W.kat_cons (SeqAt.EqAt.str_str x t x' t' prog w _ _ ?_)
      rw [beq_iff_eq.mpr ex]
      refine PySem.W.kat_yes (PySem.W.kat_cons (SeqAt.EqAt.int_int y u y' u' prog w _ _ ?_))
      rw [beq_iff_eq.mpr ey]
      exact PySem.W.kat_yes (PySem.W.kat_nil ⟨rfl, rfl⟩)
    · refine ⟨decide (y < y'), PySem.W.kat_lt ho hd ho' hd' ?_⟩
      show PySem.W.KatLex prog w A true (decide (2 < 2)) _ [(.str x t, .str x' t'), (.int y u, .int y' u')] 0 s
      refine PySem.W.kat_cons (SeqAt.EqAt.str_str x t x' t' prog w _ _ ?_)
      rw [beq_iff_eq.mpr ex]
      refine PySem.W.kat_yes (PySem.W.kat_cons (SeqAt.EqAt.int_int y u y' u' prog w _ _ ?_))
      rw [beq_eq_false_iff_ne.mpr ey]
      refine PySem.W.kat_no (PySem.W.kat_one _ _ (PyProof.Rows.lt_int ?_))
      exact (show s = s ∧ decide (y < y') = decide (y < y') from ⟨rfl, rfl⟩)
  · refine ⟨decide (x.cps.toList < x'.cps.toList), PySem.W.kat_lt ho hd ho' hd' ?_⟩
    show PySem.W.KatLex prog w A true (decide (2 < 2)) _ [(.str x t, .str x' t'), (.int y u, .int y' u')] 0 s
    refine PySem.W.kat_cons (SeqAt.EqAt.str_str x t x' t' prog w _ _ ?_)
    rw [beq_eq_false_iff_ne.mpr ex]
    exact PySem.W.kat_no (oneLt_str ⟨rfl, rfl⟩)
theorem heads {h : Heap} : ∀ {vs : List Value}, (∀ v ∈ vs, TxN h v) → ∃ fs : List Value, PySem.W.KatTups h vs fs ∧ fs.length = vs.length ∧ ∀ f ∈ fs, ∃ x t, f = Value.str x t
  | [], _ => ⟨[], PySem.W.KatTups.nil, rfl, fun _ hm => by cases hm⟩
  | v :: vs, hp => by
    obtain ⟨x, y, a, o, t, u, n, rfl, ho, hc, hd⟩ := hp v List.mem_cons_self
    obtain ⟨fs, g1, g2, g3⟩ := heads (vs := vs) fun q m => hp q (List.mem_cons_of_mem _ m)
    refine ⟨.str x t :: fs, PySem.W.KatTups.cons ho hc hd rfl g1, congrArg (· + 1) g2, fun f m => ?_⟩
    rcases List.mem_cons.mp m with rfl | m
    · exact ⟨x, t, rfl⟩
    · exact g3 f m
theorem can_sort {a : Addr} {vs : List Value} (h0 : 0 < vs.length) (hp : ∀ v ∈ vs, TxN s.heap v) (ha : ∀ o, s.heap.get? a = some o → o.cls ≠ .type "tuple") : Srt.Sortable prog w A s a vs := fun h' keep => by
  have hp' : ∀ v ∈ vs, TxN h' v := fun v m => by
    obtain ⟨x, y, b, o, t, u, n, e, ho, hc, hd⟩ := hp v m
    exact ⟨x, y, b, o, t, u, n, e, keep b o (fun z => ha o (z ▸ ho) hc) ho, hc, hd⟩
  obtain ⟨fs, g1, g2, g3⟩ := heads hp'
  refine ⟨tuples' true, fun Q E hq => PySem.W.kat_kind (T := .type "str") g1 (by omega) (fun f m => ?_) (by rfl) ?_, cmpd hp'⟩
  · obtain ⟨x, t, rfl⟩ := g3 f m
    exact PySem.W.Looks.now
  · rw [show (Value.type "str" != Value.type "tuple") = true by decide +kernel]
    exact hq
theorem sorts {l : Addr} {vs : List Value} {Q : Value → Shared → Prop} (hl : s.heap.IsList l vs.toArray) (hz : vs.length ≤ sizeLine) (hp : ∀ v ∈ vs, TxN s.heap v)
    (h : ∀ (h' : Heap) (d : Addr) (out : List Value), out.Perm vs → (∀ b o, s.heap.get? b = some o → h'.get? b = some o) → s.heap.objs.size ≤ d → (∃ n, h'.get? d = some (seqObj "list" out.toArray n)) → Q (.ref d) { s with heap := h' }) :
    wpAny (model prog w) A (call (.builtin "sorted") [.ref l]) Q E s := by
  refine Srt.sorted_any hl hz (fun h2 h₁ a ha k => can_sort (s := { s with heap := h₁ }) (by omega) (fun v m => ?_) fun o e c => ?_) fun out ho => h _ _ out ho (fun b o e => sortedAll_old e) (Nat.le_succ _) (sortedAll_at s.heap vs out.toArray)
  · obtain ⟨x, y, b, o, t, u, n, e, ho, hc, hd⟩ := hp v m
    exact ⟨x, y, b, o, t, u, n, e, (k b o ho).2, hc, hd⟩
  · cases (show some o = some (seqObj "list" vs.toArray 0) from e.symm.trans ha)
    exact absurd (Value.type.inj c) (by decide)
end
open L2 PySem.Spec
section
variable {X : Cx}
/-- sorted(xs), xs a list of pairs of a text and a number: the same pairs, in some order -/
def rSortedSN (K : PySem.W.Frag) : List V → Hp → VK → Prop := fun vs H Q => ∃ a xs, vs = [V.ref a] ∧ SqL K H a xs ∧ (∀ x ∈ xs, ∃ (t : Addr) (i : Str) (j : Int), x = V.ref t ∧ H t = some (.tup [.str i, .int j])) ∧ ∀ ys p, ys.Perm xs → H p = none → Q (.ref p) (upd H p (.lst ys))
theorem cr_sortedSN : CallR X (.builtin "sorted") (rSortedSN X.K) := fun pins s σ H vs us Q I r h => by
  obtain ⟨a, xs, rfl, hs, hx, q⟩ := h
  obtain ⟨its, rv, hl, hz⟩ := I.list hs
  obtain ⟨u, rfl, ru⟩ := vals1 r
  obtain rfl : u = Value.ref a := ru
  obtain ⟨e1, e2⟩ := refs_back rv fun x m => by
    obtain ⟨t, _, _, e, _⟩ := hx x m
    exact ⟨t, e⟩
  have hz' : its.length ≤ sizeLine := by rw [← rv.length]; exact hz
  refine sorts hl.isList hz' (fun v hv => ?_) fun h' d out hp k hd ⟨n, hn⟩ => ?_
  · obtain ⟨t, rfl⟩ := e2 v hv
    obtain ⟨t', i, j, e, ht⟩ := hx (V.ref t) (by rw [e1]; exact List.mem_map.mpr ⟨_, hv, rfl⟩)
    cases e
    obtain ⟨_, its2, r2, o, ho, hc, n, hd⟩ := I.hok _ _ ht
    obtain ⟨u1, u2, rfl, ⟨t1, rfl⟩, ⟨t2, rfl⟩⟩ := vals2 r2
    exact ⟨i, j, t, o, t1, t2, n, rfl, ho, hc, hd⟩
  · refine ⟨.ref d, upd H d (.lst (out.map backV)), I.laid (t' := s.toks) k hd ⟨?_, out, n, vals_back fun u m => e2 u (hp.mem_iff.mp m), hn⟩, rfl, q _ d ?_ (I.hok.fresh hd)⟩
    · rw [List.length_map, hp.length_eq]
      exact hz'
    · rw [e1]
      exact hp.map backV
end
end Yo
set_option Elab.async false
set_option linter.all false
set_option maxRecDepth 100000
set_option maxHeartbeats 4000000
/-! Sk: cls(e, *t, k = v), cls a local that holds a class whose __init__ has a star and keyword-only parameters; o.m(k = v, ..). -/
namespace Sk
open PySem PySem.Spec PyProof.Rows L2
section
variable {M : Model} {A : Around} {E : Value → Shared → Prop} {s : Shared} {K : PySem.W.Frag}
/-- a call's node with stars and keywords -/
theorem node {f : Value} {pos : Pos} {Q : Value → Shared → Prop} {args : List (Bool × Sem Value)} {kws : List (Option PySem.Str × Sem Value)} (hst : (args.any (·.1) || kws.any (·.1.isNone)) = true) (hk : PySem.W.keepIn K f = true)
    (h : wpAny M A (evalArgs f true args kws) (fun a s₁ => K.In s₁.heap ∧ wpAny M A (call f a.pos a.kw) Q E s₁) E s) : wpAny M A (callWith pos f [] args kws) Q E s := by
  unfold callWith
  refine wpAny_bind (wpAny_holding (wpAny_mono h (fun a s₁ h₁ => wpAny_bind (wpAny_standAt ?_)) fun _ _ x => x))
  obtain ⟨k, hk', L⟩ := PySem.W.keeps_K (M := M) hk _ h₁.1
  simp only [hst]
  refine wpAny_bind (L.here ?_)
  have fin : ∀ {t : Sem Value}, wpAny M A t Q E s₁ → wpAny M A (t >>= fun r => holding [r] point >>= fun _ => pure r) Q E s₁ := fun ht =>
    wpAny_bind (wpAny_mono ht (fun r s₂ hr => wpAny_bind (wpAny_holding (wpAny_point (wpAny_pure hr)))) fun _ _ x => x)
  have mk (c : Value) : wpAny M A (callMarked c f ([] ++ a.pos) a.kw) Q E s₁ := by
    unfold callMarked
    exact Calls.wpAny_keep h₁.2
  rcases hk' with rfl | rfl | rfl <;> dsimp only <;> first | exact fin (mk _) | exact fin (wpAny_operating h₁.2)
end
/-- a promise by positional values and the values of the keywords ks -/
def FnK (P : Program) (w : World) (K : PySem.W.Frag) (mg : PySem.Str → Option Value) (base : Heap) (CX : CXT) (k : Nat) (f : Addr) (ks : List PySem.Str) (sp : List V → Sp) : Prop :=
  ∀ (A : Around) (outer : List Env) (s : Shared) (H : Hp) (us ws : List Value) (vs zs : List V) (Q : VK) (E : XK), Room k A → Env0 P w K mg base A outer s H → Vals vs us → Vals zs ws → zs.length = ks.length → sp zs vs H Q E →
    codeAny (model P w) A (.call (.ref f) ⟨us, ks.zip ws⟩) (CR CX outer P w H s Q E) s
section
variable {CX : CXT} {P : Program} {w : World} {K : PySem.W.Frag} {mg : PySem.Str → Option Value} {base : Heap} {k : Nat} {f : Addr} {name qual : PySem.Str} {st : Stmt} {fd : FuncData} {N ps pk : List PySem.Str} {pv : PySem.Str} {sp : List V → Sp}
/-- def f(a, .., *v, k, ..), called with all its keyword-only parameters: what is left over is a new tuple -/
theorem fn_starK (F : Fun K name qual st f fd) (S : FnScope N (ps ++ pk ++ [pv]) (defScope st)) (hCX : StX.CXUp CX)
    (hb : ∀ (kV doc pm : Value) (an : Option Addr) (cdv ct : Value) (us rest ws : List Value), us.length = ps.length → ws.length = pk.length →
      bindArgs (PySem.W.fnOf name qual (defArgs st) (defBody st) (defScope st) .none kV doc pm an cdv ct) ⟨us ++ rest, pk.zip ws⟩ = (newTuple rest >>= fun t => pure ((ps ++ pk).zip (us ++ ws) ++ [(pv, t)])))
    (hbody : ∀ (cdv : Value) (A : Around) (outer : List Env) (s : Shared) (H : Hp) (vs rest zs : List V) (Q : VK) (E : XK), Room k (A.deeper (envOfC qual (defScope st) s.heap.objs.size f cdv)) → vs.length = ps.length → zs.length = pk.length → sp zs (vs ++ rest) H Q E → ∀ p, H p = none →
      ∃ t, PSs (cxOf CX P w K mg base N qual (defScope st) f cdv A outer s (upd H p (.tup rest)) E) (defBody st) t ∧ t { nx := fun _ H' => Q .non H', rt := Q } (start N (vs ++ zs ++ [V.ref p])) (upd H p (.tup rest)))
    (hlen : ∀ zs vs H Q E, sp zs vs H Q E → ps.length ≤ vs.length ∧ vs.length ≤ sizeLine) :
    FnK P w K mg base CX (k + 1) f pk sp := by
  obtain ⟨oc, od, kV, doc, pm, an, cdv, ct, osl, rfl, lk, hcd⟩ := F.ex
  intro A outer s H us ws vs zs Q E hr e0 r rz hz hsp
  obtain ⟨hl0, hl1⟩ := hlen _ _ _ _ _ hsp
  obtain ⟨v1, v2, ev, hv1⟩ : ∃ v1 v2, vs = v1 ++ v2 ∧ v1.length = ps.length := ⟨vs.take ps.length, vs.drop ps.length, (List.take_append_drop _ _).symm, by rw [List.length_take]; omega⟩
  subst ev
  obtain ⟨u1, u2, eu, r1, r2⟩ := StX.vals_split r
  subst eu
  have hn : H s.heap.objs.size = Option.none := e0.hok.fresh (Nat.le_refl _)
  have h1 : u1.length = ps.length := by rw [← r1.length]; exact hv1
  have h2 : v2.length ≤ sizeLine := by
    rw [List.length_append] at hl1
    omega
  have h3 : u2.length ≤ sizeLine := by rw [← r2.length]; exact h2
  have h4 : ws.length = pk.length := by rw [← rz.length]; exact hz
  refine StX.run_bnd lk hcd S hr e0 (G := fun xs H2 => ∃ p, H p = Option.none ∧ xs = v1 ++ zs ++ [V.ref p] ∧ H2 = upd H p (.tup v2)) (fun A' Ex Q' h => ?_) fun s2 H2 xs ⟨p, hp, ex, eH⟩ hr' => ?_
  · rw [hb kV doc pm an cdv ct u1 u2 ws h1 h4]
    refine wpAny_bind (wpAny_newTuple (wpAny_pure ?_) h3)
    have new : ObjOk P w (upd H s.heap.objs.size (.tup v2)) (s.heap.push ({ cls := .type "tuple", data := .seq u2.toArray } : Obj)) s.heap.objs.size (.tup v2) := ⟨h2, u2, r2, ⟨_, Heap.get?_push_size _ rfl, rfl, _, rfl⟩⟩
    have un := StX.un_laid (fs := frs outer) (s := s) (o := ({ cls := .type "tuple", data := .seq u2.toArray } : Obj)) (u := .tup v2) hn
    have z := h _ _ (v1 ++ zs ++ [V.ref s.heap.objs.size]) (u1 ++ ws ++ [Value.ref s.heap.objs.size]) (StX.env0_laid e0 new) un rfl (fun e s' => hCX outer s H _ _ E e s' un (fun b o q => Heap.get?_push_of_some _ q) rfl) ((r1.append rz).append (.cons rfl .nil))
      (by simp only [List.length_append, hv1, hz, List.length_cons, List.length_nil]) ⟨_, hn, rfl, rfl⟩
    rw [List.zip_append (by simp only [List.length_append, h1, h4])] at z
    exact z
  · subst ex eH
    exact hbody cdv A outer s2 H v1 v2 zs Q E hr' hv1 hz hsp p hp
end
/-- cls(e, .., k = v, ..), the i-th slot holds the class at C -/
def tClsK (i : Nat) (C : Addr) (m : Nat) (sp : List V → Sp) (E : XK) (t tk : TA) : TE := fun σ H Q => σ[i]? = some (some (.ref C)) ∧ t σ H fun vs H1 => tk σ H1 fun zs H2 => zs.length = m ∧
  ∀ x dx, H2 x = Option.none → H2 dx = Option.none → dx ≠ x → sp zs (V.ref x :: vs) (upd (upd H2 dx (.own x)) x (.ins C dx [])) (fun v H3 => v = .non ∧ Q (.ref x) H3) E
section
variable {X : Cx} {CX : CXT} {k i : Nat} {f C : Addr} {ks : List PySem.Str} {sp : List V → Sp} {E : XK} {x : PySem.Str} {p pos : Pos} {e : Expr} {es : List Expr} {kws : List Keyword} {t tk : TA}
theorem pe_clsK (M : Mk X.K C f) (F : FnK X.prog X.w X.K X.mg X.base CX k f ks sp) (hr : Room (k + 1) X.A) (hN : X.N[i]? = some x) (hv : Vis X.env.scope x) (hx : Passes CX X E) (ha : PA X (e :: es) t) (hkw : PK X kws tk)
    (hst : ((backTo pos (starEach (e :: es) X.env)).any (·.1) || (backToKw pos (keywordEach kws X.env)).any (·.1.isNone)) = true := by rfl)
    (hall : (backToKw pos (keywordEach kws X.env)).all (·.1.isSome) = true := by rfl) (hks : (backToKw pos (keywordEach kws X.env)).filterMap (·.1) = ks := by rfl)
    (hdb : (x == ("__debug__" : PySem.Str)) = false := by decide) (hcd : (x == ("__classdict__" : PySem.Str)) = false := by decide)
    (he : starEach (e :: es) X.env = (false, eval e X.env) :: starEach es X.env := by rfl) :
    PE X (.Call (.Name x p) (e :: es) kws pos) (tClsK i C ks.length sp E t tk) := by
  refine ⟨fun pins s σ H Q I h => ?_⟩
  obtain ⟨hs, ht⟩ := h
  refine wpAny_Call_Name_kw (thn ((pe_var (pos := p) hN hv hdb hcd).run pins s σ H (fun v H1 => v = .ref C ∧ H1 = H) I ⟨.ref C, hs, rfl, rfl⟩) fun u s1 ⟨v, H1, I1, r1, q1⟩ => ?_)
  obtain ⟨rfl, rfl⟩ := q1
  cases r1
  refine node hst M.kp (evalArgs_kw2 hall (thn (ha.run pos pins s1 σ _ _ I1 ht) fun us s2 ⟨vs, H2, I2, r, q⟩ => ?_) he)
  refine thn (hkw.run pos pins s2 σ H2 _ I2 q) fun ws s3 ⟨zs, H3, I3, rz, l2, q3⟩ => ⟨I3.kIn, ?_⟩
  rw [hks]
  have hq := q3 (s3.heap.objs.size + 1) s3.heap.objs.size (I3.hok.fresh (Nat.le_succ _)) (I3.hok.fresh (Nat.le_refl _)) (Nat.ne_of_lt (Nat.lt_succ_self _))
  have I4 := Inv.made (C := C) I3
  refine wpAny_call (make_map (f := f) I3.kIn M.makes M.init (beq_iff_eq.mp M.fn) (codeAny_mono (F _ X.stack _ _ (Value.ref (s3.heap.objs.size + 1) :: us) ws (V.ref (s3.heap.objs.size + 1) :: vs) zs _ E (hr.make C us (ks.zip ws))
    (I4.env0.make C us (ks.zip ws)) (.cons rfl r) rz l2 hq) fun r s' hq' => ?_))
  cases r with
  | error e => exact hx pins σ _ _ e s' I4 hq'
  | ok fl =>
    cases fl with
    | ret u =>
      obtain ⟨v, H', I5, rv, ev, q5⟩ := I4.after hq'
      subst ev
      exact ⟨rv, ⟨V.ref (s3.heap.objs.size + 1), H', I5, rfl, q5⟩⟩
    | next => exact False.elim hq'
    | brk => exact False.elim hq'
    | cont => exact False.elim hq'
end
/-- o.m(k = v, ..) -/
def tMethKw (C : Addr) (m : PySem.Str) (n : Nat) (sp : Sp) (gV : List V → List V → List V) (E : XK) (ta : TE) (tk : TA) : TE := fun σ H Q => ta σ H fun x H1 => ∃ a dx fs, x = .ref a ∧ H1 a = some (.ins C dx fs) ∧ fs.lookup m = none ∧
  tk σ H1 fun zs H2 => zs.length = n ∧ sp (gV [.ref a] zs) H2 Q E
section
variable {X : Cx} {CX : CXT} {k : Nat} {f C : Addr} {fd : FuncData} {ps ks : List PySem.Str} {sp : Sp} {E : XK} {m : PySem.Str} {apos pos : Pos} {o : Expr} {kws : List Keyword} {ta : TE} {tk : TA} {g : List Value → List Value → List Value} {gV : List V → List V → List V} {pl : Sem Bool}
theorem pe_methKw (he : PE X o ta) (c : Cls X.K C) (hm : Meth X.K C m f) (F : FnOk X.prog X.w X.K X.mg X.base CX k f fd ps sp) (hr : Room k X.A) (hb : KBn X.K fd ps 1 ks g gV) (hx : Passes CX X E) (hkw : PK X kws tk)
    (hall : (backToKw pos (keywordEach kws X.env)).all (·.1.isSome) = true := by rfl) (hks : (backToKw pos (keywordEach kws X.env)).filterMap (·.1) = ks := by rfl)
    (hpl : ((backTo pos (starEach [] X.env)).any (·.1) || (backToKw pos (keywordEach kws X.env)).any (·.1.isNone)) = false := by rfl)
    (ht : eval (.Call (.Attribute o m apos) [] kws pos) X.env = (do
      let ov ← eval o X.env
      standAt apos.atName
      let (f, first) ← holding [ov] (getMethod ov m pl)
      callWith pos f first (backTo pos (starEach [] X.env)) (backToKw pos (keywordEach kws X.env))) := by rfl) :
    PE X (.Call (.Attribute o m apos) [] kws pos) (tMethKw C m ks.length sp gV E ta tk) := by
  refine ⟨fun pins s σ H Q I h => ?_⟩
  refine PySem.W.methodCall_KW (pl := pl) (thn (he.run pins s σ H _ I h) fun u s1 ⟨x, H1, I1, rx, a, dx, fs, ex, ea, l, q⟩ => ?_) ht
  subst ex
  obtain rfl : u = Value.ref a := rx
  refine getmeth_ok I1 ea c hm l ?_
  refine PySem.W.callWith_KW0 (h₀ := X.base) I1.ok.mod.kin hm.kp hall ?_ hpl
  refine thn (hkw.run pos pins s1 σ H1 _ I1 q) fun ws s2 ⟨zs, H2, I2, rz, l2, q2⟩ => ⟨I2.kIn, ?_⟩
  rw [hks]
  exact run_fnN (us := [.ref a]) (vs := [.ref a]) F hr hb hx I2 (.cons rfl .nil) rz rfl l2 q2
end
/-- how such a call binds, of a def of the text -/
theorem kb1 {K : PySem.W.Frag} {x qual : PySem.Str} {st : Stmt} {f : Addr} {fd : FuncData} {ps ks : List PySem.Str} {g : List Value → List Value → List Value} {gV : List V → List V → List V} (F : Fun K x qual st f fd)
    (h : ∀ (kV doc pm : Value) (an : Option Addr) (cdv ct : Value) (us ws : List Value), us.length = 1 → ws.length = ks.length → bindArgs (PySem.W.fnOf x qual (defArgs st) (defBody st) (defScope st) .none kV doc pm an cdv ct) ⟨us, ks.zip ws⟩ = pure (ps.zip (g us ws)))
    (r : ∀ {vs : List V} {us : List Value} {zs : List V} {ws : List Value}, Vals vs us → Vals zs ws → Vals (gV vs zs) (g us ws)) : KBn K fd ps 1 ks g gV := by
  obtain ⟨oc, od, kV, doc, pm, an, cdv, ct, osl, rfl, lk, hcd⟩ := F.ex
  exact ⟨fun s us ws _ h1 h2 => .of_eq (h kV doc pm an cdv ct us ws h1 h2), r⟩
end Sk
set_option Elab.async false
set_option linter.all false
set_option maxRecDepth 100000
set_option maxHeartbeats 4000000
/-! Sp: sorted of a tuple of pairs whose texts differ; tuple(list) as an object that is known; dict of such a tuple. -/
namespace Sp
open PySem PyProof.Rows
/-- the text ahead in a pair -/
abbrev ltS (k : Value → PySem.Str) (x y : Value) : Bool := decide ((k x).cps.toList < (k y).cps.toList)
theorem swoS {α : Type} (k : α → PySem.Str) : SrtO.Swo fun x y : α => decide ((k x).cps.toList < (k y).cps.toList) := by
  refine ⟨fun x y h => ?_, fun x y z h1 h2 => ?_⟩
  · exact decide_eq_false fun h' => List.lt_irrefl _ (List.lt_trans (of_decide_eq_true h) h')
  · exact decide_eq_false fun h' => (List.not_lt.mpr (List.le_trans (List.not_lt.mp (of_decide_eq_false h1)) (List.not_lt.mp (of_decide_eq_false h2)))) h'
section
variable {prog : Program} {w : World} {A : Around} {E : Value → Shared → Prop} {s : Shared}
/-- a pair stands at v, its first a text -/
def TxA (k : Value → PySem.Str) (h : Heap) (v : Value) : Prop := ∃ (a : Addr) (o : Obj) (t : Tok) (z : Value) (n : Nat), v = .ref a ∧ h.get? a = some o ∧ o.cls = .type "tuple" ∧ o.data = .seq #[.str (k v) t, z] n
theorem cmpS {k : Value → PySem.Str} {vs : List Value} (hp : ∀ v ∈ vs, TxA k s.heap v) (hd : ∀ v ∈ vs, ∀ u ∈ vs, k v = k u → v = u) : SrtO.Cmp prog w A s (tuples' true) (fun p => p.1 ∈ vs) (SrtO.lt2 (ltS k)) := by
  intro p q hm hm'
  show wpAny (model prog w) A (keyLt' (tuples' true) p.1 q.1) (fun r s' => s' = s ∧ r = decide ((k p.1).cps.toList < (k q.1).cps.toList)) (fun _ _ => False) s
  have inj := hd _ hm _ hm'
  obtain ⟨a, o, t, z, n, e, ho, -, hdt⟩ := hp _ hm
  obtain ⟨a', o', t', z', n', e', ho', -, hdt'⟩ := hp _ hm'
  generalize hx : k p.1 = x at hdt inj ⊢
  generalize hy : k q.1 = y at hdt' inj ⊢
  rw [e, e'] at inj ⊢
  refine PySem.W.kat_lt ho hdt ho' hdt' ?_
  show PySem.W.KatLex prog w A true (decide (2 < 2)) _ [(.str x t, .str y t'), (z, z')] 0 s
  refine PySem.W.kat_cons (SeqAt.EqAt.str_str x t y t' prog w _ _ ?_)
  by_cases exy : x = y
  · have ea := inj exy
    cases ea
    rw [ho] at ho'
    cases ho'
    rw [hdt] at hdt'
    cases hdt'
    rw [beq_iff_eq.mpr exy]
    refine PySem.W.kat_yes (PySem.W.kat_cons (SeqAt.EqAt.same z prog w _ _ ?_))
    refine PySem.W.kat_yes (PySem.W.kat_nil ⟨rfl, ?_⟩)
    rw [decide_eq_false (List.lt_irrefl _)]
    rfl
  · rw [beq_eq_false_iff_ne.mpr exy]
    exact PySem.W.kat_no (oneLt_str ⟨rfl, rfl⟩)
theorem headsS {k : Value → PySem.Str} {h : Heap} : ∀ {vs : List Value}, (∀ v ∈ vs, TxA k h v) → ∃ fs : List Value, PySem.W.KatTups h vs fs ∧ fs.length = vs.length ∧ ∀ f ∈ fs, ∃ x t, f = Value.str x t
  | [], _ => ⟨[], PySem.W.KatTups.nil, rfl, fun _ hm => by cases hm⟩
  | v :: vs, hp => by
    obtain ⟨a, o, t, z, n, e, ho, hc, hd⟩ := hp v List.mem_cons_self
    obtain ⟨fs, g1, g2, g3⟩ := headsS (vs := vs) fun q m => hp q (List.mem_cons_of_mem _ m)
    generalize k v = x at hd
    subst e
    refine ⟨.str x t :: fs, PySem.W.KatTups.cons ho hc hd rfl g1, congrArg (· + 1) g2, fun f m => ?_⟩
    rcases List.mem_cons.mp m with rfl | m
    · exact ⟨x, t, rfl⟩
    · exact g3 f m
theorem canS {k : Value → PySem.Str} {a : Addr} {vs : List Value} (h0 : 0 < vs.length) (hp : ∀ v ∈ vs, TxA k s.heap v) (hd : ∀ v ∈ vs, ∀ u ∈ vs, k v = k u → v = u) (ha : ∀ o, s.heap.get? a = some o → o.cls ≠ .type "tuple") : SrtO.SortableO prog w A s a vs (ltS k) := fun h' keep => by
  have hp' : ∀ v ∈ vs, TxA k h' v := fun v m => by
    obtain ⟨b, o, t, z, n, e, ho, hc, hd⟩ := hp v m
    exact ⟨b, o, t, z, n, e, keep b o (fun z => ha o (z ▸ ho) hc) ho, hc, hd⟩
  obtain ⟨fs, g1, g2, g3⟩ := headsS hp'
  refine ⟨tuples' true, fun Q E hq => PySem.W.kat_kind (T := .type "str") g1 (by omega) (fun f m => ?_) (by rfl) ?_, cmpS hp' hd⟩
  · obtain ⟨x, t, rfl⟩ := g3 f m
    exact PySem.W.Looks.now
  · rw [show (Value.type "str" != Value.type "tuple") = true by decide +kernel]
    exact hq
theorem sortsT {k : Value → PySem.Str} {l : Addr} {vs : List Value} {Q : Value → Shared → Prop} (hl : IsTup s.heap l vs.toArray) (hz : vs.length ≤ sizeLine) (hp : ∀ v ∈ vs, TxA k s.heap v) (hd : ∀ v ∈ vs, ∀ u ∈ vs, k v = k u → v = u)
    (h : ∀ (h1 h' : Heap) (d : Addr) (out : List Value), SrtO.Srtd (ltS k) out → out.Perm vs → (∀ b o, s.heap.get? b = some o → h1.get? b = some o) → (∀ b o, h1.get? b = some o → h'.get? b = some o) → h1.objs.size ≤ d → (∃ n, h'.get? d = some (seqObj "list" out.toArray n)) → Q (.ref d) { s with heap := h' }) :
    wpAny (model prog w) A (call (.builtin "sorted") [.ref l]) Q E s := by
  obtain ⟨ol, hol, hcl, nl, hdl⟩ := hl
  refine Calls.call_function_entry kind_sorted plain_sorted entry_sorted (args_sorted1 _) ?_
  unfold Builtin.«sorted»
  refine wpAny_bind (m := checkCount "sorted" 1 1 _) (wpAny_pure ?_)
  refine wpAny_bind (wpAny_collect_seq l (.inr rfl) hol hcl hdl (fun h1 k1 => ?_) (by rw [List.size_toArray]; exact hz))
  rw [show vs.toArray.toList = vs by simp]
  refine wpAny_bind (wpAny_newList ?_ hz)
  have hoL : (h1.push (seqObj "list" vs.toArray 0)).get? h1.objs.size = some (seqObj "list" vs.toArray 0) := Heap.get?_push_size _ rfl
  have hS : 2 ≤ vs.length → SrtO.SortableO prog w A.in1.in1 { s with heap := h1.push (seqObj "list" vs.toArray 0) } h1.objs.size vs (ltS k) := fun h2 => by
    refine canS (by omega) (fun v m => ?_) hd fun o e c => ?_
    · obtain ⟨b, o, t, z, n, e, ho, hc, hd⟩ := hp v m
      exact ⟨b, o, t, z, n, e, Heap.get?_push_of_some _ (k1 _ _ ho), hc, hd⟩
    · cases (show some o = some (seqObj "list" vs.toArray 0) from e.symm.trans hoL)
      exact absurd (Value.type.inj c) (by decide)
  refine wpAny_bind (wpAny_holding (wpAny_call_entry slot_list_sort ⟨_, hoL, rfl⟩ entry_list_sort (SrtO.list_sort_ord (swoS k) hoL hz hS fun out hs hb => ⟨_, rfl, ?_⟩) (args_list_sort _)))
  obtain ⟨c, hc⟩ := sortedHeap_at (vs := vs) (out := out.toArray) hoL
  refine wpAny_pure ⟨_, rfl, h h1 _ h1.objs.size out hs hb.perm k1 (fun b u q => ?_) (Nat.le_refl _) ⟨c, hc⟩⟩
  have hlt := Heap.lt_size q
  rw [sortedHeap_old (Nat.ne_of_lt hlt) (by rw [size_push']; exact Nat.lt_succ_of_lt hlt)]
  exact Heap.get?_push_of_some _ q
end
open L2 PySem.Spec
theorem vals_refs : ∀ ys : List Addr, Vals (ys.map V.ref) (ys.map Value.ref)
  | [] => .nil
  | _ :: ys => .cons rfl (vals_refs ys)
section
variable {X : Cx}
/-- sorted(t), t a tuple of pairs of a text and anything, the texts all different (f says which text): the pairs in their order -/
def rSortedTS (K : PySem.W.Frag) : List V → Hp → VK → Prop := fun vs H Q => ∃ (a : Addr) (xs : List Addr) (f : Addr → PySem.Str), vs = [V.ref a] ∧ SqT K H a (xs.map V.ref) ∧ (∀ x ∈ xs, ∃ z, SqT K H x [.str (f x), z]) ∧ (∀ x ∈ xs, ∀ y ∈ xs, f x = f y → x = y) ∧
  ∀ (ys : List Addr) p, ys.Perm xs → ys.Pairwise (fun x y => ¬ (f y).cps.toList < (f x).cps.toList) → H p = none → Q (.ref p) (upd H p (.lst (ys.map V.ref)))
theorem cr_sortedTS : CallR X (.builtin "sorted") (rSortedTS X.K) := fun pins s σ H vs us Q I r h => by
  obtain ⟨a, xs, f, rfl, hs, hx, hi, q⟩ := h
  obtain ⟨its, rv, hl, hz⟩ := I.tuple hs
  obtain ⟨u, rfl, ru⟩ := vals1 r
  obtain rfl : u = Value.ref a := ru
  have ei : its = xs.map Value.ref := refs_at rv
  subst ei
  rw [List.length_map] at hz
  let k : Value → PySem.Str := fun v => match v with
    | .ref x => f x
    | _ => ""
  refine sortsT (k := k) hl (by rw [List.length_map]; exact hz) (fun v hv => ?_) (fun v hv u hu e => ?_) fun hh h' d out h1 h2 kp1 kp hd ⟨n, hn⟩ => ?_
  · obtain ⟨x, hm, rfl⟩ := List.mem_map.mp hv
    obtain ⟨z, ht⟩ := hx x hm
    obtain ⟨its2, r2, ⟨o, ho, hc, n, hd⟩, _⟩ := I.tuple ht
    obtain ⟨u1, u2, rfl, ⟨t1, rfl⟩, r4⟩ := vals2 r2
    exact ⟨x, o, t1, u2, n, rfl, ho, hc, hd⟩
  · obtain ⟨x, hm, rfl⟩ := List.mem_map.mp hv
    obtain ⟨y, hm', rfl⟩ := List.mem_map.mp hu
    exact congrArg Value.ref (hi x hm y hm' e)
  · obtain ⟨ys, rfl⟩ : ∃ ys : List Addr, out = ys.map Value.ref := by
      refine ⟨out.filterMap fun v => match v with
        | .ref x => some x
        | _ => none, ?_⟩
      have : ∀ l : List Value, (∀ v ∈ l, ∃ x, v = Value.ref x) → l = (l.filterMap fun v => match v with
        | .ref x => some x
        | _ => none).map Value.ref := fun l => by
        induction l with
        | nil => intro _; rfl
        | cons v l ih =>
          intro hl
          obtain ⟨x, rfl⟩ := hl v List.mem_cons_self
          rw [List.filterMap_cons]
          exact congrArg _ (ih fun u hu => hl u (List.mem_cons_of_mem _ hu))
      exact this out fun v hv => by
        obtain ⟨x, _, rfl⟩ := List.mem_map.mp (h2.mem_iff.mp hv)
        exact ⟨x, rfl⟩
    have hp : ys.Perm xs := by
      have := h2.filterMap fun v : Value => match v with
        | .ref x => some x
        | _ => none
      rw [List.filterMap_map, List.filterMap_map] at this
      have e : ∀ l : List Addr, l.filterMap ((fun v : Value => match v with
        | .ref x => some x
        | _ => none) ∘ Value.ref) = l := fun l => (List.filterMap_some (l := l) : l.filterMap some = l)
      rw [e, e] at this
      exact this
    refine ⟨.ref d, upd H d (.lst (ys.map V.ref)), (I.kept (t' := s.toks) kp1).laid (t' := s.toks) kp hd ⟨?_, ys.map Value.ref, n, vals_refs ys, hn⟩, rfl, q ys d hp ?_ ((I.kept (t' := s.toks) kp1).hok.fresh hd)⟩
    · rw [List.length_map, hp.length_eq]
      exact hz
    · have h3 := List.pairwise_map.mp h1
      exact h3.imp fun {x y} z => of_decide_eq_false z
/-- tuple(l), l a list: a new tuple, of which the object is known -/
theorem call_tupleF : CallR X (.type "tuple") (fun xs H Q => ∃ p ys, xs = [.ref p] ∧ SqL X.K H p ys ∧ ∀ (l : Addr) (o : Obj), H l = none → o.dict = none → Q (.ref l) (upd H l (.frz o (.tup ys)))) := by
  intro pins s σ H xs us Q I r h
  obtain ⟨p, ys, rfl, hq, q⟩ := h
  obtain ⟨u, rfl, rx⟩ := vals1 r
  cases rx
  obtain ⟨its, r', pl, hz⟩ := I.list hq
  have hlen := r'.length
  refine call_tuple_list pl.isList (fun h' kp => ?_) (by simp only [List.size_toArray] <;> omega)
  have I1 : Inv X pins σ H { s with heap := h' } := I.kept (t' := s.toks) kp
  have new : (h'.push ({ cls := .type "tuple", data := .seq its.toArray } : Obj)).get? h'.objs.size = some { cls := .type "tuple", data := .seq its.toArray } := Heap.get?_push_size _ rfl
  have I2 : Inv X pins σ (upd H h'.objs.size (.frz { cls := .type "tuple", data := .seq its.toArray } (.tup ys))) { s with heap := h'.push { cls := .type "tuple", data := .seq its.toArray } } :=
    I1.laid (t' := s.toks) (fun b o e => Heap.get?_push_of_some _ e) (Nat.le_refl _) (show ObjOk X.prog X.w _ _ _ (.frz _ (.tup ys)) from ⟨new, hz, its, r', IsTup.new _ _⟩)
  exact ⟨.ref h'.objs.size, _, I2, rfl, q _ _ (I1.hok.fresh (Nat.le_refl _)) rfl⟩
/-- dict(t), t such a tuple of pairs (key, value): later pairs win, the place is the first one's -/
theorem call_dictPT (hcalm : X.calm = true) : CallR X (.type "dict") (fun xs H Q => ∃ (a : Addr) (o : Obj) (ps : List Addr) (kvs : List (Key × V)), xs = [.ref a] ∧ H a = some (.frz o (.tup (ps.map V.ref))) ∧ o.dict = none ∧ Paired (fun p kv => SqT X.K H p [kV kv.1, kv.2]) ps kvs ∧
    ∀ p, H p = none → Q (.ref p) (upd H p (.dK (mergeK [] kvs)))) := by
  intro pins s σ H xs us Q I r q
  obtain ⟨a, o, ps, kvs, rfl, ha, hdn, hp, q⟩ := q
  obtain ⟨u, rfl, rx⟩ := vals1 r
  cases rx
  obtain ⟨hoa, hz, its, rv, o', ho', hc, n, hdat⟩ := (show ObjOk X.prog X.w H s.heap a (.frz o (.tup (ps.map V.ref))) from I.hok a _ ha)
  rw [hoa] at ho'
  cases ho'
  have ei := refs_at rv
  subst ei
  rw [List.length_map] at hz
  obtain ⟨prs, rel, hl, hpr⟩ := pairs_of I hp
  have hm : (s.heap.objs.size == sysModules) = false := beq_eq_false_iff_ne.mpr (Nat.ne_of_gt I.big)
  -- the values of the pairs
  have key : ∃ vs2 : List (Value × Value), vs2.length = prs.length ∧ ∀ (j : Nat) (k v : Value), vs2[j]? = some (k, v) → ∃ (q : Key × Value) (b : Addr), prs[j]? = some q ∧ ps[j]? = some b ∧ v = q.2 ∧ IsTup s.heap b #[k, v] ∧ keyIs q.1 k = true := by
    have ex : ∀ j : Fin prs.length, ∃ k : Value, ∃ b : Addr, ps[j.1]? = some b ∧ IsTup s.heap b #[k, (prs[j.1]'j.2).2] ∧ keyIs (prs[j.1]'j.2).1 k = true := fun j => by
      obtain ⟨b, u, e1, e2, e3⟩ := hpr j.1 (prs[j.1]'j.2) (List.getElem?_eq_getElem j.2)
      exact ⟨u, b, e1, e2, e3⟩
    obtain ⟨F, hF⟩ := Classical.axiomOfChoice ex
    refine ⟨List.ofFn fun j => (F j, (prs[j.1]'j.2).2), List.length_ofFn, fun j k v e => ?_⟩
    rw [List.getElem?_ofFn] at e
    by_cases hj : j < prs.length
    · rw [dif_pos hj] at e
      cases e
      obtain ⟨b, e1, e2, e3⟩ := hF ⟨j, hj⟩
      exact ⟨prs[j]'hj, b, List.getElem?_eq_getElem hj, e1, rfl, e2, e3⟩
    · rw [dif_neg hj] at e
      cases e
  obtain ⟨vs2, l2, k2⟩ := key
  refine PySem.call_dict_pairs (knd := mixKind X.prog X.w) (kvs := prs) (PairArg.tuple a ((ps.map Value.ref).toArray) (fun j => ps.getD j 0) vs2) (I.ok.hd hcalm) ⟨⟨o, n, hoa, hc, hdn, hdat⟩, ?_, fun j k v e => ?_⟩ ⟨l2.symm, fun i k v e => ?_⟩ (by rw [l2, hl]; exact hz) fun h' tk hd' kp => ?_
  · rw [List.size_toArray, List.length_map, l2, hl]
  · obtain ⟨q, b, e1, e2, e3, e4, e5⟩ := k2 j k v e
    have eb : ps.getD j 0 = b := by rw [List.getD_eq_getElem?_getD, e2]; rfl
    show (List.map Value.ref ps).toArray[j]? = some (Value.ref (ps.getD j 0)) ∧ PairAt s.heap (ps.getD j 0) k v
    rw [eb]
    refine ⟨by simp [e2], .inl ?_⟩
    obtain ⟨o, h1, h2, n, h3⟩ := e4
    exact ⟨o, h1, h2, n, h3⟩
  · obtain ⟨q, b, e1, e2, e3, e4, e5⟩ := k2 i k v e
    exact ⟨q.1, by rw [e1, e3], e5⟩
  · have hlen : (mergeK [] kvs).length ≤ sizeLine := by
      refine Nat.le_trans (length_mergeK kvs []) ?_
      rw [List.length_nil, Nat.zero_add, rel.length, hl]
      exact hz
    exact ⟨.ref s.heap.objs.size, upd H s.heap.objs.size (.dK (mergeK [] kvs)), I.laid (t' := tk) (fun b o e => kp b o List.not_mem_nil e) (Nat.le_refl _) (show ObjOk X.prog X.w _ _ _ (.dK (mergeK [] kvs)) from ⟨hlen, hm, merged [] prs, KV.merge rel .nil, hd'⟩), rfl, q _ (I.hok.fresh (Nat.le_refl _))⟩
end
end Sp
set_option Elab.async false
set_option linter.all false
set_option maxRecDepth 100000
set_option maxHeartbeats 4000000
/-! Sm: a text times a number. -/
namespace Sm
open PySem PySem.Spec PyProof.Rows L2
/-- a text written n times -/
def rept (x : PySem.Str) (n : Nat) : PySem.Str := ⟨(List.replicate n x.cps).foldl (· ++ ·) #[]⟩
def rMulS : R2 := fun x y H Q => ∃ (z : PySem.Str) (n : Nat), x = .str z ∧ y = .int (n : Int) ∧ 2 ≤ n ∧ n ≤ 1000 ∧ 1 ≤ z.length ∧ z.length ≤ 1000 ∧ (rept z n).length ≤ sizeLine ∧ Q (.str (rept z n)) H
section
variable {X : Cx}
theorem op_mulS : OpR X (binaryOp .Mult) rMulS := by
  intro pins s σ H x y v u Q I rx ry h
  obtain ⟨z, n, rfl, rfl, h1, h2, h3, h4, h8, q⟩ := h
  obtain ⟨t, rfl⟩ := rx
  obtain ⟨t', rfl⟩ := ry
  have e1 : ((n : Int) == 1 || z.length == 0) = false := by
    rw [Bool.or_eq_false_iff]
    exact ⟨beq_eq_false_iff_ne.mpr (by omega), beq_eq_false_iff_ne.mpr (by omega)⟩
  refine PySem.P.mul_str ?_ (fun _ _ => ?_) (fun _ _ => ?_) ?_
  · rw [decide_eq_false (by omega), decide_eq_false (by omega)]
    rfl
  · have h5 : (n : Int) * (z.length : Int) ≤ 1000 * 1000 := Int.mul_le_mul (by omega) (by omega) (by omega) (by omega)
    intro h6
    have h7 : ((2 ^ 63 - 1 : Int)) / (n : Int) ≥ 1000 := Int.le_ediv_of_mul_le (by omega) (by omega)
    omega
  · show decide (_ > sizeLine) = false
    have h5 : z.length * n ≤ 1000 * 1000 := Nat.mul_le_mul h4 h2
    rw [sizeLine_eq, Int.toNat_natCast]
    exact decide_eq_false (by omega)
  · rw [if_neg (by omega), if_neg (by rw [e1]; decide)]
    exact ⟨h8, .str (rept z n), H, I.tok _, ⟨_, rfl⟩, q⟩
end
end Sm
set_option Elab.async false
set_option linter.all false
set_option maxRecDepth 100000
set_option maxHeartbeats 4000000
/-! k03: the text, the draws. -/
namespace K03
open PySem PySem.Spec PyProof.Rows L2 Zg Zr Zd Zv
/-! ### the orders of keywords -/
def pm0 {α : Type} (l : List α) : List α := l
theorem pm0_rel {zs : List V} {ws : List Value} (r : Vals zs ws) : Vals (pm0 zs) (pm0 ws) := r
/-- self, and two keywords in the other order -/
def pmB {α : Type} : List α → List α → List α
  | [a], [b, c] => [a, c, b]
  | l, _ => l
theorem pmB_rel {vs : List V} {us : List Value} {zs : List V} {ws : List Value} (r : Vals vs us) (q : Vals zs ws) : Vals (pmB vs zs) (pmB us ws) := by
  match vs, us, r, zs, ws, q with
  | _, _, .nil, _, _, _ => exact .nil
  | _, _, .cons a .nil, _, _, .cons b (.cons c .nil) => exact .cons a (.cons c (.cons b .nil))
  | _, _, .cons a .nil, _, _, .nil => exact .cons a .nil
  | _, _, .cons a .nil, _, _, .cons b .nil => exact .cons a .nil
  | _, _, .cons a .nil, _, _, .cons b (.cons c (.cons d r)) => exact .cons a .nil
  | _, _, .cons a (.cons b r), _, _, _ => exact .cons a (.cons b r)
/-! ### the text -/
def topS (i : Nat) : Stmt := PySem.Challenge.pw_plugcaller_k03_ways_leads_reached.main.body.getD i (.Pass ⟨0, 0, 0, 0⟩)
abbrev s_is_integer : Stmt := topS 11
abbrev N_is_integer : List PySem.Str := ["thing"]
abbrev P_is_integer : List PySem.Str := ["thing"]
theorem sc_is_integer : FnScope N_is_integer P_is_integer (defScope s_is_integer) := ⟨rfl, rfl, rfl, by decide +kernel, rfl, by decide +kernel, by decide +kernel⟩
abbrev s_is_name : Stmt := topS 12
abbrev N_is_name : List PySem.Str := ["thing", "letter"]
abbrev P_is_name : List PySem.Str := ["thing"]
theorem sc_is_name : FnScope N_is_name P_is_name (defScope s_is_name) := ⟨rfl, rfl, rfl, by decide +kernel, rfl, by decide +kernel, by decide +kernel⟩
abbrev s_are_ascending : Stmt := topS 13
abbrev N_are_ascending : List PySem.Str := ["thing", "one", "other"]
abbrev P_are_ascending : List PySem.Str := ["thing"]
theorem sc_are_ascending : FnScope N_are_ascending P_are_ascending (defScope s_are_ascending) := ⟨rfl, rfl, rfl, by decide +kernel, rfl, by decide +kernel, by decide +kernel⟩
abbrev s_is_state : Stmt := topS 14
abbrev N_is_state : List PySem.Str := ["size", "thing"]
abbrev P_is_state : List PySem.Str := ["size", "thing"]
theorem sc_is_state : FnScope N_is_state P_is_state (defScope s_is_state) := ⟨rfl, rfl, rfl, by decide +kernel, rfl, by decide +kernel, by decide +kernel⟩
abbrev s_are_states : Stmt := topS 15
abbrev N_are_states : List PySem.Str := ["size", "thing", "one"]
abbrev P_are_states : List PySem.Str := ["size", "thing"]
theorem sc_are_states : FnScope N_are_states P_are_states (defScope s_are_states) := ⟨rfl, rfl, rfl, by decide +kernel, rfl, by decide +kernel, by decide +kernel⟩
abbrev s_is_size : Stmt := topS 16
abbrev N_is_size : List PySem.Str := ["thing"]
abbrev P_is_size : List PySem.Str := ["thing"]
theorem sc_is_size : FnScope N_is_size P_is_size (defScope s_is_size) := ⟨rfl, rfl, rfl, by decide +kernel, rfl, by decide +kernel, by decide +kernel⟩
abbrev s_is_action : Stmt := topS 17
abbrev N_is_action : List PySem.Str := ["size", "thing", "then"]
abbrev P_is_action : List PySem.Str := ["size", "thing"]
theorem sc_is_action : FnScope N_is_action P_is_action (defScope s_is_action) := ⟨rfl, rfl, rfl, by decide +kernel, rfl, by decide +kernel, by decide +kernel⟩
abbrev s_check_store : Stmt := topS 18
abbrev N_check_store : List PySem.Str := ["size", "actions", "resting", "names", "action"]
abbrev P_check_store : List PySem.Str := ["size", "actions", "resting"]
theorem sc_check_store : FnScope N_check_store P_check_store (defScope s_check_store) := ⟨rfl, rfl, rfl, by decide +kernel, rfl, by decide +kernel, by decide +kernel⟩
abbrev s_ways_from : Stmt := topS 19
abbrev N_ways_from : List PySem.Str := ["actions", "state", "found", "waiting", "at", "here", "name", "moves", "then"]
abbrev P_ways_from : List PySem.Str := ["actions", "state"]
theorem sc_ways_from : FnScope N_ways_from P_ways_from (defScope s_ways_from) := ⟨rfl, rfl, rfl, by decide +kernel, rfl, by decide +kernel, by decide +kernel⟩
abbrev s_shown_states : Stmt := topS 20
abbrev N_shown_states : List PySem.Str := ["states", "state"]
abbrev P_shown_states : List PySem.Str := ["states"]
theorem sc_shown_states : FnScope N_shown_states P_shown_states (defScope s_shown_states) := ⟨rfl, rfl, rfl, by decide +kernel, rfl, by decide +kernel, by decide +kernel⟩
abbrev s_integer_in : Stmt := topS 21
abbrev N_integer_in : List PySem.Str := ["word", "sign"]
abbrev P_integer_in : List PySem.Str := ["word"]
theorem sc_integer_in : FnScope N_integer_in P_integer_in (defScope s_integer_in) := ⟨rfl, rfl, rfl, by decide +kernel, rfl, by decide +kernel, by decide +kernel⟩
abbrev s_states_in : Stmt := topS 22
abbrev N_states_in : List PySem.Str := ["word", "found", "part"]
abbrev P_states_in : List PySem.Str := ["word"]
theorem sc_states_in : FnScope N_states_in P_states_in (defScope s_states_in) := ⟨rfl, rfl, rfl, by decide +kernel, rfl, by decide +kernel, by decide +kernel⟩
abbrev s_moves_in : Stmt := topS 23
abbrev N_moves_in : List PySem.Str := ["word", "parts", "part"]
abbrev P_moves_in : List PySem.Str := ["word"]
theorem sc_moves_in : FnScope N_moves_in P_moves_in (defScope s_moves_in) := ⟨rfl, rfl, rfl, by decide +kernel, rfl, by decide +kernel, by decide +kernel⟩
abbrev s_size_in : Stmt := topS 24
abbrev N_size_in : List PySem.Str := ["line", "words"]
abbrev P_size_in : List PySem.Str := ["line"]
theorem sc_size_in : FnScope N_size_in P_size_in (defScope s_size_in) := ⟨rfl, rfl, rfl, by decide +kernel, rfl, by decide +kernel, by decide +kernel⟩
abbrev s_resting_in : Stmt := topS 25
abbrev N_resting_in : List PySem.Str := ["line", "size", "words"]
abbrev P_resting_in : List PySem.Str := ["line", "size"]
theorem sc_resting_in : FnScope N_resting_in P_resting_in (defScope s_resting_in) := ⟨rfl, rfl, rfl, by decide +kernel, rfl, by decide +kernel, by decide +kernel⟩
abbrev s_action_in : Stmt := topS 26
abbrev N_action_in : List PySem.Str := ["line", "size", "word", "parts", "action"]
abbrev P_action_in : List PySem.Str := ["line", "size"]
theorem sc_action_in : FnScope N_action_in P_action_in (defScope s_action_in) := ⟨rfl, rfl, rfl, by decide +kernel, rfl, by decide +kernel, by decide +kernel⟩
abbrev s_actions_in : Stmt := topS 27
abbrev N_actions_in : List PySem.Str := ["lines", "size", "first", "found", "number", "line", "action"]
abbrev P_actions_in : List PySem.Str := ["lines", "size", "first"]
theorem sc_actions_in : FnScope N_actions_in P_actions_in (defScope s_actions_in) := ⟨rfl, rfl, rfl, by decide +kernel, rfl, by decide +kernel, by decide +kernel⟩
abbrev s_store_of_lines : Stmt := topS 28
abbrev N_store_of_lines : List PySem.Str := ["lines", "size", "resting"]
abbrev P_store_of_lines : List PySem.Str := ["lines"]
theorem sc_store_of_lines : FnScope N_store_of_lines P_store_of_lines (defScope s_store_of_lines) := ⟨rfl, rfl, rfl, by decide +kernel, rfl, by decide +kernel, by decide +kernel⟩
abbrev s_Store_init : Stmt := inClass (topS 29) 0
abbrev N_Store_init : List PySem.Str := ["self", "size", "resting", "actions", "state"]
abbrev P_Store_init : List PySem.Str := ["self", "size", "resting", "actions"]
theorem sc_Store_init : FnScope N_Store_init P_Store_init (defScope s_Store_init) := ⟨rfl, rfl, rfl, by decide +kernel, rfl, by decide +kernel, by decide +kernel⟩
abbrev s_Store_of : Stmt := inClass (topS 29) 1
abbrev N_Store_of : List PySem.Str := ["cls", "size", "actions", "resting"]
abbrev P_Store_of : List PySem.Str := ["cls", "size", "actions", "resting"]
theorem sc_Store_of : FnScope N_Store_of P_Store_of (defScope s_Store_of) := ⟨rfl, rfl, rfl, by decide +kernel, rfl, by decide +kernel, by decide +kernel⟩
abbrev s_Store_reached : Stmt := inClass (topS 29) 3
abbrev N_Store_reached : List PySem.Str := ["self"]
abbrev P_Store_reached : List PySem.Str := ["self"]
theorem sc_Store_reached : FnScope N_Store_reached P_Store_reached (defScope s_Store_reached) := ⟨rfl, rfl, rfl, by decide +kernel, rfl, by decide +kernel, by decide +kernel⟩
abbrev s_Store_after : Stmt := inClass (topS 29) 7
abbrev N_Store_after : List PySem.Str := ["self", "state", "name"]
abbrev P_Store_after : List PySem.Str := ["self", "state", "name"]
theorem sc_Store_after : FnScope N_Store_after P_Store_after (defScope s_Store_after) := ⟨rfl, rfl, rfl, by decide +kernel, rfl, by decide +kernel, by decide +kernel⟩
abbrev s_Store_leads : Stmt := inClass (topS 29) 8
abbrev N_Store_leads : List PySem.Str := ["self", "q", "r"]
abbrev P_Store_leads : List PySem.Str := ["self", "q", "r"]
theorem sc_Store_leads : FnScope N_Store_leads P_Store_leads (defScope s_Store_leads) := ⟨rfl, rfl, rfl, by decide +kernel, rfl, by decide +kernel, by decide +kernel⟩
abbrev s_Store_way : Stmt := inClass (topS 29) 9
abbrev N_Store_way : List PySem.Str := ["self", "q", "r"]
abbrev P_Store_way : List PySem.Str := ["self", "q", "r"]
theorem sc_Store_way : FnScope N_Store_way P_Store_way (defScope s_Store_way) := ⟨rfl, rfl, rfl, by decide +kernel, rfl, by decide +kernel, by decide +kernel⟩
abbrev s_well : Stmt := topS 31
abbrev N_well : List PySem.Str := ["script", "told", "blend", "number"]
abbrev P_well : List PySem.Str := ["script"]
theorem sc_well : FnScope N_well P_well (defScope s_well) := ⟨rfl, rfl, rfl, by decide +kernel, rfl, by decide +kernel, by decide +kernel⟩
abbrev s_drawn : Stmt := topS 32
abbrev N_drawn : List PySem.Str := ["well", "many", "seed", "number"]
abbrev P_drawn : List PySem.Str := ["well", "many"]
theorem sc_drawn : FnScope N_drawn P_drawn (defScope s_drawn) := ⟨rfl, rfl, rfl, by decide +kernel, rfl, by decide +kernel, by decide +kernel⟩
abbrev s_names : Stmt := topS 33
abbrev N_names : List PySem.Str := ["well", "many", "letters", "first", "step", "names", "k", "way"]
abbrev P_names : List PySem.Str := ["well", "many"]
theorem sc_names : FnScope N_names P_names (defScope s_names) := ⟨rfl, rfl, rfl, by decide +kernel, rfl, by decide +kernel, by decide +kernel⟩
abbrev s_store : Stmt := topS 34
abbrev N_store : List PySem.Str := ["well", "size", "rows", "barred", "word", "moves", "here", "then", "resting"]
abbrev P_store : List PySem.Str := ["well"]
theorem sc_store : FnScope N_store P_store (defScope s_store) := ⟨rfl, rfl, rfl, by decide +kernel, rfl, by decide +kernel, by decide +kernel⟩
abbrev s_shuffled : Stmt := topS 35
abbrev N_shuffled : List PySem.Str := ["well", "rows", "found", "row"]
abbrev P_shuffled : List PySem.Str := ["well", "rows"]
theorem sc_shuffled : FnScope N_shuffled P_shuffled (defScope s_shuffled) := ⟨rfl, rfl, rfl, by decide +kernel, rfl, by decide +kernel, by decide +kernel⟩
abbrev s_rows_of_names : Stmt := topS 36
abbrev N_rows_of_names : List PySem.Str := ["rows", "many", "found", "k", "longer", "some", "word", "moves"]
abbrev P_rows_of_names : List PySem.Str := ["rows", "many"]
theorem sc_rows_of_names : FnScope N_rows_of_names P_rows_of_names (defScope s_rows_of_names) := ⟨rfl, rfl, rfl, by decide +kernel, rfl, by decide +kernel, by decide +kernel⟩
abbrev s_goes : Stmt := topS 37
abbrev N_goes : List PySem.Str := ["rows", "here", "names", "word", "other", "moves"]
abbrev P_goes : List PySem.Str := ["rows", "here", "names"]
theorem sc_goes : FnScope N_goes P_goes (defScope s_goes) := ⟨rfl, rfl, rfl, by decide +kernel, rfl, by decide +kernel, by decide +kernel⟩
abbrev s_way : Stmt := topS 38
abbrev N_way : List PySem.Str := ["size", "rows", "one", "other", "many", "names"]
abbrev P_way : List PySem.Str := ["size", "rows", "one", "other"]
theorem sc_way : FnScope N_way P_way (defScope s_way) := ⟨rfl, rfl, rfl, by decide +kernel, rfl, by decide +kernel, by decide +kernel⟩
abbrev s_is_right : Stmt := topS 39
abbrev N_is_right : List PySem.Str := ["store", "size", "rows", "known", "one", "other", "told", "word", "moves", "due", "here"]
abbrev P_is_right : List PySem.Str := ["store", "size", "rows"]
theorem sc_is_right : FnScope N_is_right P_is_right (defScope s_is_right) := ⟨rfl, rfl, rfl, by decide +kernel, rfl, by decide +kernel, by decide +kernel⟩
abbrev s_law : Stmt := topS 40
abbrev N_law : List PySem.Str := ["script", "well", "turn", "size", "rows", "resting", "store"]
abbrev P_law : List PySem.Str := ["script"]
theorem sc_law : FnScope N_law P_law (defScope s_law) := ⟨rfl, rfl, rfl, by decide +kernel, rfl, by decide +kernel, by decide +kernel⟩
structure Txt (K : PySem.W.Frag) (mg : PySem.Str → Option Value) : Type where
  a_is_integer : Addr
  d_is_integer : FuncData
  F_is_integer : Fun K "is_integer" "is_integer" s_is_integer a_is_integer d_is_integer
  g_is_integer : mg "is_integer" = some (.ref a_is_integer)
  b_is_integer : Binds K d_is_integer P_is_integer []
  a_is_name : Addr
  d_is_name : FuncData
  F_is_name : Fun K "is_name" "is_name" s_is_name a_is_name d_is_name
  g_is_name : mg "is_name" = some (.ref a_is_name)
  b_is_name : Binds K d_is_name P_is_name []
  a_are_ascending : Addr
  d_are_ascending : FuncData
  F_are_ascending : Fun K "are_ascending" "are_ascending" s_are_ascending a_are_ascending d_are_ascending
  g_are_ascending : mg "are_ascending" = some (.ref a_are_ascending)
  b_are_ascending : Binds K d_are_ascending P_are_ascending []
  a_is_state : Addr
  d_is_state : FuncData
  F_is_state : Fun K "is_state" "is_state" s_is_state a_is_state d_is_state
  g_is_state : mg "is_state" = some (.ref a_is_state)
  b_is_state : Binds K d_is_state P_is_state []
  a_are_states : Addr
  d_are_states : FuncData
  F_are_states : Fun K "are_states" "are_states" s_are_states a_are_states d_are_states
  g_are_states : mg "are_states" = some (.ref a_are_states)
  b_are_states : Binds K d_are_states P_are_states []
  a_is_size : Addr
  d_is_size : FuncData
  F_is_size : Fun K "is_size" "is_size" s_is_size a_is_size d_is_size
  g_is_size : mg "is_size" = some (.ref a_is_size)
  b_is_size : Binds K d_is_size P_is_size []
  a_is_action : Addr
  d_is_action : FuncData
  F_is_action : Fun K "is_action" "is_action" s_is_action a_is_action d_is_action
  g_is_action : mg "is_action" = some (.ref a_is_action)
  b_is_action : Binds K d_is_action P_is_action []
  a_check_store : Addr
  d_check_store : FuncData
  F_check_store : Fun K "check_store" "check_store" s_check_store a_check_store d_check_store
  g_check_store : mg "check_store" = some (.ref a_check_store)
  b_check_store : Binds K d_check_store P_check_store []
  a_ways_from : Addr
  d_ways_from : FuncData
  F_ways_from : Fun K "ways_from" "ways_from" s_ways_from a_ways_from d_ways_from
  g_ways_from : mg "ways_from" = some (.ref a_ways_from)
  b_ways_from : Binds K d_ways_from P_ways_from []
  a_Store_init : Addr
  d_Store_init : FuncData
  F_Store_init : Fun K "__init__" "Store.__init__" s_Store_init a_Store_init d_Store_init
  a_Store_of : Addr
  d_Store_of : FuncData
  F_Store_of : Fun K "of" "Store.of" s_Store_of a_Store_of d_Store_of
  b_Store_of : Binds K d_Store_of P_Store_of []
  a_Store_reached : Addr
  d_Store_reached : FuncData
  F_Store_reached : Fun K "reached" "Store.reached" s_Store_reached a_Store_reached d_Store_reached
  b_Store_reached : Binds K d_Store_reached P_Store_reached []
  a_Store_after : Addr
  d_Store_after : FuncData
  F_Store_after : Fun K "after" "Store.after" s_Store_after a_Store_after d_Store_after
  b_Store_after : Binds K d_Store_after P_Store_after []
  a_Store_leads : Addr
  d_Store_leads : FuncData
  F_Store_leads : Fun K "leads" "Store.leads" s_Store_leads a_Store_leads d_Store_leads
  b_Store_leads : Binds K d_Store_leads P_Store_leads []
  a_Store_way : Addr
  d_Store_way : FuncData
  F_Store_way : Fun K "way" "Store.way" s_Store_way a_Store_way d_Store_way
  b_Store_way : Binds K d_Store_way P_Store_way []
  a_well : Addr
  d_well : FuncData
  F_well : Fun K "_law_well" "_law_well" s_well a_well d_well
  g_well : mg "_law_well" = some (.ref a_well)
  b_well : Binds K d_well P_well []
  a_drawn : Addr
  d_drawn : FuncData
  F_drawn : Fun K "_law_drawn" "_law_drawn" s_drawn a_drawn d_drawn
  g_drawn : mg "_law_drawn" = some (.ref a_drawn)
  b_drawn : Binds K d_drawn P_drawn []
  a_names : Addr
  d_names : FuncData
  F_names : Fun K "_law_names" "_law_names" s_names a_names d_names
  g_names : mg "_law_names" = some (.ref a_names)
  b_names : Binds K d_names P_names []
  a_store : Addr
  d_store : FuncData
  F_store : Fun K "_law_store" "_law_store" s_store a_store d_store
  g_store : mg "_law_store" = some (.ref a_store)
  b_store : Binds K d_store P_store []
  a_shuffled : Addr
  d_shuffled : FuncData
  F_shuffled : Fun K "_law_shuffled" "_law_shuffled" s_shuffled a_shuffled d_shuffled
  g_shuffled : mg "_law_shuffled" = some (.ref a_shuffled)
  b_shuffled : Binds K d_shuffled P_shuffled []
  a_rows_of_names : Addr
  d_rows_of_names : FuncData
  F_rows_of_names : Fun K "_law_rows_of_names" "_law_rows_of_names" s_rows_of_names a_rows_of_names d_rows_of_names
  g_rows_of_names : mg "_law_rows_of_names" = some (.ref a_rows_of_names)
  b_rows_of_names : Binds K d_rows_of_names P_rows_of_names []
  a_goes : Addr
  d_goes : FuncData
  F_goes : Fun K "_law_goes" "_law_goes" s_goes a_goes d_goes
  g_goes : mg "_law_goes" = some (.ref a_goes)
  b_goes : Binds K d_goes P_goes []
  a_way : Addr
  d_way : FuncData
  F_way : Fun K "_law_way" "_law_way" s_way a_way d_way
  g_way : mg "_law_way" = some (.ref a_way)
  b_way : Binds K d_way P_way []
  a_is_right : Addr
  d_is_right : FuncData
  F_is_right : Fun K "_law_is_right" "_law_is_right" s_is_right a_is_right d_is_right
  g_is_right : mg "_law_is_right" = some (.ref a_is_right)
  b_is_right : Binds K d_is_right P_is_right []
  a_law : Addr
  d_law : FuncData
  F_law : Fun K "law" "law" s_law a_law d_law
  g_law : mg "law" = some (.ref a_law)
  b_law : Binds K d_law P_law []
  C_Store : Addr
  g_Store : mg "Store" = some (.ref C_Store)
  cl_Store : Cls K C_Store
  no_Store_size : NoAttr K C_Store "size"
  no_Store_actions : NoAttr K C_Store "actions"
  no_Store_resting : NoAttr K C_Store "resting"
  no_Store_moves_by_name : NoAttr K C_Store "moves_by_name"
  no_Store_ways_by_state : NoAttr K C_Store "ways_by_state"
  mk_Store : Mk K C_Store a_Store_init
  p_Store_of : Addr
  me_Store_of : ClX.CMet K C_Store (.type "type") "of" p_Store_of a_Store_of
  p_Store_reached : Addr
  me_Store_reached : PropOf K C_Store "reached" p_Store_reached a_Store_reached
  me_Store_after : Meth K C_Store "after" a_Store_after
  me_Store_leads : Meth K C_Store "leads" a_Store_leads
  me_Store_way : Meth K C_Store "way" a_Store_way
  rd_Store : ClX.CRead K C_Store (.type "type")
  kb_Store_way_r_q : KBn K d_Store_way P_Store_way 1 ["r", "q"] pmB pmB
  kb_Store_leads_r_q : KBn K d_Store_leads P_Store_leads 1 ["r", "q"] pmB pmB
  kb_Store_after_name_state : KBn K d_Store_after P_Store_after 1 ["name", "state"] pmB pmB
  n_all : mg "all" = none
  n_bool : mg "bool" = none
  n_dict : mg "dict" = none
  n_int : mg "int" = none
  n_isinstance : mg "isinstance" = none
  n_len : mg "len" = none
  n_list : mg "list" = none
  n_range : mg "range" = none
  n_repr : mg "repr" = none
  n_sorted : mg "sorted" = none
  n_str : mg "str" = none
  n_tuple : mg "tuple" = none
  n_zip : mg "zip" = none
  m_LETTERS : ∃ u, mg "LETTERS" = some u ∧ RelV (.str "abcdefghijklmnopqrstuvwxyz") u
  m_LONGEST_NAME : ∃ u, mg "LONGEST_NAME" = some u ∧ RelV (.int 8) u
  m_MOST_STATES : ∃ u, mg "MOST_STATES" = some u ∧ RelV (.int 3) u
  m_PAIR : ∃ u, mg "PAIR" = some u ∧ RelV (.int 2) u
/-! ### the well -/
/-- a dict of the well -/
def WK (l : Addr) (b c : Int) : List (Key × V) := [(.inr "told", .ref l), (.inr "blend", .int b), (.inr "count", .int c)]
theorem wk_told (l : Addr) (b c : Int) : valV (WK l b c) (.inr "told") = some (.ref l) := by rfl
theorem wk_blend (l : Addr) (b c : Int) : valV (WK l b c) (.inr "blend") = some (.int b) := by rfl
theorem wk_count (l : Addr) (b c : Int) : valV (WK l b c) (.inr "count") = some (.int c) := by rfl
theorem wk_put (l : Addr) (b c d : Int) : putK (WK l b c) (.inr "count") (.int d) = WK l b d := by rfl
/-- a well stands at w, its numbers in the list at l; so many draws at most were made -/
def Well (H : Hp) (w l : Addr) (C : Nat) : Prop := w ≠ l ∧ ∃ (b c : Int) (ns : List Int), H w = some (.dK (WK l b c)) ∧ H l = some (.lst (ns.map V.int)) ∧ 0 ≤ b ∧ b < 2147483587 ∧ 0 ≤ c ∧ c ≤ (C : Int) ∧ ns.length ≤ 63
theorem Well.mono {H : Hp} {w l : Addr} {C C' : Nat} (h : Well H w l C) (q : C ≤ C') : Well H w l C' := by
  obtain ⟨n, b, c, ns, h1, h2, h3, h4, h5, h6, h7⟩ := h
  exact ⟨n, b, c, ns, h1, h2, h3, h4, h5, by omega, h7⟩
theorem Well.same {H H' : Hp} {w l : Addr} {C : Nat} (h : Well H w l C) (k : Same H H') : Well H' w l C := by
  obtain ⟨n, b, c, ns, h1, h2, r⟩ := h
  exact ⟨n, b, c, ns, k _ _ h1, k _ _ h2, r⟩
abbrev LIM : Nat := 1000000000
section
variable {P : Program} {w : World} {K : PySem.W.Frag} {mg : PySem.Str → Option Value} {base : Heap}
def sp_law (K : PySem.W.Frag) : Sp := fun vs H Q _ => ∃ (a : Addr) (ns : List Int), vs = [.ref a] ∧ SqL K H a (ns.map V.int) ∧ ns.length ≤ 63 ∧ ∀ (H' : Hp), Q (.bl true) H'
def sp_well (K : PySem.W.Frag) : Sp := fun vs H Q _ => ∃ (a : Addr) (ns : List Int), vs = [.ref a] ∧ SqL K H a (ns.map V.int) ∧ ns.length ≤ 63 ∧
  ∀ (H' : Hp) (w l : Addr), Same H H' → H w = none → H l = none → Well H' w l 0 → Q (.ref w) H'
def sp_drawn : Sp := fun vs H Q _ => ∃ (w l : Addr) (m : Int) (C : Nat), vs = [.ref w, .int m] ∧ Well H w l C ∧ C < LIM ∧ 0 < m ∧ m < 1073741824 ∧
  ∀ (H' : Hp) (r : Int), Kp [w, l] H H' → Well H' w l (C + 1) → 0 ≤ r → r < m → Q (.int r) H'
theorem cut63 {ns : List Int} (h : ns.length ≤ 63) : cutV (ns.map V.int) none (some 63) = ns.map V.int := by
  unfold cutV
  rw [HT.sIx_none, show HT.sIx (ns.map V.int).length (ns.map V.int).length (some 63) = min 63 (ns.map V.int).length from HT.sIx_nat _ _ 63, List.length_map]
  rw [show min 63 ns.length = ns.length by omega]
  show List.take (ns.length - 0) (ns.map V.int) = _
  exact List.take_of_length_le (by rw [List.length_map]; omega)
theorem mod_in {a m : Int} (h : 0 < m) : 0 ≤ a % m ∧ a % m < m := ⟨Int.emod_nonneg _ (by omega), Int.emod_lt_of_pos _ h⟩
theorem cmul_mod {x m j : Int} (h : 0 < m) (h2 : m ≤ 2 ^ 64) : CMul (x % m) j := .inl ⟨by have := (mod_in (a := x) h).1; omega, by have := (mod_in (a := x) h).2; omega⟩
theorem ok_well (T : Txt K mg) : FnOk P w K mg base CX0 1 T.a_well T.d_well P_well (sp_well K) := by
  refine T.F_well.ok sc_well (fun vs H Q E h => by obtain ⟨a, ns, rfl, _⟩ := h; rfl) (fun cdv A outer s H vs Q E hr h => ?_)
  refine ⟨_, (pss_cons (ps_par (i := 1) (j := 2) (by rfl) sc_well.nd rfl rfl (by decide) rfl rfl (pa_cons (pe_callTy call_list_of (by rfl) T.n_list (by decide +kernel) (pa_cons (pe_slice sl_list (pv 0) po_none (po_some pe_int)) pa_nil)) (pa_cons pe_int pa_nil)) (by rfl))
    (pss_cons (ps_for PassesOwn.never rfl (pi_list (pv 1)) (pg_name (i := 3) sc_well.nd rfl (Or.inl rfl)) (pss_one (ps_set (i := 2) sc_well.nd rfl (Or.inl rfl) (pe_op op_mod (pe_callTy call_int1 (by rfl) T.n_int (by decide +kernel) (pa_cons (pe_op op_add (pe_op op_add (pe_op op_mul (pv 2) pe_int) (pe_op op_mod (pe_callTy call_int1 (by rfl) T.n_int (by decide +kernel) (pa_cons (pv 3) pa_nil)) pe_int)) pe_int) pa_nil)) pe_int))))
    (pss_one (ps_ret (pe_disp (pps_cons pe_str (pe_revL (pv 1)) (pps_cons pe_str (pv 2) (pps_cons pe_str pe_int pps_nil))) (by rfl) (by rfl) (fun z => by cases z) (by decide)))))), ?_⟩
  obtain ⟨a, ns, rfl, hS, hl, q⟩ := h
  refine ⟨_, rfl, 63, rfl, a, ns.map V.int, rfl, hS, fun p hp => ?_⟩
  rw [cut63 hl]
  refine ⟨p, _, rfl, .inl (SqL.of upd_same), fun l hl2 => ?_⟩
  refine ⟨_, _, rfl, ?_⟩
  have pl : l ≠ p := fun e => by
    rw [e, upd_same] at hl2
    cases hl2
  have hl0 : H l = none := by rw [upd_ne pl] at hl2; exact hl2
  have s1 : Same H (upd (upd H p (.lst (ns.map V.int))) l (.lst (ns.map V.int))) := fun b o e => by
    rw [upd_ne (ne_of_none e hl0), upd_ne (ne_of_none e hp)]
    exact e
  generalize hH : upd (upd H p (.lst (ns.map V.int))) l (.lst (ns.map V.int)) = H2 at s1 ⊢
  have hL : H2 l = some (.lst (ns.map V.int)) := by rw [← hH]; exact upd_same
  refine ⟨_, rfl, l, rfl, ⟨_, SqL.of hL⟩, for_list (K := K) (a := l) (xs := ns.map V.int) (fun i σ H' => ∃ (b : Int) (y : Option V), σ = [some (.ref a), some (.ref l), some (.int b), y] ∧ H' = H2 ∧ 0 ≤ b ∧ b < 2147483587)
    ⟨52369, none, rfl, rfl, by decide, by decide⟩ (fun i σ H' _ ⟨_, _, _, e, _⟩ => by rw [e]; exact SqL.of hL) ?_ ?_⟩
  · rintro i x σ H' hi ⟨b, y, rfl, rfl, hb0, hb1⟩
    obtain ⟨z, rfl⟩ : ∃ z, x = V.int z := by
      rw [List.getElem?_map] at hi
      cases e : ns[i]? with
      | none => rw [e] at hi; cases hi
      | some z => rw [e] at hi; exact ⟨z, (Option.some.inj hi).symm⟩
    refine ⟨_, rfl, _, _, rfl, rfl, .inr ⟨by decide, by decide⟩, _, rfl, .inl ⟨_, rfl, _, _, rfl, rfl, (by decide : (0 : Int) < 2147483629), _, _, rfl, rfl, _, _, rfl, rfl, .inl ⟨_, rfl, _, _, rfl, rfl, (by decide : (0 : Int) < 2147483587), ?_⟩⟩⟩
    exact ⟨_, _, rfl, rfl, (mod_in (by decide)).1, (mod_in (by decide)).2⟩
  · rintro σ H' ⟨b, y, rfl, rfl, hb0, hb1⟩
    refine fun d hd => ?_
    have dl : d ≠ l := fun e => by
      rw [e, hL] at hd
      cases hd
    refine ⟨_, rfl, l, ns.map V.int, rfl, SqL.of (by rw [upd_ne dl.symm]; exact hL), fun r hr2 => ?_⟩
    have rd : r ≠ d := fun e => by
      rw [e, upd_same] at hr2
      cases hr2
    have hr0 : H' r = none := by rw [upd_ne rd] at hr2; exact hr2
    refine ⟨_, rfl, ?_⟩
    refine ⟨by rw [upd_ne rd.symm]; exact upd_same, WK r b 0, rfl, (by show 3 ≤ 15; decide), ?_⟩
    refine q _ d r (fun x o e => ?_) (s1.free hd) (s1.free hr0) ⟨rd.symm, b, 0, ns.reverse, ?_, ?_, hb0, hb1, by decide, by decide, by rw [List.length_reverse]; exact hl⟩
    · have e2 := s1 x o e
      rw [upd_ne (ne_of_none e2 hd), upd_ne (ne_of_none e2 hr0), upd_ne (ne_of_none e2 hd)]
      exact e2
    · exact upd_same
    · rw [upd_ne rd, upd_same, List.map_reverse]

theorem ok_drawn (T : Txt K mg) : FnOk P w K mg base CX0 1 T.a_drawn T.d_drawn P_drawn sp_drawn := by
  refine T.F_drawn.ok sc_drawn (fun vs H Q E h => by obtain ⟨w, l, m, C, rfl, _⟩ := h; rfl) (fun cdv A outer s H vs Q E hr h => ?_)
  refine ⟨_, (pss_cons (ps_dput (hu_of hr) (pv 0) pe_str (pe_op op_add (pe_dget (hu_of hr) (pv 0) pe_str (fun _ _ => rfl)) pe_int) rfl)
    (pss_cons (ps_set (i := 2) sc_drawn.nd rfl (Or.inl rfl) (pe_op op_add (pe_dget (hu_of hr) (pv 0) pe_str (fun _ _ => rfl)) (pe_op op_mul (pe_op op_mul pe_int (pe_dget (hu_of hr) (pv 0) pe_str (fun _ _ => rfl))) (pe_dget (hu_of hr) (pv 0) pe_str (fun _ _ => rfl)))))
    (pss_cons (ps_if (pt_cmpR (op_neD hr.units) (pe_dget (hu_of hr) (pv 0) pe_str (fun _ _ => rfl)) (pe_lst pa_nil) (nomark _)) (pss_cons (ps_set (i := 3) sc_drawn.nd rfl (Or.inl rfl) (pe_bm0 PySem.F.plainAttrs_list PySem.F.slot_list_pop PySem.F.type_list_pop mt_pop (pe_dget (hu_of hr) (pv 0) pe_str (fun _ _ => rfl))))
    (pss_cons (ps_if (pt_cmpR op_ge (pv 3) (pe_op op_pow pe_int pe_int) (nomark _)) (pss_cons (ps_expr (pe_bm PySem.F.plainAttrs_list PySem.F.slot_list_append PySem.F.type_list_append mt_append (pe_dget (hu_of hr) (pv 0) pe_str (fun _ _ => rfl)) (pa_cons (pe_op op_fdiv (pv 3) (pv 1)) pa_nil)))
    (pss_one (ps_ret (pe_op op_mod (pe_callTy call_int1 (by rfl) T.n_int (by decide +kernel) (pa_cons (pv 3) pa_nil)) (pv 1))))) pss_nil)
    (pss_one (ps_set (i := 2) sc_drawn.nd rfl (Or.inl rfl) (pe_op op_add (pv 2) (pv 3)))))) pss_nil)
    (pss_cons (ps_set (i := 2) sc_drawn.nd rfl (Or.inl rfl) (pe_op op_mod (pe_callTy call_int1 (by rfl) T.n_int (by decide +kernel) (pa_cons (pe_op op_mul (pe_op op_mod (pe_callTy call_int1 (by rfl) T.n_int (by decide +kernel) (pa_cons (pv 2) pa_nil)) pe_int) pe_int) pa_nil)) pe_int))
    (pss_cons (ps_set (i := 2) sc_drawn.nd rfl (Or.inl rfl) (pe_op op_mod (pe_callTy call_int1 (by rfl) T.n_int (by decide +kernel) (pa_cons (pe_op op_add (pe_op op_add (pe_op op_mul (pv 2) (pv 2)) (pe_op op_mul pe_int (pv 2))) pe_int) pa_nil)) pe_int))
    (pss_one (ps_ret (pe_op op_mod (pe_callTy call_int1 (by rfl) T.n_int (by decide +kernel) (pa_cons (pe_op op_fdiv (pe_op op_mod (pe_callTy call_int1 (by rfl) T.n_int (by decide +kernel) (pa_cons (pe_op op_mul (pv 2) pe_int) pa_nil)) pe_int) pe_int) pa_nil)) (pv 1))))))))), ?_⟩
  obtain ⟨w, l, m, C, rfl, ⟨wl, b, c, ns, hw, hl, b0, b1, c0, c1, n63⟩, hC, m0, m1, q⟩ := h
  refine ⟨_, rfl, w, _, rfl, DGet.k (k := .inr "count") hw, _, _, rfl, rfl, _, rfl, w, _, rfl, DPut.k (k := .inr "count") hw (by show 3 < sizeLine; decide), ?_⟩
  rw [wk_put]
  -- the heap with one draw more
  have k1 : Kp [w, l] H (upd H w (.dK (WK l b (c + 1)))) := (Kp.refl _ H).wr (.inl List.mem_cons_self)
  have hw1 : (upd H w (.dK (WK l b (c + 1)))) w = some (.dK (WK l b (c + 1))) := upd_same
  have hl1 : (upd H w (.dK (WK l b (c + 1)))) l = some (.lst (ns.map V.int)) := by rw [upd_ne wl.symm]; exact hl
  generalize upd H w (.dK (WK l b (c + 1))) = H1 at k1 hw1 hl1 ⊢
  have hC' : (C : Int) < 1000000000 := Int.ofNat_lt.mpr hC
  -- seed
  refine ⟨_, rfl, w, _, rfl, DGet.k (k := .inr "blend") hw1, _, rfl, w, _, rfl, DGet.k (k := .inr "count") hw1, _, _, rfl, rfl, .inl ⟨by decide, by decide⟩, _, rfl, w, _, rfl, DGet.k (k := .inr "count") hw1, _, _, rfl, rfl, .inr ⟨by omega, by omega⟩, _, _, rfl, rfl, ?_⟩
  show tSeq _ _ _ _ _
  generalize b + 60293 * (c + 1) * (c + 1) = seed
  -- if well['told'] != []
  refine ⟨_, rfl, w, _, rfl, DGet.k (k := .inr "told") hw1, Nat.zero_le _, fun p hp => ?_⟩
  have pw : p ≠ w := fun e => by
    rw [e, hw1] at hp
    cases hp
  have pl : p ≠ l := fun e => by
    rw [e, hl1] at hp
    cases hp
  have k2 : Kp [w, l] H (upd H1 p (.lst [])) := k1.trans (Kp.new hp)
  have hw2 : (upd H1 p (.lst [])) w = some (.dK (WK l b (c + 1))) := by rw [upd_ne pw.symm]; exact hw1
  have hl2 : (upd H1 p (.lst [])) l = some (.lst (ns.map V.int)) := by rw [upd_ne pl.symm]; exact hl1
  refine ⟨.list (ns.map .int), .list [], .lst (SqL.of hl2) (dp_ints ns), .lst (SqL.of upd_same) .nil, shaped_ints ns, rfl, _, rfl, ?_⟩
  generalize upd H1 p (.lst []) = H2 at k2 hw2 hl2 ⊢
  rw [eqv_empty]
  have hW2 : ∀ ns' : List Int, ns'.length ≤ 63 → ∀ H3 : Hp, H3 w = some (.dK (WK l b (c + 1))) → H3 l = some (.lst (ns'.map V.int)) → Well H3 w l (C + 1) := fun ns' h63 H3 e1 e2 =>
    ⟨wl, b, c + 1, ns', e1, e2, b0, b1, by omega, by omega, h63⟩
  -- what is left to do, the seed in its slot
  cases ns with
  | nil =>
    refine iteF ?_
    refine ⟨_, rfl, .inl ⟨_, rfl, _, _, rfl, rfl, (by decide : (0 : Int) < 2147483629), _, _, rfl, rfl, cmul_mod (by decide) (by decide), .inl ⟨_, rfl, _, _, rfl, rfl, (by decide : (0 : Int) < 2147483647), ?_⟩⟩⟩
    refine ⟨_, rfl, _, rfl, _, _, rfl, rfl, cmul_mod (by decide) (by decide), _, rfl, _, _, rfl, rfl, .inl ⟨by decide, by decide⟩, _, _, rfl, rfl, _, _, rfl, rfl, .inl ⟨_, rfl, _, _, rfl, rfl, (by decide : (0 : Int) < 2147483563), ?_⟩⟩
    refine ⟨_, rfl, _, _, rfl, rfl, cmul_mod (by decide) (by decide), .inl ⟨_, rfl, _, _, rfl, rfl, (by decide : (0 : Int) < 2147483587), _, _, rfl, rfl, ⟨by decide, by decide⟩, .inl ⟨_, rfl, _, rfl, _, _, rfl, rfl, m0, ?_⟩⟩⟩
    exact q _ _ k2 (hW2 [] (by decide) _ hw2 hl2) (mod_in m0).1 (mod_in m0).2
  | cons z r =>
    refine iteT ?_
    -- number = well['told'].pop()
    have hlast : ((z :: r).map V.int)[((z :: r).map V.int).length - 1]? = some (V.int ((z :: r).getLast (List.cons_ne_nil z r))) := by
      rw [List.length_map, List.getElem?_map, ← List.getLast?_eq_getElem?, List.getLast?_eq_getLast (List.cons_ne_nil z r)]
      rfl
    have hdrop : ((z :: r).map V.int).dropLast = (z :: r).dropLast.map V.int := by rw [List.map_dropLast]
    have hlen : ((z :: r).dropLast).length ≤ 62 := by
      rw [List.length_dropLast]
      omega
    refine ⟨_, rfl, w, _, rfl, DGet.k (k := .inr "told") hw2, .inl ⟨rfl, _, SqL.of hl2⟩, l, _, _, rfl, rfl, hl2, hlast, ?_⟩
    generalize (z :: r).getLast (List.cons_ne_nil z r) = number
    rw [hdrop]
    generalize (z :: r).dropLast = more at hlen
    have hw3 : (upd H2 l (.lst (more.map V.int))) w = some (.dK (WK l b (c + 1))) := by rw [upd_ne wl]; exact hw2
    have hl3 : (upd H2 l (.lst (more.map V.int))) l = some (.lst (more.map V.int)) := upd_same
    have k3 : Kp [w, l] H (upd H2 l (.lst (more.map V.int))) := k2.wr (.inl (List.mem_cons_of_mem _ List.mem_cons_self))
    generalize upd H2 l (.lst (more.map V.int)) = H3 at k3 hw3 hl3 ⊢
    -- if number >= 10 ** 18
    refine ⟨_, rfl, _, _, rfl, rfl, ⟨by decide, by decide, by decide⟩, _, _, rfl, rfl, _, rfl, ite2 (fun e => ?_) (fun e => ?_)⟩
    · refine ⟨_, rfl, w, _, rfl, DGet.k (k := .inr "told") hw3, .inl ⟨rfl, _, SqL.of hl3⟩, _, rfl, _, rfl, _, _, rfl, rfl, ⟨m0, m1⟩, l, _, _, rfl, rfl, hl3, by rw [List.length_map, sizeLine_eq]; omega, ?_⟩
      refine ⟨_, rfl, .inl ⟨_, rfl, _, rfl, _, _, rfl, rfl, m0, ?_⟩⟩
      refine q _ _ (k3.wr (.inl (List.mem_cons_of_mem _ List.mem_cons_self))) (hW2 (more ++ [number / m]) (by rw [List.length_append, List.length_singleton]; omega) _ (by rw [upd_ne wl]; exact hw3) (by rw [upd_same, List.map_append]; rfl)) (mod_in m0).1 (mod_in m0).2
    · refine ⟨_, rfl, _, rfl, _, _, rfl, rfl, ?_⟩
      refine ⟨_, rfl, .inl ⟨_, rfl, _, _, rfl, rfl, (by decide : (0 : Int) < 2147483629), _, _, rfl, rfl, cmul_mod (by decide) (by decide), .inl ⟨_, rfl, _, _, rfl, rfl, (by decide : (0 : Int) < 2147483647), ?_⟩⟩⟩
      refine ⟨_, rfl, _, rfl, _, _, rfl, rfl, cmul_mod (by decide) (by decide), _, rfl, _, _, rfl, rfl, .inl ⟨by decide, by decide⟩, _, _, rfl, rfl, _, _, rfl, rfl, .inl ⟨_, rfl, _, _, rfl, rfl, (by decide : (0 : Int) < 2147483563), ?_⟩⟩
      refine ⟨_, rfl, _, _, rfl, rfl, cmul_mod (by decide) (by decide), .inl ⟨_, rfl, _, _, rfl, rfl, (by decide : (0 : Int) < 2147483587), _, _, rfl, rfl, ⟨by decide, by decide⟩, .inl ⟨_, rfl, _, rfl, _, _, rfl, rfl, m0, ?_⟩⟩⟩
      exact q _ _ k3 (hW2 more (by omega) _ hw3 hl3) (mod_in m0).1 (mod_in m0).2
end
end K03
set_option Elab.async false
set_option linter.all false
set_option maxRecDepth 100000
set_option maxHeartbeats 4000000
/-! k03: is_integer .. are_states. -/
namespace K03
open PySem PySem.Spec PyProof.Rows L2 Zg Zr Zd Zv
/-! ### what the program's small questions answer -/
def isInt (d : PyData) : Bool := isA "int" d && !isA "bool" d
def ABC : List Nat := ("abcdefghijklmnopqrstuvwxyz" : PySem.Str).cps.toList
def isName : PyData → Bool
  | .str x => decide (1 ≤ x.length) && decide (x.length ≤ 8) && x.cps.toList.all fun c => decide (c ∈ ABC)
  | _ => false
section
variable {P : Program} {w : World} {K : PySem.W.Frag} {mg : PySem.Str → Option Value} {base : Heap}
def sp_val (F : PyData → Bool) : Sp := fun vs H Q _ => ∃ (S : List Addr) (v : V) (d : PyData), vs = [v] ∧ Dv S H v d ∧ okv d = true ∧ ∀ (H' : Hp), Same H H' → Q (.bl (F d)) H'
theorem len1 {vs : List V} {v : V} (e : vs = [v]) : vs.length = 1 := by rw [e]; rfl
theorem ok_is_integer (T : Txt K mg) : FnOk P w K mg base CX0 1 T.a_is_integer T.d_is_integer P_is_integer (sp_val isInt) := by
  refine T.F_is_integer.ok sc_is_integer (fun vs H Q E h => by obtain ⟨S, v, d, rfl, _⟩ := h; rfl) (fun cdv A outer s H vs Q E hr h => ?_)
  refine ⟨_, (pss_one (ps_ret (pe_and (pe_callB call_isi (by rfl) T.n_isinstance (by decide +kernel) (pa_cons (pv 0) (pa_cons (pe_bltn (v := .ty "int") (u := .type "int") (by rfl) T.n_int (by decide +kernel) rfl) pa_nil))) (pe_one (pe_not (pe_callB call_isi (by rfl) T.n_isinstance (by decide +kernel) (pa_cons (pv 0) (pa_cons (pe_bltn (v := .ty "bool") (u := .type "bool") (by rfl) T.n_bool (by decide +kernel) rfl) pa_nil)))))))), ?_⟩
  obtain ⟨S, v, d, rfl, hd, hv, q⟩ := h
  refine ⟨_, rfl, v, .ty "int", _, _, _, rfl, .ty _, hd.ty, kit_all K _ (by decide) _ (tyD_mem d), ?_⟩
  have q' := q H (Same.refl H)
  refine ⟨_, rfl, ite2 (fun e => ?_) (fun e => ?_)⟩
  · refine ⟨_, rfl, v, .ty "bool", _, _, _, rfl, .ty _, hd.ty, kit_all K _ (by decide) _ (tyD_mem d), _, rfl, ?_⟩
    unfold isInt isA at q'
    rw [e] at q'
    exact q'
  · unfold isInt isA at q'
    rw [Bool.not_eq_true] at e
    rw [e] at q'
    exact q'
theorem ok_is_name (T : Txt K mg) : FnOk P w K mg base CX0 1 T.a_is_name T.d_is_name P_is_name (sp_val isName) := by
  refine T.F_is_name.ok sc_is_name (fun vs H Q E h => by obtain ⟨S, v, d, rfl, _⟩ := h; rfl) (fun cdv A outer s H vs Q E hr h => ?_)
  refine ⟨_, (pss_cons (ps_if (PW.pt (pw_or (pt_not (pt_val (pe_callB call_isi (by rfl) T.n_isinstance (by decide +kernel) (pa_cons (pv 0) (pa_cons (pe_bltn (v := .ty "str") (u := .type "str") (by rfl) T.n_str (by decide +kernel) rfl) pa_nil))))) (pw_or1 (pt_not (pt_chain op_le op_le pe_int (pe_callB call_len_str (by rfl) T.n_len (by decide +kernel) (pa_cons (pv 0) pa_nil)) (C8.pe_gc rfl T.m_LONGEST_NAME)))))) (pss_one (ps_ret pe_bl)) pss_nil)
    (pss_one (ps_ret (pe_callB (cr_all rfl) (by rfl) T.n_all (by decide +kernel) (pa_cons (pe_lc (own := [("letter", 1)]) rfl sc_is_name.nd (pi_str (pv 0)) (blkOk_by (own := [("letter", 1)]) (N := N_is_name) (sc := defScope s_is_name) (by decide +kernel)) (fun _ _ _ _ _ => (pg_name (i := 1) sc_is_name.nd rfl (Or.inl rfl))) (fun _ _ _ _ _ => pts_nil) (fun _ _ _ _ _ => (pe_cmpR op_in_sign (pv 1) (C8.pe_gc rfl T.m_LETTERS) rfl))) pa_nil))))), ?_⟩
  obtain ⟨S, v, d, rfl, hd, hv, q⟩ := h
  refine ⟨_, rfl, v, .ty "str", _, _, _, rfl, .ty _, hd.ty, kit_all K _ (by decide) _ (tyD_mem d), _, rfl, ?_⟩
  by_cases hs : isA "str" d = true
  · obtain ⟨x, rfl, rfl⟩ := hd.text hs
    refine iteF ?_
    have hx : x.length ≤ 1000 := by
      have h' : (PyData.strOk x && decide (x.length ≤ 1000)) = true := hv
      rw [Bool.and_eq_true] at h'
      exact of_decide_eq_true h'.2
    have qF : isName (.str x) = false → Q (.bl false) H := fun e => by
      have q' := q H (Same.refl H)
      rw [e] at q'
      exact q'
    refine ⟨_, rfl, x, rfl, by rw [sizeLine_eq]; omega, _, _, rfl, rfl, _, rfl, ite2 (fun e => ?_) (fun e => ?_)⟩
    · refine ⟨_, _, rfl, rfl, _, rfl, ?_⟩
      by_cases h8 : (x.length : Int) ≤ 8
      · rw [decide_eq_true h8]
        refine iteF ?_
        refine ⟨_, rfl, x, rfl, fun D hD => ?_⟩
        refine lc_it (walk_str (z := x)) (fun i H' => Same H H' ∧ H' D = some (.lst (((x.cps.toList.take i).map fun c => decide (c ∈ ABC)).map V.bl))) ⟨same_new hD, upd_same⟩ (fun _ _ _ _ => True.intro) ?_ ?_
        · rintro i y H1 H2 hi ⟨k, hDl⟩ ⟨rfl, c, hc, rfl⟩
          have hc' : x.cps.toList[i]? = some c := by simpa using hc
          refine ⟨rfl, _, rfl, c, _, rfl, rfl, _, hDl, ?_, ?_, ?_⟩
          · rw [List.length_map, List.length_map, List.length_take, sizeLine_eq]
            have : x.cps.toList.length = x.length := by simp [PySem.Str.length]
            omega
          · exact fun b o eb => by rw [upd_ne (ne_of_none eb hD)]; exact k _ _ eb
          · rw [upd_same, List.take_succ, hc', List.map_append, List.map_append]
            rfl
        · rintro H1 ⟨k, hDl⟩
          refine ⟨D, _, rfl, SqL.of hDl, ?_⟩
          have q' := q H1 k
          have e2 : isName (.str x) = ((x.cps.toList.take x.cps.size).map fun c => decide (c ∈ ABC)).all id := by
            have h1 : 1 ≤ x.length := by have := of_decide_eq_true e; omega
            show (decide (1 ≤ x.length) && decide (x.length ≤ 8) && x.cps.toList.all fun c => decide (c ∈ ABC)) = _
            rw [decide_eq_true h1, decide_eq_true (by omega : x.length ≤ 8), List.all_map, show x.cps.size = x.cps.toList.length by simp, List.take_length]
            rfl
          rw [e2] at q'
          exact q'
      · rw [decide_eq_false h8]
        refine iteT ?_
        refine qF ?_
        show (decide (1 ≤ x.length) && decide (x.length ≤ 8) && x.cps.toList.all fun c => decide (c ∈ ABC)) = false
        rw [decide_eq_false (by omega : ¬ x.length ≤ 8), Bool.and_false]
        rfl
    · have h1 : ¬ 1 ≤ x.length := fun h => e (decide_eq_true (by omega))
      refine ⟨_, rfl, iteT ?_⟩
      refine qF ?_
      show (decide (1 ≤ x.length) && decide (x.length ≤ 8) && x.cps.toList.all fun c => decide (c ∈ ABC)) = false
      rw [decide_eq_false h1]
      rfl
  · have e : isB "str" (tyD d) = false := by rw [Bool.not_eq_true] at hs; exact hs
    rw [e]
    refine iteT (iteT ?_)
    have q' := q H (Same.refl H)
    have e2 : isName d = false := by
      cases d with
      | str x => exact absurd rfl hs
      | _ => rfl
    rw [e2] at q'
    exact q'
/-- one below the next -/
def asc : List Int → Bool
  | [] => true
  | [_] => true
  | a :: b :: r => decide (a < b) && asc (b :: r)
theorem asc_all : ∀ ns : List Int, asc ns = ((ns.zip ns.tail).map fun p => decide (p.1 < p.2)).all id
  | [] => rfl
  | [_] => rfl
  | a :: b :: r => by
    show (decide (a < b) && asc (b :: r)) = _
    rw [asc_all (b :: r)]
    rfl
def sp_asc (K : PySem.W.Frag) : Sp := fun vs H Q _ => ∃ (a : Addr) (ns : List Int), vs = [.ref a] ∧ H a = some (.tup (ns.map V.int)) ∧ ns.length ≤ 1000 ∧ ∀ (H' : Hp), Same H H' → Q (.bl (asc ns)) H'
theorem walk_zipT {K : PySem.W.Frag} {a b : Addr} {xs ys : List V} {n : Nat} (hn : n = min xs.length ys.length) : Walk (RZ.ItzT K a b) n (fun H => SqT K H a xs ∧ SqT K H b ys) (YPair (fun i => xs[i]?) (fun i => ys[i]?)) := by
  subst hn
  refine ⟨fun i _ hi q => ?_, fun _ q => ⟨xs, ys, q.1, q.2, by omega⟩, fun i H v H' _ q y => ?_⟩
  · have h1 : i < xs.length := by omega
    have h2 : i < ys.length := by omega
    exact ⟨xs, ys, xs[i], ys[i], q.1, q.2, by simp [h1], by simp [h2]⟩
  · obtain ⟨T, x, z, h1, h2, h3, h4, h5⟩ := y
    exact ⟨T, x, z, h1, h2, h3, h4 xs q.1, h5 ys q.2⟩
theorem ok_are_ascending (T : Txt K mg) : FnOk P w K mg base CX0 1 T.a_are_ascending T.d_are_ascending P_are_ascending (sp_asc K) := by
  refine T.F_are_ascending.ok sc_are_ascending (fun vs H Q E h => by obtain ⟨a, ns, rfl, _⟩ := h; rfl) (fun cdv A outer s H vs Q E hr h => ?_)
  refine ⟨_, (pss_one (ps_ret (pe_and (pe_callB call_isi (by rfl) T.n_isinstance (by decide +kernel) (pa_cons (pv 0) (pa_cons (pe_bltn (v := .ty "tuple") (u := .type "tuple") (by rfl) T.n_tuple (by decide +kernel) rfl) pa_nil))) (pe_one (pe_callB (cr_all rfl) (by rfl) T.n_all (by decide +kernel) (pa_cons (pe_lc (own := [("one", 1), ("other", 2)]) rfl sc_are_ascending.nd (RZ.pi_zipA (by rfl) T.n_zip (pa_cons (pv 0) (pa_cons (pe_slice sl_tupA (pv 0) (po_some pe_int) po_none) pa_nil))) (blkOk_by (own := [("one", 1), ("other", 2)]) (N := N_are_ascending) (sc := defScope s_are_ascending) (by decide +kernel)) (fun _ _ _ _ _ => (show PG _ _ (gTup K 2 _) from (pg_tup (by rfl) (pgs_cons (pg_name (i := 1) sc_are_ascending.nd rfl (Or.inl rfl)) (pgs_cons (pg_name (i := 2) sc_are_ascending.nd rfl (Or.inl rfl)) pgs_nil))))) (fun _ _ _ _ _ => pts_nil) (fun _ _ _ _ _ => (pe_cmpR op_lt (pv 1) (pv 2) (nomark _)))) pa_nil)))))), ?_⟩
  obtain ⟨a, ns, rfl, ha, hl, q⟩ := h
  refine ⟨_, rfl, .ref a, .ty "tuple", _, _, true, rfl, .ty _, .base (.tup ha), rfl, _, rfl, ?_⟩
  refine iteT ?_
  refine ⟨_, rfl, _, rfl, 1, rfl, ?_⟩
  dsimp only [tNoPart]
  refine slA_from (K := K) (n := 1) (k := 1) rfl ha fun H1 b k1 hb _ => ?_
  have hnl : (ns.zip ns.tail).length = min ((ns.map V.int).length) (((ns.map V.int).drop 1).length) := by
    rw [List.length_zip, List.length_map, List.length_drop, List.length_map, List.length_tail]
  refine ⟨a, b, _, _, rfl, .inr ⟨SqT.of (k1 _ _ ha), SqT.of hb, fun D hD => ?_⟩⟩
  refine lc_it (walk_zipT (n := (ns.zip ns.tail).length) hnl) (fun i H' => Same H1 H' ∧ H' D = some (.lst ((((ns.zip ns.tail).take i).map fun p => decide (p.1 < p.2)).map V.bl))) ⟨same_new hD, upd_same⟩ (fun i H' _ p => ⟨SqT.of (p.1 _ _ (k1 _ _ ha)), SqT.of (p.1 _ _ hb)⟩) ?_ ?_
  · rintro i x H2 H3 hi ⟨k, hDl⟩ ⟨t, y, z, rfl, ht, rfl, hy, hz⟩
    have hi1 : i < ns.length ∧ i < ns.tail.length := by
      rw [List.length_zip] at hi
      omega
    dsimp only [] at hy hz
    have e1 : y = .int ns[i] := by
      rw [List.getElem?_map, List.getElem?_eq_getElem hi1.1] at hy
      exact (Option.some.inj hy).symm
    have hi2 : i + 1 < ns.length := by have := hi1.2; rw [List.length_tail] at this; omega
    have e2 : z = .int ns.tail[i] := by
      rw [List.getElem?_drop, List.getElem?_map, Nat.add_comm, List.getElem?_eq_getElem hi2] at hz
      rw [List.getElem_tail]
      exact (Option.some.inj hz).symm
    subst e1
    subst e2
    have tD : D ≠ t := ne_of_none hDl ht
    refine ⟨_, _, rfl, SqT.of upd_same, rfl, _, _, rfl, _, _, rfl, rfl, rfl, _, rfl, _, rfl, _, _, rfl, rfl, _, by rw [upd_ne tD]; exact hDl, ?_, ?_, ?_⟩
    · rw [List.length_map, List.length_map, List.length_take, sizeLine_eq]
      omega
    · exact fun b o eb => by
        rw [upd_ne (ne_of_none eb hD)]
        exact same_new ht _ _ (k _ _ eb)
    · rw [upd_same, List.take_succ, List.getElem?_eq_getElem hi, List.map_append, List.map_append, List.getElem_zip]
      rfl
  · rintro H2 ⟨k, hDl⟩
    refine ⟨D, _, rfl, SqL.of hDl, ?_⟩
    rw [List.take_length]
    have q' := q H2 (k1.trans k)
    rw [asc_all] at q'
    exact q'
def isSt (n : Int) : PyData → Bool
  | .int i => decide (0 ≤ i) && decide (i < n)
  | _ => false
def sp_state : Sp := fun vs H Q _ => ∃ (n : Int) (S : List Addr) (v : V) (d : PyData), vs = [.int n, v] ∧ Dv S H v d ∧ okv d = true ∧ ∀ (H' : Hp), Same H H' → Q (.bl (isSt n d)) H'
theorem ok_is_state (T : Txt K mg) : FnOk P w K mg base CX0 2 T.a_is_state T.d_is_state P_is_state sp_state := by
  refine T.F_is_state.ok sc_is_state (fun vs H Q E h => by obtain ⟨n, S, v, d, rfl, _⟩ := h; rfl) (fun cdv A outer s H vs Q E hr h => ?_)
  refine ⟨_, (pss_one (ps_ret (pe_and (pe_call (ok_is_integer T) (hr.mono (by decide)) (by rfl) T.g_is_integer T.F_is_integer.kp T.b_is_integer .nil pass0 (pa_cons (pv 1) pa_nil)) (pe_one (pe_chain op_le op_lt pe_int (pv 1) (pv 0)))))), ?_⟩
  obtain ⟨n, S, v, d, rfl, hd, hv, q⟩ := h
  refine ⟨_, rfl, S, v, d, rfl, hd, hv, fun H1 k1 => ?_⟩
  have q' := q H1 k1
  refine ⟨_, rfl, ite2 (fun e => ?_) (fun e => ?_)⟩
  · have e2 : isA "int" d = true ∧ isA "bool" d = false := by
      have h : (isA "int" d && !isA "bool" d) = true := e
      rw [Bool.and_eq_true, Bool.not_eq_true'] at h
      exact h
    obtain ⟨i, rfl, rfl⟩ := hd.number e2.1 e2.2
    refine ⟨_, rfl, _, _, rfl, rfl, _, rfl, ite2 (fun h => ?_) (fun h => ?_)⟩
    · refine ⟨_, rfl, _, _, rfl, rfl, ?_⟩
      have e3 : isSt n (.int i) = decide (i < n) := by
        show (decide (0 ≤ i) && decide (i < n)) = _
        rw [h]; rfl
      rw [e3] at q'
      exact q'
    · have e3 : isSt n (.int i) = false := by
        show (decide (0 ≤ i) && decide (i < n)) = _
        rw [Bool.not_eq_true] at h
        rw [h]; rfl
      rw [e3] at q'
      exact q'
  · have e3 : isSt n d = false := by
      cases d with
      | int i => exact absurd rfl e
      | _ => rfl
    rw [e3] at q'
    exact q'
def intOf : PyData → Int
  | .int i => i
  | _ => 0
def areStates (n : Int) : PyData → Bool
  | .tuple ds => ds.all (isSt n) && asc (ds.map intOf)
  | _ => false
theorem ints_of {n : Int} {S : List Addr} {H : Hp} : ∀ {xs : List V} {ds : List PyData}, DvAll S H xs ds → ds.all (isSt n) = true → xs = (ds.map intOf).map V.int
  | _, _, .nil, _ => rfl
  | _, _, .cons h t, e => by
    rw [List.all_cons, Bool.and_eq_true] at e
    rw [List.map_cons, List.map_cons, ← ints_of t e.2]
    cases h with
    | int i => rfl
    | non => cases e.1
    | bl b => cases e.1
    | str x => cases e.1
    | lst h n t => cases e.1
    | tup h n t => cases e.1
    | dic h n => cases e.1
def sp_states : Sp := fun vs H Q _ => ∃ (n : Int) (S : List Addr) (v : V) (d : PyData), vs = [.int n, v] ∧ Dv S H v d ∧ okv d = true ∧ ∀ (H' : Hp), Same H H' → Q (.bl (areStates n d)) H'
theorem ok_are_states (T : Txt K mg) : FnOk P w K mg base CX0 3 T.a_are_states T.d_are_states P_are_states sp_states := by
  refine T.F_are_states.ok sc_are_states (fun vs H Q E h => by obtain ⟨n, S, v, d, rfl, _⟩ := h; rfl) (fun cdv A outer s H vs Q E hr h => ?_)
  refine ⟨_, (pss_one (ps_ret (pe_and (pe_callB call_isi (by rfl) T.n_isinstance (by decide +kernel) (pa_cons (pv 1) (pa_cons (pe_bltn (v := .ty "tuple") (u := .type "tuple") (by rfl) T.n_tuple (by decide +kernel) rfl) pa_nil))) (pe_and (pe_callB (cr_all rfl) (by rfl) T.n_all (by decide +kernel) (pa_cons (pe_lc (own := [("one", 2)]) rfl sc_are_states.nd (pi_tup (pv 1)) (blkOk_by (own := [("one", 2)]) (N := N_are_states) (sc := defScope s_are_states) (by decide +kernel)) (fun _ _ _ _ _ => (pg_name (i := 2) sc_are_states.nd rfl (Or.inl rfl))) (fun _ _ _ _ _ => pts_nil) (fun _ _ _ _ _ => (pe_call (ok_is_state T) (hr.mono (by decide)) (by rfl) T.g_is_state T.F_is_state.kp T.b_is_state .nil pass0 (pa_cons (pv 0) (pa_cons (pv 2) pa_nil))))) pa_nil)) (pe_one (pe_call (ok_are_ascending T) (hr.mono (by decide)) (by rfl) T.g_are_ascending T.F_are_ascending.kp T.b_are_ascending .nil pass0 (pa_cons (pv 1) pa_nil))))))), ?_⟩
  obtain ⟨n, S, v, d, rfl, hd, hv, q⟩ := h
  refine ⟨_, rfl, v, .ty "tuple", _, _, _, rfl, .ty _, hd.ty, kit_all K _ (by decide) _ (tyD_mem d), ?_⟩
  refine ⟨_, rfl, ite2 (fun e => ?_) (fun e => ?_)⟩
  · obtain ⟨a, xs, ds, rfl, rfl, ha, _, hx⟩ := hd.tuple e
    obtain ⟨hl, hok⟩ := okv_tup hv
    refine ⟨_, rfl, a, rfl, ⟨_, SqT.of ha⟩, fun D hD => ?_⟩
    refine lc_tup (K := K) (a := a) (xs := xs) (fun i H' => Same H H' ∧ H' D = some (.lst (((ds.take i).map (isSt n)).map V.bl))) ⟨same_new hD, upd_same⟩ (fun i H' _ p => SqT.of (p.1 _ _ ha)) ?_ ?_
    · rintro i x H1 hi ⟨k, hDl⟩
      obtain ⟨d, hdi, hdx⟩ := hx.get hi
      refine ⟨rfl, _, rfl, _, rfl, n, S, x, d, rfl, hdx.kp (Kp.of k), hok d (List.mem_of_getElem? hdi), fun H2 k2 => ?_⟩
      refine ⟨_, k2 _ _ hDl, ?_, ?_, ?_⟩
      · rw [List.length_map, List.length_map, List.length_take, sizeLine_eq]
        omega
      · exact fun b o eb => by
          rw [upd_ne (ne_of_none eb hD)]
          exact k2 _ _ (k _ _ eb)
      · rw [upd_same, List.take_succ, hdi, List.map_append, List.map_append]
        rfl
    · rintro H1 ⟨k, hDl⟩
      rw [hx.length, List.take_length] at hDl
      refine ⟨D, _, rfl, SqL.of hDl, _, rfl, ?_⟩
      have e1 : (ds.map (isSt n)).all id = ds.all (isSt n) := by rw [List.all_map]; rfl
      rw [e1]
      refine ite2 (fun e2 => ?_) (fun e2 => ?_)
      · have hxi := ints_of hx e2
        refine ⟨_, rfl, a, ds.map intOf, rfl, by rw [← hxi]; exact k _ _ ha, by rw [List.length_map]; exact hl, fun H2 k2 => ?_⟩
        have q' := q H2 (k.trans k2)
        have e3 : areStates n (.tuple ds) = asc (ds.map intOf) := by
          show (ds.all (isSt n) && _) = _
          rw [e2]; rfl
        rw [e3] at q'
        exact q'
      · have q' := q H1 k
        have e3 : areStates n (.tuple ds) = false := by
          show (ds.all (isSt n) && _) = _
          rw [Bool.not_eq_true] at e2
          rw [e2]; rfl
        rw [e3] at q'
        exact q'
  · have q' := q H (Same.refl H)
    have e3 : areStates n d = false := by
      cases d with
      | tuple ds => exact absurd rfl e
      | _ => rfl
    rw [e3] at q'
    exact q'
def isSz : PyData → Bool
  | .int i => decide (1 ≤ i) && decide (i ≤ 3)
  | _ => false
theorem ok_is_size (T : Txt K mg) : FnOk P w K mg base CX0 2 T.a_is_size T.d_is_size P_is_size (sp_val isSz) := by
  refine T.F_is_size.ok sc_is_size (fun vs H Q E h => by obtain ⟨S, v, d, rfl, _⟩ := h; rfl) (fun cdv A outer s H vs Q E hr h => ?_)
  refine ⟨_, (pss_one (ps_ret (pe_and (pe_call (ok_is_integer T) (hr.mono (by decide)) (by rfl) T.g_is_integer T.F_is_integer.kp T.b_is_integer .nil pass0 (pa_cons (pv 0) pa_nil)) (pe_one (pe_chain op_le op_le pe_int (pv 0) (C8.pe_gc rfl T.m_MOST_STATES)))))), ?_⟩
  obtain ⟨S, v, d, rfl, hd, hv, q⟩ := h
  refine ⟨_, rfl, S, v, d, rfl, hd, hv, fun H1 k1 => ?_⟩
  have q' := q H1 k1
  refine ⟨_, rfl, ite2 (fun e => ?_) (fun e => ?_)⟩
  · have e2 : isA "int" d = true ∧ isA "bool" d = false := by
      have h : (isA "int" d && !isA "bool" d) = true := e
      rw [Bool.and_eq_true, Bool.not_eq_true'] at h
      exact h
    obtain ⟨i, rfl, rfl⟩ := hd.number e2.1 e2.2
    refine ⟨_, rfl, _, _, rfl, rfl, _, rfl, ite2 (fun h => ?_) (fun h => ?_)⟩
    · refine ⟨_, _, rfl, rfl, ?_⟩
      have e3 : isSz (.int i) = decide (i ≤ 3) := by
        show (decide (1 ≤ i) && decide (i ≤ 3)) = _
        rw [h]; rfl
      rw [e3] at q'
      exact q'
    · have e3 : isSz (.int i) = false := by
        show (decide (1 ≤ i) && decide (i ≤ 3)) = _
        rw [Bool.not_eq_true] at h
        rw [h]; rfl
      rw [e3] at q'
      exact q'
  · have e3 : isSz d = false := by
      cases d with
      | int i => exact absurd rfl e
      | _ => rfl
    rw [e3] at q'
    exact q'
end
end K03
set_option Elab.async false
set_option linter.all false
set_option maxRecDepth 100000
set_option maxHeartbeats 4000000
/-! k03: is_action, check_store. -/
namespace K03
open PySem PySem.Spec PyProof.Rows L2 Zg Zr Zd Zv
def isMv (n : Int) : PyData → Bool
  | .none => true
  | d => isSt n d
def isAct (n : Int) : PyData → Bool
  | .tuple [a, .tuple ms] => isName a && decide ((ms.length : Int) = n) && ms.all (isMv n)
  | _ => false
theorem two_of {α : Type} {l : List α} (h : l.length = 2) : ∃ a b, l = [a, b] := by
  match l, h with
  | [a, b], _ => exact ⟨a, b, rfl⟩
theorem isAct_not {n : Int} {ds : List PyData} (h : ds.length ≠ 2) : isAct n (.tuple ds) = false := by
  match ds, h with
  | [], _ => rfl
  | [_], _ => rfl
  | [_, _], h => exact absurd rfl h
  | _ :: b :: _ :: _, _ => cases b <;> rfl
theorem ne_len {a : Nat} : (!decide (V.int (a : Int) = V.int 2)) = true ↔ a ≠ 2 := by
  rw [Bool.not_eq_true', decide_eq_false_iff_not]
  constructor
  · intro h e
    subst e
    exact h rfl
  · intro h e
    injection e with e
    omega
section
variable {P : Program} {w : World} {K : PySem.W.Frag} {mg : PySem.Str → Option Value} {base : Heap}
def sp_action : Sp := fun vs H Q _ => ∃ (n : Int) (S : List Addr) (v : V) (d : PyData), vs = [.int n, v] ∧ Dv S H v d ∧ okv d = true ∧ ∀ (H' : Hp), Same H H' → Q (.bl (isAct n d)) H'
theorem ok_is_action (T : Txt K mg) : FnOk P w K mg base CX0 3 T.a_is_action T.d_is_action P_is_action sp_action := by
  refine T.F_is_action.ok sc_is_action (fun vs H Q E h => by obtain ⟨n, S, v, d, rfl, _⟩ := h; rfl) (fun cdv A outer s H vs Q E hr h => ?_)
  refine ⟨_, (pss_cons (ps_if (PW.pt (pw_or (pt_not (pt_val (pe_callB call_isi (by rfl) T.n_isinstance (by decide +kernel) (pa_cons (pv 1) (pa_cons (pe_bltn (v := .ty "tuple") (u := .type "tuple") (by rfl) T.n_tuple (by decide +kernel) rfl) pa_nil))))) (pw_or (pt_cmpR op_ne (pe_callB call_len_seq (by rfl) T.n_len (by decide +kernel) (pa_cons (pv 1) pa_nil)) (C8.pe_gc rfl T.m_PAIR) (nomark _)) (pw_or1 (pt_not (pt_val (pe_call (ok_is_name T) (hr.mono (by decide)) (by rfl) T.g_is_name T.F_is_name.kp T.b_is_name .nil pass0 (pa_cons (pe_ix ix_tup (pv 1) pe_int (fun _ _ => rfl)) pa_nil)))))))) (pss_one (ps_ret pe_bl)) pss_nil)
    (pss_cons (ps_if (PW.pt (pw_or (pt_not (pt_val (pe_callB call_isi (by rfl) T.n_isinstance (by decide +kernel) (pa_cons (pe_ix ix_tup (pv 1) pe_int (fun _ _ => rfl)) (pa_cons (pe_bltn (v := .ty "tuple") (u := .type "tuple") (by rfl) T.n_tuple (by decide +kernel) rfl) pa_nil))))) (pw_or1 (pt_cmpR op_ne (pe_callB call_len_seq (by rfl) T.n_len (by decide +kernel) (pa_cons (pe_ix ix_tup (pv 1) pe_int (fun _ _ => rfl)) pa_nil)) (pv 0) (nomark _))))) (pss_one (ps_ret pe_bl)) pss_nil)
    (pss_one (ps_ret (pe_callB (cr_all rfl) (by rfl) T.n_all (by decide +kernel) (pa_cons (pe_lc (own := [("then", 2)]) rfl sc_is_action.nd (pi_tup (pe_ix ix_tup (pv 1) pe_int (fun _ _ => rfl))) (blkOk_by (own := [("then", 2)]) (N := N_is_action) (sc := defScope s_is_action) (by decide +kernel)) (fun _ _ _ _ _ => (pg_name (i := 2) sc_is_action.nd rfl (Or.inl rfl))) (fun _ _ _ _ _ => pts_nil) (fun _ _ _ _ _ => (pe_or (pe_cmpR op_isN (pv 2) pe_non (nomark _)) (pe_one (pe_call (ok_is_state T) (hr.mono (by decide)) (by rfl) T.g_is_state T.F_is_state.kp T.b_is_state .nil pass0 (pa_cons (pv 0) (pa_cons (pv 2) pa_nil))))))) pa_nil)))))), ?_⟩
  obtain ⟨n, S, v, d, rfl, hd, hv, q⟩ := h
  have qF : isAct n d = false → ∀ H', Same H H' → Q (.bl false) H' := fun e H' k => by
    have q' := q H' k
    rw [e] at q'
    exact q'
  refine ⟨_, rfl, v, .ty "tuple", _, _, _, rfl, .ty _, hd.ty, kit_all K _ (by decide) _ (tyD_mem d), _, rfl, ?_⟩
  by_cases e : isA "tuple" d = true
  · obtain ⟨a, xs, ds, rfl, rfl, ha, _, hx⟩ := hd.tuple e
    obtain ⟨hl, hok⟩ := okv_tup hv
    have hxl := hx.length
    refine iteF ?_
    refine ⟨_, rfl, a, _, rfl, .inr (SqT.of ha), rfl, _, rfl, ite2 (fun e2 => ?_) (fun e2 => ?_)⟩
    · exact iteT (qF (isAct_not fun h => ne_len.mp e2 (hxl.trans h)) H (Same.refl H))
    · have e3 : xs.length = 2 := Decidable.byContradiction fun h => e2 (ne_len.mpr h)
      obtain ⟨nm, mv, rfl⟩ := two_of (hxl.symm.trans e3)
      cases hx with
      | @cons v0 vs0 _ _ h0 hx =>
      cases hx with
      | @cons v1 vs1 _ _ h1 hx =>
      cases hx
      refine ⟨_, rfl, a, _, 0, _, rfl, rfl, SqT.of ha, atI_nat (j := 0) rfl, S, v0, nm, rfl, h0, hok nm (by simp), fun H1 k1 => ⟨_, rfl, ?_⟩⟩
      have ha1 := k1 _ _ ha
      have h1' := h1.kp (Kp.of k1)
      cases e4 : isName nm with
      | false =>
        refine iteT (qF ?_ H1 k1)
        cases mv with
        | tuple ms => show (isName nm && _ && _) = false; rw [e4]; rfl
        | _ => rfl
      | true =>
        refine iteF ?_
        refine ⟨_, rfl, a, _, 1, _, rfl, rfl, SqT.of ha1, atI_nat (j := 1) rfl, v1, .ty "tuple", _, _, _, rfl, .ty _, h1'.ty, kit_all K _ (by decide) _ (tyD_mem mv), _, rfl, ?_⟩
        by_cases e5 : isA "tuple" mv = true
        · obtain ⟨b, ys, ms, rfl, rfl, hb, _, hy⟩ := h1'.tuple e5
          obtain ⟨hl2, hok2⟩ := okv_tup (hok (.tuple ms) (by simp))
          have hyl := hy.length
          have eA : isAct n (.tuple [nm, .tuple ms]) = (decide ((ms.length : Int) = n) && ms.all (isMv n)) := by
            show (isName nm && _ && _) = _
            rw [e4]; rfl
          refine iteF ?_
          refine ⟨_, rfl, a, _, 1, _, rfl, rfl, SqT.of ha1, atI_nat (j := 1) rfl, b, _, rfl, .inr (SqT.of hb), _, rfl, rfl, _, rfl, ite2 (fun e6 => ?_) (fun e6 => ?_)⟩
          · refine qF ?_ H1 k1
            rw [eA, decide_eq_false, Bool.false_and]
            intro h
            rw [← h, hyl] at e6
            rw [decide_eq_true rfl] at e6
            cases e6
          · have e7 : (ms.length : Int) = n := Decidable.byContradiction fun h => e6 (by
              rw [decide_eq_false (fun h' => h (by injection h' with h'; rw [← hyl]; exact h'))]
              rfl)
            refine ⟨_, rfl, a, _, 1, _, rfl, rfl, SqT.of ha1, atI_nat (j := 1) rfl, b, rfl, ⟨_, SqT.of hb⟩, fun D hD => ?_⟩
            refine lc_tup (K := K) (a := b) (xs := ys) (fun i H' => Same H1 H' ∧ H' D = some (.lst (((ms.take i).map (isMv n)).map V.bl))) ⟨same_new hD, upd_same⟩ (fun i H' _ p => SqT.of (p.1 _ _ hb)) ?_ ?_
            · rintro i x H2 hi ⟨k, hDl⟩
              obtain ⟨d, hdi, hdx⟩ := hy.get hi
              have fin : ∀ H3, Same H2 H3 → ∃ acc, H3 D = some (.lst acc) ∧ acc.length < sizeLine ∧ (Same H1 (upd H3 D (.lst (acc ++ [V.bl (isMv n d)]))) ∧ (upd H3 D (.lst (acc ++ [V.bl (isMv n d)]))) D = some (.lst (((ms.take (i + 1)).map (isMv n)).map V.bl))) := fun H3 k3 => by
                refine ⟨_, k3 _ _ hDl, ?_, ?_, ?_⟩
                · rw [List.length_map, List.length_map, List.length_take, sizeLine_eq]
                  omega
                · exact fun b o eb => by
                    rw [upd_ne (ne_of_none eb hD)]
                    exact k3 _ _ (k _ _ eb)
                · rw [upd_same, List.take_succ, hdi, List.map_append, List.map_append]
                  rfl
              refine ⟨rfl, _, rfl, rfl, _, rfl, ?_⟩
              by_cases e8 : d = .none
              · subst e8
                cases hdx
                exact iteT (fin H2 (Same.refl H2))
              · have ex : ¬ x = V.non := fun e => by
                  subst e
                  cases hdx
                  exact e8 rfl
                rw [decide_eq_false ex]
                refine iteF ?_
                refine ⟨_, rfl, _, rfl, n, S, x, d, rfl, hdx.kp (Kp.of k), hok2 d (List.mem_of_getElem? hdi), fun H3 k3 => ?_⟩
                have f := fin H3 k3
                have e9 : isMv n d = isSt n d := by
                  cases d with
                  | none => exact absurd rfl e8
                  | _ => rfl
                rw [e9] at f
                exact f
            · rintro H2 ⟨k, hDl⟩
              rw [hyl, List.take_length] at hDl
              refine ⟨D, _, rfl, SqL.of hDl, ?_⟩
              have q' := q H2 (k1.trans k)
              rw [eA, decide_eq_true e7, Bool.true_and] at q'
              rw [show ((ms.map (isMv n)).all id) = ms.all (isMv n) by rw [List.all_map]; rfl]
              exact q'
        · have e6 : isB "tuple" (tyD mv) = false := by rw [Bool.not_eq_true] at e5; exact e5
          rw [e6]
          refine iteT (iteT (qF ?_ H1 k1))
          cases mv with
          | tuple ms => exact absurd rfl e5
          | _ => rfl
  · have e6 : isB "tuple" (tyD d) = false := by rw [Bool.not_eq_true] at e; exact e
    rw [e6]
    refine iteT (iteT (qF ?_ H (Same.refl H)))
    cases d with
    | tuple ds => exact absurd rfl e
    | _ => rfl
end
end K03
set_option Elab.async false
set_option linter.all false
set_option maxRecDepth 100000
set_option maxHeartbeats 4000000
/-! k03: actions, check_store. -/
namespace K03
open PySem PySem.Spec PyProof.Rows L2 Zg Zr Zd Zv
/-! ### actions -/
abbrev Act := PySem.Str × List (Option Nat)
def mvD : Option Nat → PyData
  | none => .none
  | some k => .int (k : Nat)
def mvV : Option Nat → V
  | none => .non
  | some k => .int (k : Nat)
def actD (a : Act) : PyData := .tuple [.str a.1, .tuple (a.2.map mvD)]
structure Acts (n : Nat) (acts : List Act) : Prop where
  nm : ∀ a ∈ acts, isName (.str a.1) = true
  ln : ∀ a ∈ acts, a.2.length = n
  mv : ∀ a ∈ acts, ∀ m ∈ a.2, ∀ k, m = some k → k < n
  nd : (acts.map (·.1)).Nodup
  few : acts.length ≤ 6
  sz : n ≤ 3
theorem abc_ok : ∀ c ∈ ABC, c < 0x110000 := by decide +kernel
theorem isName_ok {x : PySem.Str} (h : isName (.str x) = true) : okv (.str x) = true ∧ 1 ≤ x.length ∧ x.length ≤ 8 := by
  have h' : (decide (1 ≤ x.length) && decide (x.length ≤ 8) && x.cps.toList.all fun c => decide (c ∈ ABC)) = true := h
  rw [Bool.and_eq_true, Bool.and_eq_true, decide_eq_true_iff, decide_eq_true_iff, List.all_eq_true] at h'
  refine ⟨?_, h'.1.1, h'.1.2⟩
  show (PyData.strOk x && decide (x.length ≤ 1000)) = true
  rw [decide_eq_true (by omega), Bool.and_true]
  show x.cps.all _ = true
  rw [← Array.all_toList, List.all_eq_true]
  intro c hc
  exact decide_eq_true (abc_ok c (of_decide_eq_true (h'.2 c hc)))
theorem mvD_ok {n : Nat} {m : Option Nat} (hn : n ≤ 3) (h : ∀ k, m = some k → k < n) : okv (mvD m) = true ∧ isMv n (mvD m) = true := by
  cases m with
  | none => exact ⟨rfl, rfl⟩
  | some k =>
    have := h k rfl
    refine ⟨decide_eq_true ?_, ?_⟩
    · rw [Int.natAbs_natCast]
      exact Nat.lt_of_lt_of_le (by omega : k < 10) (by decide)
    · show (decide ((0 : Int) ≤ (k : Int)) && decide ((k : Int) < (n : Int))) = true
      rw [decide_eq_true (by omega), decide_eq_true (by omega)]
      rfl
theorem Acts.okv {n : Nat} {acts : List Act} (A : Acts n acts) : ∀ a ∈ acts, okv (actD a) = true := fun a ha => by
  show (decide (2 ≤ 1000) && okvAll [.str a.1, .tuple (a.2.map mvD)]) = true
  rw [show decide (2 ≤ 1000) = true from rfl, Bool.true_and, okvAll_iff]
  intro d hd
  rcases List.mem_cons.mp hd with rfl | hd
  · exact (isName_ok (A.nm a ha)).1
  · cases List.mem_singleton.mp hd
    show (decide (_ ≤ 1000) && okvAll (a.2.map mvD)) = true
    rw [List.length_map, A.ln a ha, decide_eq_true (by have := A.sz; omega), Bool.true_and, okvAll_iff]
    intro d hd
    obtain ⟨m, hm, rfl⟩ := List.mem_map.mp hd
    exact (mvD_ok A.sz (A.mv a ha m hm)).1
theorem Acts.isAct {n : Nat} {acts : List Act} (A : Acts n acts) : ∀ a ∈ acts, isAct n (actD a) = true := fun a ha => by
  show (isName (.str a.1) && decide ((((a.2.map mvD).length : Nat) : Int) = (n : Int)) && (a.2.map mvD).all (isMv n)) = true
  rw [A.nm a ha, List.length_map, A.ln a ha, decide_eq_true rfl, Bool.true_and, Bool.true_and, List.all_eq_true]
  intro d hd
  obtain ⟨m, hm, rfl⟩ := List.mem_map.mp hd
  exact (mvD_ok A.sz (A.mv a ha m hm)).2
/-- an action as it stands -/
theorem act_at {S : List Addr} {H : Hp} {v : V} {a : Act} (h : Dv S H v (actD a)) : ∃ p m, v = .ref p ∧ H p = some (.tup [.str a.1, .ref m]) ∧ p ∉ S ∧ Dv S H (.ref m) (.tuple (a.2.map mvD)) := by
  cases h with
  | @tup p xs ds hp hn hx =>
    cases hx with
    | @cons v0 vs0 _ _ h0 hx =>
    cases hx with
    | @cons v1 vs1 _ _ h1 hx =>
    cases hx
    cases h0
    cases h1 with
    | @tup m ys ds hm hnm hy => exact ⟨p, m, rfl, hp, hn, .tup hm hnm hy⟩
theorem dvs_at {S : List Addr} {H : Hp} : ∀ {xs : List V} {ms : List (Option Nat)}, DvAll S H xs (ms.map mvD) → xs = ms.map mvV
  | _, [], .nil => rfl
  | _, m :: ms, .cons h t => by
    rw [dvs_at t, List.map_cons]
    congr 1
    cases m with
    | none => cases h; rfl
    | some k => cases h; rfl
theorem moves_at {S : List Addr} {H : Hp} {m : Addr} {ms : List (Option Nat)} (h : Dv S H (.ref m) (.tuple (ms.map mvD))) : H m = some (.tup (ms.map mvV)) := by
  cases h with
  | @tup m ys ds hm hnm hy => rw [dvs_at hy] at hm; exact hm
section
variable {P : Program} {w : World} {K : PySem.W.Frag} {mg : PySem.Str → Option Value} {base : Heap}
def sp_check : Sp := fun vs H Q _ => ∃ (n : Nat) (S : List Addr) (a : Addr) (xs : List V) (acts : List Act) (r : V) (rd : PyData), vs = [.int (n : Nat), .ref a, r] ∧ 1 ≤ n ∧ H a = some (.tup xs) ∧ DvAll S H xs (acts.map actD) ∧ Acts n acts ∧ Dv S H r rd ∧ Zv.okv rd = true ∧ areStates n rd = true ∧ ∀ (H' : Hp), Same H H' → Q .non H'
theorem ok_check_store (T : Txt K mg) : FnOk P w K mg base CX0 4 T.a_check_store T.d_check_store P_check_store sp_check := by
  refine T.F_check_store.ok sc_check_store (fun vs H Q E h => by obtain ⟨n, S, a, xs, acts, r, rd, rfl, _⟩ := h; rfl) (fun cdv A outer s H vs Q E hr h => ?_)
  refine ⟨_, (pss_cons (ps_if (pt_not (pt_val (pe_call (ok_is_size T) (hr.mono (by decide)) (by rfl) T.g_is_size T.F_is_size.kp T.b_is_size .nil pass0 (pa_cons (pv 0) pa_nil)))) (pss_one ps_never) pss_nil)
    (pss_cons (ps_set (i := 3) sc_check_store.nd rfl (Or.inl rfl) (pe_lst pa_nil))
    (pss_cons (ps_for PassesOwn.never rfl (pi_tup (pv 1)) (pg_name (i := 4) sc_check_store.nd rfl (Or.inl rfl)) (pss_cons (ps_if (PW.pt (pw_or (pt_not (pt_val (pe_call (ok_is_action T) (hr.mono (by decide)) (by rfl) T.g_is_action T.F_is_action.kp T.b_is_action .nil pass0 (pa_cons (pv 0) (pa_cons (pv 4) pa_nil))))) (pw_or1 (pt_cmpR op_in_seq (pe_ix ix_tup (pv 4) pe_int (fun _ _ => rfl)) (pv 3) (by rfl))))) (pss_one ps_never) pss_nil)
    (pss_one (ps_expr (pe_bm PySem.F.plainAttrs_list PySem.F.slot_list_append PySem.F.type_list_append mt_append (pv 3) (pa_cons (pe_ix ix_tup (pv 4) pe_int (fun _ _ => rfl)) pa_nil))))))
    (pss_one (ps_if (pt_not (pt_val (pe_call (ok_are_states T) (hr.mono (by decide)) (by rfl) T.g_are_states T.F_are_states.kp T.b_are_states .nil pass0 (pa_cons (pv 0) (pa_cons (pv 2) pa_nil))))) (pss_one ps_never) pss_nil))))), ?_⟩
  obtain ⟨n, S, a, xs, acts, r, rd, rfl, hn1, ha, hx, AA, hrd, hok, hst, q⟩ := h
  have n3 := AA.sz
  refine ⟨_, rfl, [], .int (n : Nat), .int (n : Nat), rfl, .int _, ?_, fun H1 k1 => ?_⟩
  · refine decide_eq_true ?_
    rw [Int.natAbs_natCast]
    exact Nat.lt_of_lt_of_le (by omega : n < 10) (by decide)
  refine ⟨_, rfl, ?_⟩
  rw [show isSz (.int (n : Nat)) = true from by
    show (decide ((1 : Int) ≤ (n : Int)) && decide ((n : Int) ≤ 3)) = true
    rw [decide_eq_true (by omega), decide_eq_true (by omega)]
    rfl]
  refine iteF ?_
  refine ⟨Nat.zero_le _, fun D hD => ?_⟩
  have ha1 := k1 _ _ ha
  have hx1 := hx.kp (Kp.of k1)
  have aD : a ≠ D := ne_of_none ha1 hD
  refine ⟨_, rfl, a, rfl, ⟨_, SqT.of (same_new hD _ _ ha1)⟩, for_tup (K := K) (a := a) (xs := xs) (fun i σ H' => ∃ y, σ = [some (.int (n : Nat)), some (.ref a), some r, some (.ref D), y] ∧ Same H1 H' ∧ H' D = some (.lst (((acts.take i).map (·.1)).map V.str))) ⟨none, rfl, same_new hD, upd_same⟩ (fun i σ H' _ ⟨_, _, k, _⟩ => SqT.of (k _ _ ha1)) ?_ ?_⟩
  · rintro i x σ H' hi ⟨y, rfl, k, hDl⟩
    obtain ⟨d, hdi, hdx⟩ := hx1.get hi
    obtain ⟨ac, hac, rfl⟩ : ∃ ac, acts[i]? = some ac ∧ actD ac = d := by
      rw [List.getElem?_map] at hdi
      cases e : acts[i]? with
      | none => rw [e] at hdi; cases hdi
      | some ac => rw [e] at hdi; exact ⟨ac, rfl, Option.some.inj hdi⟩
    have hm : ac ∈ acts := List.mem_of_getElem? hac
    have hil : i < acts.length := (List.getElem?_eq_some_iff.mp hac).1
    refine ⟨_, rfl, _, rfl, (n : Nat), S, x, actD ac, rfl, hdx.kp (Kp.of k), AA.okv ac hm, fun H2 k2 => ?_⟩
    refine ⟨_, rfl, ?_⟩
    rw [AA.isAct ac hm]
    refine iteF ?_
    obtain ⟨p, m, rfl, hp, _⟩ := act_at hdx
    have hp2 := k2 _ _ (k _ _ hp)
    have hD2 := k2 _ _ hDl
    have notin : inV (.str ac.1) (((acts.take i).map (·.1)).map V.str) = false := by
      refine List.any_eq_false.mpr fun v hv => ?_
      obtain ⟨z, hz, rfl⟩ := List.mem_map.mp hv
      obtain ⟨b, hb, rfl⟩ := List.mem_map.mp hz
      obtain ⟨j, hj⟩ := List.getElem?_of_mem hb
      rw [List.getElem?_take] at hj
      split at hj
      · rename_i hji
        intro e
        have e' : b.1 = ac.1 := beq_iff_eq.mp e
        have h1 : (acts.map (·.1))[j]? = some b.1 := by rw [List.getElem?_map, hj]; rfl
        have h2 : (acts.map (·.1))[i]? = some ac.1 := by rw [List.getElem?_map, hac]; rfl
        rw [e', ← h2] at h1
        have := (List.getElem?_inj (by rw [List.length_map]; omega) AA.nd).mp h1
        omega
      · cases hj
    refine ⟨_, rfl, p, _, 0, _, rfl, rfl, SqT.of hp2, atI_nat (j := 0) rfl, _, rfl, D, _, rfl, .inl (SqL.of hD2), rfl, ?_, _, rfl, ?_⟩
    · rw [List.all_map]
      exact List.all_eq_true.mpr fun _ _ => rfl
    rw [notin]
    refine iteF ?_
    refine ⟨_, rfl, .inl ⟨rfl, _, SqL.of hD2⟩, _, rfl, p, _, 0, _, rfl, rfl, SqT.of hp2, atI_nat (j := 0) rfl, D, _, _, rfl, rfl, hD2, ?_, ?_⟩
    · rw [List.length_map, List.length_map, List.length_take, sizeLine_eq]
      have := AA.few
      omega
    · refine ⟨_, rfl, ?_, ?_⟩
      · exact fun b o eb => by
          rw [upd_ne (ne_of_none eb hD)]
          exact k2 _ _ (k _ _ eb)
      · rw [upd_same, List.take_succ, hac, List.map_append, List.map_append]
        rfl
  · rintro σ H' ⟨y, rfl, k, hDl⟩
    refine ⟨_, rfl, _, rfl, (n : Nat), S, r, rd, rfl, (hrd.kp (Kp.of k1)).kp (Kp.of k), hok, fun H2 k2 => ?_⟩
    refine ⟨_, rfl, ?_⟩
    rw [hst]
    exact iteF (q H2 (k1.trans (k.trans k2)))
end
end K03
set_option Elab.async false
set_option linter.all false
set_option maxRecDepth 100000
set_option maxHeartbeats 4000000
/-! k03: ways by plain functions. -/
namespace K03
open PySem
/-! ### the first action that leads from a state to another one -/
def tg (a : Act) (p : Nat) : Option Nat := (a.2[p]?).getD none
def Fst (acts : List Act) (p q : Nat) : Option PySem.Str := (acts.find? fun a => tg a p == some q).map (·.1)
/-- the first shortest way, by hand: two steps are enough -/
def R (acts : List Act) (one q : Nat) : Option (List PySem.Str) :=
  if q = one then some [] else
    match Fst acts one q with
    | some a => some [a]
    | none =>
      match Fst acts one (3 - one - q), Fst acts (3 - one - q) q with
      | some a, some b => some [a, b]
      | _, _ => none
theorem fst_lt {n : Nat} {acts : List Act} (A : Acts n acts) {p q : Nat} {x : PySem.Str} (h : Fst acts p q = some x) : q < n := by
  unfold Fst at h
  cases e : acts.find? fun a => tg a p == some q with
  | none => rw [e] at h; cases h
  | some a =>
    have hm := List.mem_of_find?_eq_some e
    have ht : tg a p = some q := by simpa using List.find?_some e
    unfold tg at ht
    cases e2 : a.2[p]? with
    | none => rw [e2] at ht; cases ht
    | some m =>
      rw [e2] at ht
      exact A.mv a hm m (List.mem_of_getElem? e2) q ht
theorem R_lt {n : Nat} {acts : List Act} (A : Acts n acts) {one q : Nat} {w : List PySem.Str} (ho : one < n) (h : R acts one q = some w) : q < n := by
  unfold R at h
  split at h
  · omega
  · split at h
    · rename_i e; exact fst_lt A e
    · split at h
      · rename_i e; exact fst_lt A e
      · cases h
/-! ### what a search has found -/
abbrev Fnd := List (Nat × List PySem.Str)
/-- so many states have been looked at -/
structure Bf (acts : List Act) (n one at_ : Nat) (W : Fnd) : Prop where
  nd : (W.map (·.1)).Nodup
  lt : ∀ e ∈ W, e.1 < n
  hd : W[0]? = some (one, [])
  sound : ∀ e ∈ W, R acts one e.1 = some e.2
  comp : ∀ i e, i < at_ → W[i]? = some e → ∀ t x, Fst acts e.1 t = some x → t ∈ W.map (·.1)
  le : at_ ≤ W.length
/-- the state at at_ is being looked at, so many actions are done -/
structure Bi (acts : List Act) (n one at_ here : Nat) (hw : List PySem.Str) (j : Nat) (W : Fnd) : Prop where
  bf : Bf acts n one at_ W
  hr : W[at_]? = some (here, hw)
  do_ : ∀ a ∈ acts.take j, ∀ t, tg a here = some t → t ∈ W.map (·.1)
theorem Bf.start {n : Nat} {acts : List Act} {one : Nat} (h : one < n) : Bf acts n one 0 [(one, [])] := by
  refine ⟨List.nodup_cons.mpr ⟨List.not_mem_nil, List.nodup_nil⟩, fun e he => ?_, rfl, fun e he => ?_, fun i e hi => absurd hi (Nat.not_lt_zero _), Nat.zero_le _⟩
  · cases List.mem_singleton.mp he
    exact h
  · cases List.mem_singleton.mp he
    show R acts one one = some []
    unfold R
    rw [if_pos rfl]
theorem nodup_len : ∀ {n : Nat} {l : List Nat}, l.Nodup → (∀ x ∈ l, x < n) → l.length ≤ n
  | 0, l, _, h => by
    cases l with
    | nil => exact Nat.le_refl _
    | cons x l => exact absurd (h x List.mem_cons_self) (Nat.not_lt_zero _)
  | n + 1, l, h1, h2 => by
    have h3 := nodup_len (n := n) (l := l.erase n) (h1.erase n) fun x hx => by
      have hx2 := (List.Nodup.mem_erase_iff h1).mp hx
      have := h2 x hx2.2
      have := hx2.1
      omega
    by_cases hm : n ∈ l
    · rw [List.length_erase_of_mem hm] at h3
      omega
    · rw [List.erase_of_not_mem hm] at h3
      omega
theorem Bf.len {acts : List Act} {n one at_ : Nat} {W : Fnd} (b : Bf acts n one at_ W) : W.length ≤ n := by
  have := nodup_len b.nd (n := n) fun x hx => by
    obtain ⟨e, he, rfl⟩ := List.mem_map.mp hx
    exact b.lt e he
  rwa [List.length_map] at this
theorem Bf.one_lt {acts : List Act} {n one at_ : Nat} {W : Fnd} (b : Bf acts n one at_ W) : one < n := b.lt _ (List.mem_of_getElem? b.hd)
theorem Bf.enter {acts : List Act} {n one at_ : Nat} {W : Fnd} (b : Bf acts n one at_ W) {here : Nat} {hw : List PySem.Str} (h : W[at_]? = some (here, hw)) : Bi acts n one at_ here hw 0 W := ⟨b, h, fun a ha => by rw [List.take_zero] at ha; cases ha⟩
theorem Bi.skip {acts : List Act} {n one at_ here : Nat} {hw : List PySem.Str} {j : Nat} {W : Fnd} (b : Bi acts n one at_ here hw j W) {a : Act} (ha : acts[j]? = some a) (h : ∀ t, tg a here = some t → t ∈ W.map (·.1)) : Bi acts n one at_ here hw (j + 1) W := by
  refine ⟨b.bf, b.hr, fun x hx => ?_⟩
  rw [List.take_succ, ha] at hx
  rcases List.mem_append.mp hx with hx | hx
  · exact b.do_ x hx
  · cases List.mem_singleton.mp hx
    exact h
theorem Bi.leave {acts : List Act} {n one at_ here : Nat} {hw : List PySem.Str} {W : Fnd} (b : Bi acts n one at_ here hw acts.length W) : Bf acts n one (at_ + 1) W := by
  refine ⟨b.bf.nd, b.bf.lt, b.bf.hd, b.bf.sound, fun i e hi he t x hf => ?_, (List.getElem?_eq_some_iff.mp b.hr).1⟩
  by_cases h : i < at_
  · exact b.bf.comp i e h he t x hf
  · obtain rfl : i = at_ := by omega
    rw [b.hr] at he
    cases he
    unfold Fst at hf
    cases e : acts.find? fun a => tg a here == some t with
    | none => rw [e] at hf; cases hf
    | some a =>
      refine b.do_ a ?_ t (by simpa using List.find?_some e)
      rw [List.take_length]
      exact List.mem_of_find?_eq_some e
theorem Bi.add {acts : List Act} {n one at_ here : Nat} {hw : List PySem.Str} {j : Nat} {W : Fnd} (A : Acts n acts) (b : Bi acts n one at_ here hw j W) {a : Act} {t : Nat} (ha : acts[j]? = some a) (ht : tg a here = some t) (hn : t ∉ W.map (·.1)) :
    Bi acts n one at_ here hw (j + 1) (W ++ [(t, hw ++ [a.1])]) := by
  have hat : at_ < W.length := (List.getElem?_eq_some_iff.mp b.hr).1
  have hf : Fst acts here t = some a.1 := by
    unfold Fst
    have : acts.find? (fun a => tg a here == some t) = some a := by
      refine List.find?_eq_some_iff_append.mpr ⟨by rw [ht]; exact beq_self_eq_true _, acts.take j, acts.drop (j + 1), ?_, fun x hx => ?_⟩
      · obtain ⟨hl, e⟩ := List.getElem?_eq_some_iff.mp ha
        rw [← e, List.getElem_cons_drop, List.take_append_drop]
      · rw [Bool.not_eq_true']
        exact beq_eq_false_iff_ne.mpr fun e => hn (b.do_ x hx t e)
    rw [this]
    rfl
  have htn : t < n := fst_lt A hf
  have hhm : here ∈ W.map (·.1) := List.mem_map.mpr ⟨_, List.mem_of_getElem? b.hr, rfl⟩
  have hhn : here < n := b.bf.lt _ (List.mem_of_getElem? b.hr)
  have hom : one ∈ W.map (·.1) := List.mem_map.mpr ⟨_, List.mem_of_getElem? b.bf.hd, rfl⟩
  have hon := b.bf.one_lt
  have to : t ≠ one := fun e => hn (e ▸ hom)
  have th : t ≠ here := fun e => hn (e ▸ hhm)
  have hR : R acts one here = some hw := b.bf.sound _ (List.mem_of_getElem? b.hr)
  have hRt : R acts one t = some (hw ++ [a.1]) := by
    by_cases ho : here = one
    · subst ho
      unfold R at hR
      rw [if_pos rfl] at hR
      cases hR
      unfold R
      rw [if_neg to, hf]
      rfl
    · have h0 : 0 < at_ := Nat.pos_of_ne_zero fun e => by
        subst e
        have := b.hr.symm.trans b.bf.hd
        cases this
        exact ho rfl
      have hno : ∀ x, Fst acts one t ≠ some x := fun x e => hn (b.bf.comp 0 _ h0 b.bf.hd t x e)
      have hnone : Fst acts one t = none := by
        cases e : Fst acts one t with
        | none => rfl
        | some x => exact absurd e (hno x)
      have n3 := A.sz
      have ez : 3 - one - t = here := by omega
      have ez2 : 3 - one - here = t := by omega
      unfold R at hR
      rw [if_neg ho, ez2, hnone] at hR
      unfold R
      rw [if_neg to, hnone, ez, hf]
      cases e : Fst acts one here with
      | none => rw [e] at hR; cases hR
      | some x =>
        rw [e] at hR
        cases hR
        rfl
  refine ⟨⟨?_, fun e he => ?_, ?_, fun e he => ?_, fun i e hi he u x hu => ?_, ?_⟩, ?_, fun x hx u hu => ?_⟩
  · rw [List.map_append]
    refine List.nodup_append.mpr ⟨b.bf.nd, List.nodup_cons.mpr ⟨List.not_mem_nil, List.nodup_nil⟩, fun x hx y hy e => ?_⟩
    cases List.mem_singleton.mp hy
    subst e
    exact hn hx
  · rcases List.mem_append.mp he with he | he
    · exact b.bf.lt e he
    · cases List.mem_singleton.mp he
      exact htn
  · rw [List.getElem?_append_left (by omega)]
    exact b.bf.hd
  · rcases List.mem_append.mp he with he | he
    · exact b.bf.sound e he
    · cases List.mem_singleton.mp he
      exact hRt
  · have hi' : i < W.length := by omega
    rw [List.getElem?_append_left hi'] at he
    rw [List.map_append]
    exact List.mem_append_left _ (b.bf.comp i e hi he u x hu)
  · rw [List.length_append]
    omega
  · rw [List.getElem?_append_left hat]
    exact b.hr
  · rw [List.map_append]
    rw [List.take_succ, ha] at hx
    rcases List.mem_append.mp hx with hx | hx
    · exact List.mem_append_left _ (b.do_ x hx u hu)
    · cases List.mem_singleton.mp hx
      rw [ht] at hu
      cases hu
      exact List.mem_append_right _ (List.mem_singleton.mpr rfl)
/-- all is found -/
theorem Bf.done {acts : List Act} {n one : Nat} {W : Fnd} (A : Acts n acts) (b : Bf acts n one W.length W) (r : Nat) (w : List PySem.Str) : R acts one r = some w → (r, w) ∈ W := fun h => by
  have key : r ∈ W.map (·.1) → (r, w) ∈ W := fun hm => by
    obtain ⟨e, he, rfl⟩ := List.mem_map.mp hm
    have := b.sound e he
    rw [h] at this
    cases this
    exact he
  have all : ∀ s ∈ W.map (·.1), ∀ t x, Fst acts s t = some x → t ∈ W.map (·.1) := fun s hs t x hf => by
    obtain ⟨e, he, rfl⟩ := List.mem_map.mp hs
    obtain ⟨i, hi⟩ := List.getElem?_of_mem he
    exact b.comp i e (List.getElem?_eq_some_iff.mp hi).1 hi t x hf
  have hom : one ∈ W.map (·.1) := List.mem_map.mpr ⟨_, List.mem_of_getElem? b.hd, rfl⟩
  refine key ?_
  unfold R at h
  split at h
  · rename_i e; exact e ▸ hom
  · split at h
    · rename_i a e; exact all one hom r a e
    · split at h
      · rename_i a b' e1 e2
        exact all _ (all one hom _ _ e1) r _ e2
      · cases h
end K03
set_option Elab.async false
set_option linter.all false
set_option maxRecDepth 100000
set_option maxHeartbeats 4000000
/-! k03: ways_from. -/
namespace K03
open PySem PySem.Spec PyProof.Rows L2 Zg Zr Zd Zv
/-! ### what is found, as it stands -/
abbrev Ent := Nat × Addr × List PySem.Str
def kvsE (E : List Ent) : List (Key × V) := E.map fun e => (.inl (e.1 : Int), .ref e.2.1)
def fndE (E : List Ent) : Fnd := E.map fun e => (e.1, e.2.2)
theorem fndE_keys (E : List Ent) : (fndE E).map (·.1) = E.map (·.1) := by unfold fndE; rw [List.map_map]; rfl
theorem valE (E : List Ent) (t : Nat) : valV (kvsE E) (.inl (t : Int)) = (E.find? fun e => e.1 == t).map fun e => V.ref e.2.1 := by
  induction E with
  | nil => rfl
  | cons e E ih =>
    show valV ((Sum.inl (e.1 : Int), V.ref e.2.1) :: kvsE E) _ = _
    by_cases h : e.1 = t
    · rw [valV_pos (by rw [h]), List.find?_cons_of_pos (by simp [h])]
      rfl
    · rw [valV_neg (fun z => h (by injection z with z; omega)), List.find?_cons_of_neg (by simp [h]), ih]
theorem valE_none {E : List Ent} {t : Nat} (h : valV (kvsE E) (.inl (t : Int)) = none) : t ∉ E.map (·.1) := by
  rw [valE] at h
  intro hm
  obtain ⟨e, he, rfl⟩ := List.mem_map.mp hm
  cases q : E.find? fun x => x.1 == e.1 with
  | none => exact absurd (List.find?_eq_none.mp q e he) (by simp)
  | some x => rw [q] at h; cases h
theorem valE_some {E : List Ent} {t : Nat} {v : V} (h : valV (kvsE E) (.inl (t : Int)) = some v) : ∃ e ∈ E, e.1 = t ∧ v = .ref e.2.1 := by
  rw [valE] at h
  cases q : E.find? fun x => x.1 == t with
  | none => rw [q] at h; cases h
  | some x =>
    rw [q] at h
    refine ⟨x, List.mem_of_find?_eq_some q, by simpa using List.find?_some q, ?_⟩
    cases h
    rfl
theorem valE_at {E : List Ent} (nd : (E.map (·.1)).Nodup) {e : Ent} (he : e ∈ E) : valV (kvsE E) (.inl (e.1 : Int)) = some (.ref e.2.1) := by
  rw [valE]
  cases q : E.find? fun x => x.1 == e.1 with
  | none => exact absurd (List.find?_eq_none.mp q e he) (by simp)
  | some x =>
    have h1 : x.1 = e.1 := by simpa using List.find?_some q
    have hx := List.mem_of_find?_eq_some q
    obtain ⟨i, hi⟩ := List.getElem?_of_mem he
    obtain ⟨j, hj⟩ := List.getElem?_of_mem hx
    have e1 : (E.map (·.1))[i]? = some e.1 := by rw [List.getElem?_map, hi]; rfl
    have e2 : (E.map (·.1))[j]? = some x.1 := by rw [List.getElem?_map, hj]; rfl
    rw [h1, ← e1] at e2
    have il : j < (E.map (·.1)).length := by rw [List.length_map]; exact (List.getElem?_eq_some_iff.mp hj).1
    have := (List.getElem?_inj il nd).mp e2
    subst this
    rw [hi] at hj
    cases hj
    rfl
/-- the ways of E stand -/
def WaysAt (H : Hp) (E : List Ent) : Prop := ∀ e ∈ E, H e.2.1 = some (.tup (e.2.2.map V.str))
theorem WaysAt.same {H H' : Hp} {E : List Ent} (h : WaysAt H E) (k : Same H H') : WaysAt H' E := fun e he => k _ _ (h e he)
/-- a while with its rest -/
theorem while_then {c : TT} {tb u : TS} {D : Ends} {σ : L2.St} {H : Hp} (Pv : L2.St → Hp → Prop) (μ : L2.St → Hp → Nat) (h0 : Pv σ H)
    (hs : ∀ σ H, Pv σ H → c σ H fun b H1 => if b = true then ∃ N : L2.St → Hp → Prop, (∀ σ' H', N σ' H' → ∃ m', m' < μ σ H ∧ m' = μ σ' H' ∧ Pv σ' H') ∧ tb { D with nx := N, ct := N, bk := u D } σ H1 else u D σ H1) : tSeq (tWhile c tb) u D σ H := by
  refine ⟨fun m σ H => m = μ σ H ∧ Pv σ H, ⟨_, rfl, h0⟩, ?_⟩
  rintro m σ H ⟨rfl, p⟩
  exact hs σ H p
theorem turn_of {Pv : L2.St → Hp → Prop} {μ : L2.St → Hp → Nat} {n : Nat} : ∀ σ' H', (Pv σ' H' ∧ μ σ' H' < n) → ∃ m', m' < n ∧ m' = μ σ' H' ∧ Pv σ' H' := fun σ' H' h => ⟨_, h.2, rfl, h.1⟩
def slot4 (σ : L2.St) : Nat := match σ[4]? with
  | some (some (V.int k)) => k.toNat
  | _ => 0
theorem R_len {acts : List Act} {one q : Nat} {w : List PySem.Str} (h : R acts one q = some w) : w.length ≤ 2 := by
  unfold R at h
  split at h
  · cases h; exact Nat.zero_le _
  · split at h
    · cases h; show 1 ≤ 2; decide
    · split at h
      · cases h; show 2 ≤ 2; decide
      · cases h
/-- the loop of ways_from -/
def PvW (H : Hp) (a d l : Addr) (one n : Nat) (acts : List Act) (σ : L2.St) (H' : Hp) : Prop := ∃ (k : Nat) (E : List Ent) (y5 y6 y7 y8 : Option V), σ = [some (.ref a), some (.int (one : Nat)), some (.ref d), some (.ref l), some (.int (k : Nat)), y5, y6, y7, y8] ∧
  Same H H' ∧ H' d = some (.dK (kvsE E)) ∧ H' l = some (.lst (E.map fun e => .int (e.1 : Nat))) ∧ WaysAt H' E ∧ Bf acts n one k (fndE E)
theorem acts_get {S : List Addr} {H : Hp} {xs : List V} {acts : List Act} (hx : DvAll S H xs (acts.map actD)) {i : Nat} {v : V} (h : xs[i]? = some v) : ∃ a, acts[i]? = some a ∧ Dv S H v (actD a) := by
  obtain ⟨d, hdi, hdx⟩ := hx.get h
  rw [List.getElem?_map] at hdi
  cases e : acts[i]? with
  | none => rw [e] at hdi; cases hdi
  | some a => rw [e] at hdi; cases hdi; exact ⟨a, rfl, hdx⟩
theorem Same.sqT {K : PySem.W.Frag} {H H' : Hp} {a : Addr} {xs : List V} (k : Same H H') (h : SqT K H a xs) : SqT K H' a xs := by
  rcases h with h | h
  · rcases h with h | ⟨o, h⟩
    · exact .inl (.inl (k _ _ h))
    · exact .inl (.inr ⟨o, k _ _ h⟩)
  · exact .inr h
section
variable {P : Program} {w : World} {K : PySem.W.Frag} {mg : PySem.Str → Option Value} {base : Heap}
def sp_ways (K : PySem.W.Frag) : Sp := fun vs H Q _ => ∃ (n one : Nat) (S : List Addr) (a : Addr) (xs : List V) (acts : List Act), vs = [.ref a, .int (one : Nat)] ∧ SqT K H a xs ∧ DvAll S H xs (acts.map actD) ∧ Acts n acts ∧ one < n ∧
  ∀ (H' : Hp) (d : Addr) (E : List Ent), Same H H' → H d = none → H' d = some (.dK (kvsE E)) → WaysAt H' E → Bf acts n one E.length (fndE E) → Q (.ref d) H'
theorem ok_ways_from (T : Txt K mg) : FnOk P w K mg base CX0 1 T.a_ways_from T.d_ways_from P_ways_from (sp_ways K) := by
  refine T.F_ways_from.ok sc_ways_from (fun vs H Q E h => by obtain ⟨n, one, S, a, xs, acts, rfl, _⟩ := h; rfl) (fun cdv A outer s H vs Q E hr h => ?_)
  refine ⟨_, (pss_cons (ps_set (i := 2) sc_ways_from.nd rfl (Or.inl rfl) (pe_disp (pps_cons (pv 1) (pe_tup pa_nil) pps_nil) (by rfl) (by rfl) (fun z => by cases z) (by decide)))
    (pss_cons (ps_set (i := 3) sc_ways_from.nd rfl (Or.inl rfl) (pe_lst (pa_cons (pv 1) pa_nil)))
    (pss_cons (ps_set (i := 4) sc_ways_from.nd rfl (Or.inl rfl) pe_int)
    (pss_cons (ps_while PassesOwn.never (pt_cmpR op_lt (pv 4) (pe_callB call_len_seq (by rfl) T.n_len (by decide +kernel) (pa_cons (pv 3) pa_nil)) (nomark _)) (pss_cons (ps_set (i := 5) sc_ways_from.nd rfl (Or.inl rfl) (pe_ix ix_list (pv 3) (pv 4) (fun _ _ => rfl)))
    (pss_cons (ps_aug (i := 4) sc_ways_from.nd rfl (Or.inl rfl) pe_int ip_add)
    (pss_one (ps_for PassesOwn.never rfl (pi_tup (pv 0)) (pg_tup (by rfl) (pgs_cons (pg_name (i := 6) sc_ways_from.nd rfl (Or.inl rfl)) (pgs_cons (pg_name (i := 7) sc_ways_from.nd rfl (Or.inl rfl)) pgs_nil))) (pss_cons (ps_set (i := 8) sc_ways_from.nd rfl (Or.inl rfl) (pe_ix ix_tup (pv 7) (pv 5) (fun _ _ => rfl)))
    (pss_one (ps_if (PW.pt (pw_and (pt_cmpR op_notN (pv 8) pe_non (nomark _)) (pw_and1 (pt_cmp (pc_dnotin (hu_of hr) (pv 8) (pv 2)) rfl)))) (pss_cons (ps_dput (hu_of hr) (pv 2) (pv 8) (pe_tup (StX.pa_star (pe_dget (hu_of hr) (pv 2) (pv 5) (fun _ _ => rfl)) (pa_cons (pv 6) pa_nil))) rfl)
    (pss_one (ps_expr (pe_bm PySem.F.plainAttrs_list PySem.F.slot_list_append PySem.F.type_list_append mt_append (pv 3) (pa_cons (pv 8) pa_nil))))) pss_nil))))))))
    (pss_one (ps_ret (pv 2))))))), ?_⟩
  obtain ⟨n, one, S, a, xs, acts, rfl, ha, hx, AA, ho, q⟩ := h
  refine fun d hd => ⟨_, rfl, Nat.zero_le _, fun t ht => ?_⟩
  have td : d ≠ t := fun e => by
    rw [← e, upd_same] at ht
    cases ht
  refine ⟨by rw [upd_ne td]; exact upd_same, [(.inl (one : Int), .ref t)], rfl, (by show 1 ≤ 15; decide), ?_⟩
  have s2 : Same H (upd (upd (upd H d (.dK [])) t (.tup [])) d (.dK (mergeK [] [(.inl (one : Int), .ref t)]))) := fun b o e => by
    have nd := ne_of_none e hd
    rw [upd_ne nd]
    exact same_new ht _ _ (same_new hd _ _ e)
  have hd2 : (upd (upd (upd H d (.dK [])) t (.tup [])) d (.dK (mergeK [] [(.inl (one : Int), .ref t)]))) d = some (.dK (kvsE [(one, t, [])])) := upd_same
  have ht2 : (upd (upd (upd H d (.dK [])) t (.tup [])) d (.dK (mergeK [] [(.inl (one : Int), .ref t)]))) t = some (.tup []) := by rw [upd_ne td.symm, upd_same]
  generalize upd (upd (upd H d (.dK [])) t (.tup [])) d (.dK (mergeK [] [(.inl (one : Int), .ref t)])) = H2 at s2 hd2 ht2 ⊢
  refine ⟨_, rfl, (by show 1 ≤ sizeLine; decide), fun l hl => ?_⟩
  have k3 : Same H2 (upd H2 l (.lst [.int (one : Nat)])) := same_new hl
  have dl : d ≠ l := ne_of_none hd2 hl
  have hl0 : H l = none := s2.free hl
  refine while_then (fun σ H' => PvW H a d l one n acts σ H') (fun σ _ => n - slot4 σ) ⟨0, [(one, t, [])], none, none, none, none, rfl, s2.trans k3, k3 _ _ hd2, upd_same, fun e he => ?_, Bf.start ho⟩ ?_
  · cases List.mem_singleton.mp he
    exact k3 _ _ ht2
  rintro σ H' ⟨k, E, y5, y6, y7, y8, rfl, ks, hD, hL, hw, bf⟩
  have hlen : (fndE E).length = E.length := List.length_map _
  refine ⟨_, rfl, _, rfl, l, _, rfl, .inl (SqL.of hL), _, _, rfl, rfl, _, rfl, ite2 (fun e => ?_) (fun e => ?_)⟩
  · have hk : k < E.length := by
      have := of_decide_eq_true e
      rw [List.length_map] at this
      omega
    obtain ⟨en, hen⟩ : ∃ en, E[k]? = some en := ⟨_, List.getElem?_eq_getElem hk⟩
    obtain ⟨here, pw, hw0⟩ := en
    have hfk : (fndE E)[k]? = some (here, hw0) := by unfold fndE; rw [List.getElem?_map, hen]; rfl
    have hn := bf.len
    rw [hlen] at hn
    refine ⟨fun σ' H' => PvW H a d l one n acts σ' H' ∧ n - slot4 σ' < n - k, turn_of, ?_⟩
    refine ⟨_, rfl, _, rfl, l, _, _, _, rfl, rfl, SqL.of hL, atI_nat (j := k) (by rw [List.getElem?_map, hen]; rfl), ?_⟩
    refine ⟨_, rfl, _, _, rfl, rfl, ?_⟩
    refine ⟨_, rfl, a, rfl, ⟨_, Same.sqT ks ha⟩, for_tup (K := K) (a := a) (xs := xs) (fun j σ H' => ∃ (E : List Ent) (y6 y7 y8 : Option V), σ = [some (.ref a), some (.int (one : Nat)), some (.ref d), some (.ref l), some (.int ((k + 1 : Nat) : Int)), some (.int (here : Nat)), y6, y7, y8] ∧ Same H H' ∧ H' d = some (.dK (kvsE E)) ∧ H' l = some (.lst (E.map fun e => .int (e.1 : Nat))) ∧ WaysAt H' E ∧ Bi acts n one k here hw0 j (fndE E))
      ⟨E, y6, y7, y8, rfl, ks, hD, hL, hw, bf.enter hfk⟩ (fun j σ H' _ ⟨_, _, _, _, _, ks, _⟩ => Same.sqT ks ha) ?_ ?_⟩
    · clear hfk hen hk e hlen bf hw hL hD ks
      rintro j x σ H' hj ⟨E, y6, y7, y8, rfl, ks, hD, hL, hw, bi⟩
      obtain ⟨ac, hac, hdx⟩ := acts_get hx hj
      obtain ⟨p, m, rfl, hp, _, hm⟩ := act_at hdx
      have hmm := moves_at hm
      have hil : j < acts.length := (List.getElem?_eq_some_iff.mp hac).1
      have hmem : ac ∈ acts := List.mem_of_getElem? hac
      have hhn : here < n := bi.bf.lt _ (List.mem_of_getElem? bi.hr)
      have hkl : k < (fndE E).length := (List.getElem?_eq_some_iff.mp bi.hr).1
      obtain ⟨mv, hmv⟩ : ∃ mv, ac.2[here]? = some mv := ⟨_, List.getElem?_eq_getElem (by rw [AA.ln ac hmem]; exact hhn)⟩
      have htg : tg ac here = mv := by unfold tg; rw [hmv]; rfl
      refine ⟨p, _, rfl, SqT.of (ks _ _ hp), rfl, _, _, rfl, _, _, rfl, rfl, ?_⟩
      refine ⟨_, rfl, _, rfl, m, _, _, _, rfl, rfl, SqT.of (ks _ _ hmm), atI_nat (j := here) (by rw [List.getElem?_map, hmv]; rfl), ?_⟩
      refine ⟨_, rfl, rfl, _, rfl, ?_⟩
      cases mv with
      | none =>
        refine iteF (iteF ?_)
        exact ⟨E, _, _, _, rfl, ks, hD, hL, hw, bi.skip hac fun t ht => by rw [htg] at ht; cases ht⟩
      | some t =>
        rw [show (decide (mvV (some t) = V.non)) = false from decide_eq_false fun z => by cases z]
        refine iteT ?_
        refine ⟨_, rfl, _, rfl, d, _, rfl, DGet.k (k := .inl (t : Int)) hD, _, rfl, ?_⟩
        cases hv : valV (kvsE E) (.inl (t : Int)) with
        | some v =>
          refine iteF ?_
          obtain ⟨e, he, rfl, _⟩ := valE_some hv
          refine ⟨E, _, _, _, rfl, ks, hD, hL, hw, bi.skip hac fun u hu => ?_⟩
          rw [htg] at hu
          cases hu
          rw [fndE_keys]
          exact List.mem_map.mpr ⟨e, he, rfl⟩
        | none =>
          refine iteT ?_
          have hnot := valE_none hv
          rw [← fndE_keys] at hnot
          -- found[here]
          obtain ⟨en, hen, e1, e2⟩ : ∃ en ∈ E, en.1 = here ∧ en.2.2 = hw0 := by
            have := List.mem_of_getElem? bi.hr
            obtain ⟨en, hen, e⟩ := List.mem_map.mp this
            cases e
            exact ⟨en, hen, rfl, rfl⟩
          subst e1 e2
          have ndE : (E.map (·.1)).Nodup := by rw [← fndE_keys]; exact bi.bf.nd
          have hEl : E.length ≤ 3 := by
            have := bi.bf.len
            rw [show (fndE E).length = E.length from List.length_map _] at this
            have := AA.sz
            omega
          have hwl : en.2.2.length ≤ 3 := by
            have := bi.bf.sound _ (List.mem_of_getElem? bi.hr)
            have h2 : en.2.2.length ≤ 2 := R_len this
            omega
          refine ⟨_, rfl, _, rfl, d, _, rfl, ?_, en.2.1, _, rfl, .inl (SqT.of (hw en hen)), _, rfl, ?_, fun q hq => ?_⟩
          · have := DGet.k (k := .inl (en.1 : Int)) hD
            rw [valE_at ndE hen] at this
            exact this
          · rw [List.length_append, List.length_map, sizeLine_eq]
            show _ + 1 ≤ _
            omega
          have kq : Same H' (upd H' q (.tup (en.2.2.map V.str ++ [.str ac.1]))) := same_new hq
          have qd : d ≠ q := ne_of_none hD hq
          have ql : l ≠ q := ne_of_none hL hq
          refine ⟨_, rfl, _, rfl, d, _, rfl, DPut.k (k := .inl (t : Int)) (kq _ _ hD) ?_, ?_⟩
          · show (E.map _).length < _
            rw [List.length_map, sizeLine_eq]
            omega
          rw [putK_new _ hv]
          have hL2 : (upd (upd H' q (.tup (en.2.2.map V.str ++ [.str ac.1]))) d (.dK (kvsE E ++ [(.inl (t : Int), .ref q)]))) l = some (.lst (E.map fun e => .int (e.1 : Nat))) := by
            rw [upd_ne dl.symm, upd_ne ql]
            exact hL
          refine ⟨_, rfl, .inl ⟨rfl, _, SqL.of hL2⟩, _, rfl, l, _, _, rfl, rfl, hL2, ?_, ?_⟩
          · rw [List.length_map, sizeLine_eq]
            omega
          have hd0 : H d = none := hd
          refine ⟨E ++ [(t, q, en.2.2 ++ [ac.1])], _, _, _, rfl, fun b o eb => ?_, ?_, ?_, fun e he => ?_, ?_⟩
          · rw [upd_ne (ne_of_none eb hl0), upd_ne (ne_of_none eb hd0)]
            exact kq _ _ (ks _ _ eb)
          · rw [upd_ne dl, upd_same]
            unfold kvsE
            rw [List.map_append]
            rfl
          · rw [upd_same, List.map_append]
            rfl
          · have hat : (upd H' q (.tup (en.2.2.map V.str ++ [.str ac.1]))) e.2.1 = some (.tup (e.2.2.map V.str)) := by
              rcases List.mem_append.mp he with he | he
              · exact kq _ _ (hw e he)
              · cases List.mem_singleton.mp he
                rw [upd_same, List.map_append]
                rfl
            have n1 : e.2.1 ≠ l := fun z => by
              rw [z, upd_ne ql, hL] at hat
              cases hat
            have n2 : e.2.1 ≠ d := fun z => by
              rw [z, upd_ne qd, hD] at hat
              cases hat
            rw [upd_ne n1, upd_ne n2]
            exact hat
          · have := bi.add AA hac htg hnot
            unfold fndE at this ⊢
            rw [List.map_append]
            exact this
    · rintro σ H' ⟨E, y6, y7, y8, rfl, ks, hD, hL, hw, bi⟩
      rw [hx.length, List.length_map] at bi
      refine ⟨⟨k + 1, E, _, _, _, _, rfl, ks, hD, hL, hw, bi.leave⟩, ?_⟩
      show n - (k + 1) < n - k
      omega
  · have hk : k = E.length := by
      have := bf.le
      have e' : ¬ ((k : Int) < ((E.map fun e => V.int (e.1 : Nat)).length : Int)) := fun h => e (decide_eq_true h)
      rw [List.length_map] at e'
      omega
    subst hk
    exact ⟨_, rfl, q H' d E ks hd hD hw bf⟩
end
end K03
set_option Elab.async false
set_option linter.all false
set_option maxRecDepth 100000
set_option maxHeartbeats 4000000
/-! k03: a store is made. -/
namespace K03
open PySem PySem.Spec PyProof.Rows L2 Zg Zr Zd Zv
/-! ### a store as it stands -/
def flds (n : Nat) (aA : Addr) (r : V) (dM lW : Addr) : List (PySem.Str × V) := putF "ways_by_state" (.ref lW) (putF "moves_by_name" (.ref dM) (putF "resting" r (putF "actions" (.ref aA) (putF "size" (.int (n : Nat)) []))))
section
variable {n : Nat} {aA : Addr} {r : V} {dM lW : Addr}
theorem flds_ways : (flds n aA r dM lW).lookup ("ways_by_state" : PySem.Str) = some (.ref lW) := by
  unfold flds
  rw [lookup_putF, if_pos rfl]
theorem flds_moves : (flds n aA r dM lW).lookup ("moves_by_name" : PySem.Str) = some (.ref dM) := by
  unfold flds
  rw [lookup_putF, if_neg (by decide +kernel), lookup_putF, if_pos rfl]
theorem flds_resting : (flds n aA r dM lW).lookup ("resting" : PySem.Str) = some r := by
  unfold flds
  rw [lookup_putF, if_neg (by decide +kernel), lookup_putF, if_neg (by decide +kernel), lookup_putF, if_pos rfl]
theorem flds_actions : (flds n aA r dM lW).lookup ("actions" : PySem.Str) = some (.ref aA) := by
  unfold flds
  rw [lookup_putF, if_neg (by decide +kernel), lookup_putF, if_neg (by decide +kernel), lookup_putF, if_neg (by decide +kernel), lookup_putF, if_pos rfl]
theorem flds_size : (flds n aA r dM lW).lookup ("size" : PySem.Str) = some (.int (n : Nat)) := by
  unfold flds
  rw [lookup_putF, if_neg (by decide +kernel), lookup_putF, if_neg (by decide +kernel), lookup_putF, if_neg (by decide +kernel), lookup_putF, if_neg (by decide +kernel), lookup_putF, if_pos rfl]
theorem flds_none {f : PySem.Str} (h : f ∉ (["ways_by_state", "moves_by_name", "resting", "actions", "size"] : List PySem.Str)) : (flds n aA r dM lW).lookup f = none := by
  simp only [List.mem_cons, List.not_mem_nil, or_false, not_or] at h
  unfold flds
  rw [lookup_putF, if_neg h.1, lookup_putF, if_neg h.2.1, lookup_putF, if_neg h.2.2.1, lookup_putF, if_neg h.2.2.2.1, lookup_putF, if_neg h.2.2.2.2]
  rfl
end
theorem len_putF (f : PySem.Str) (v : V) : ∀ fs : List (PySem.Str × V), (putF f v fs).length ≤ fs.length + 1
  | [] => Nat.le_refl _
  | (g, x) :: r => by
    unfold putF
    split
    · exact Nat.le_succ _
    · exact Nat.succ_le_succ (len_putF f v r)
/-- a store of n states with these actions stands at p -/
structure StAt (C : Addr) (H : Hp) (S : List Addr) (p : Addr) (n : Nat) (acts : List Act) (r : V) : Prop where
  ex : ∃ (dx aA : Addr) (o : Obj) (ps : List Addr) (dM lW : Addr) (kvs : List (Key × V)) (ds : List Addr), H p = some (.ins C dx (flds n aA r dM lW)) ∧ H aA = some (.frz o (.tup (ps.map V.ref))) ∧ DvAll S H (ps.map V.ref) (acts.map actD) ∧
    H dM = some (.dK kvs) ∧ (∀ a ∈ acts, ∃ m, valV kvs (.inr a.1) = some (.ref m) ∧ H m = some (.tup (a.2.map mvV))) ∧
    H lW = some (.lst (ds.map V.ref)) ∧ ds.length = n ∧ ∀ one d, ds[one]? = some d → ∃ E, H d = some (.dK (kvsE E)) ∧ WaysAt H E ∧ Bf acts n one E.length (fndE E)
theorem StAt.same {C : Addr} {H H' : Hp} {S : List Addr} {p : Addr} {n : Nat} {acts : List Act} {r : V} (h : StAt C H S p n acts r) (k : Same H H') : StAt C H' S p n acts r := by
  obtain ⟨dx, aA, o, ps, dM, lW, kvs, ds, h1, h2, h3, h4, h5, h6, h7, h8⟩ := h.ex
  refine ⟨dx, aA, o, ps, dM, lW, kvs, ds, k _ _ h1, k _ _ h2, h3.kp (Kp.of k), k _ _ h4, fun a ha => ?_, k _ _ h6, h7, fun one d hd => ?_⟩
  · obtain ⟨m, e1, e2⟩ := h5 a ha
    exact ⟨m, e1, k _ _ e2⟩
  · obtain ⟨E, e1, e2, e3⟩ := h8 one d hd
    exact ⟨E, k _ _ e1, e2.same k, e3⟩
/-! ### which action stands at an address -/
def nameAt (H : Hp) (x : Addr) : PySem.Str := match H x with
  | some (.tup [.str z, _]) => z
  | _ => ""
def mAt (H : Hp) (x : Addr) : Addr := match H x with
  | some (.tup [_, .ref m]) => m
  | _ => x
def mvN : V → Option Nat
  | .int k => some k.toNat
  | _ => none
def movAt (H : Hp) (m : Addr) : List (Option Nat) := match H m with
  | some (.tup vs) => vs.map mvN
  | _ => []
def actAt (H : Hp) (x : Addr) : Act := (nameAt H x, movAt H (mAt H x))
theorem mvN_mvV (m : Option Nat) : mvN (mvV m) = m := by
  cases m with
  | none => rfl
  | some k => show some (Int.toNat (k : Int)) = _; rw [Int.toNat_natCast]
/-- an action at x -/
structure ActAt (S : List Addr) (H : Hp) (x : Addr) (a : Act) : Prop where
  pr : H x = some (.tup [.str a.1, .ref (mAt H x)])
  mo : H (mAt H x) = some (.tup (a.2.map mvV))
  dv : Dv S H (.ref x) (actD a)
  eq : actAt H x = a
theorem ActAt.of {S : List Addr} {H : Hp} {x : Addr} {a : Act} (h : Dv S H (.ref x) (actD a)) : ActAt S H x a := by
  obtain ⟨p, m, e, hp, _, hm⟩ := act_at h
  cases e
  have e1 : mAt H x = m := by unfold mAt; rw [hp]
  have hmm := moves_at hm
  have e2 : nameAt H x = a.1 := by unfold nameAt; rw [hp]
  refine ⟨by rw [e1]; exact hp, by rw [e1]; exact hmm, h, ?_⟩
  unfold actAt movAt
  rw [e1, e2, hmm]
  show (a.1, (a.2.map mvV).map mvN) = a
  rw [List.map_map, show (mvN ∘ mvV) = id from funext mvN_mvV, List.map_id]
theorem ActAt.of' {S : List Addr} {H : Hp} {x : Addr} {a : Act} (h : ActAt S H x a) : ActAt S H x (actAt H x) := by rw [h.eq]; exact h
/-- the addresses of actions -/
theorem refs_of {S : List Addr} {H : Hp} : ∀ {xs : List V} {acts : List Act}, DvAll S H xs (acts.map actD) → ∃ ps : List Addr, xs = ps.map V.ref ∧ acts = ps.map (actAt H) ∧ ∀ x ∈ ps, ActAt S H x (actAt H x)
  | _, [], .nil => ⟨[], rfl, rfl, fun _ h => nomatch h⟩
  | _, a :: acts, .cons h t => by
    obtain ⟨ps, e1, e2, e3⟩ := refs_of t
    obtain ⟨p, m, e, _⟩ := act_at h
    subst e
    have aa := ActAt.of h
    refine ⟨p :: ps, by rw [e1]; rfl, by rw [List.map_cons, aa.eq, ← e2], fun x hx => ?_⟩
    rcases List.mem_cons.mp hx with rfl | hx
    · exact aa.of'
    · exact e3 x hx
theorem dvs_of {S : List Addr} {H : Hp} : ∀ {ps : List Addr}, (∀ x ∈ ps, ActAt S H x (actAt H x)) → DvAll S H (ps.map V.ref) ((ps.map (actAt H)).map actD)
  | [], _ => .nil
  | p :: ps, h => .cons (h p List.mem_cons_self).dv (dvs_of fun x hx => h x (List.mem_cons_of_mem _ hx))
theorem ActAt.kp {S : List Addr} {H H' : Hp} {x : Addr} {a : Act} (h : ActAt S H x a) (k : Kp S H H') : ActAt S H' x a := ActAt.of (h.dv.kp k)
theorem merge_new : ∀ (kvs acc : List (Key × V)), ((acc ++ kvs).map (·.1)).Nodup → mergeK acc kvs = acc ++ kvs
  | [], acc, _ => by rw [List.append_nil]; rfl
  | kv :: kvs, acc, h => by
    have hn : valV acc kv.1 = none := by
      cases e : valV acc kv.1 with
      | none => rfl
      | some v =>
        have := valV_in e
        rw [List.map_append, List.map_cons] at h
        exact absurd rfl ((List.nodup_append.mp h).2.2 _ this _ List.mem_cons_self)
    show mergeK (putK acc kv.1 kv.2) kvs = _
    rw [putK_new _ hn, merge_new kvs _ (by rw [List.append_assoc]; exact h), List.append_assoc]
    rfl
theorem val_nodup {kvs : List (Key × V)} (h : (kvs.map (·.1)).Nodup) {kv : Key × V} (hm : kv ∈ kvs) : valV kvs kv.1 = some kv.2 := by
  induction kvs with
  | nil => cases hm
  | cons x kvs ih =>
    rw [List.map_cons, List.nodup_cons] at h
    rcases List.mem_cons.mp hm with rfl | hm
    · exact valV_pos rfl
    · rw [valV_neg (fun e => h.1 (e ▸ List.mem_map.mpr ⟨kv, hm, rfl⟩))]
      exact ih h.2 hm
theorem paired_map {α β : Type} {R : α → β → Prop} (f : α → β) : ∀ {l : List α}, (∀ x ∈ l, R x (f x)) → Paired R l (l.map f)
  | [], _ => .nil
  | x :: l, h => .cons (h x List.mem_cons_self) (paired_map f fun y hy => h y (List.mem_cons_of_mem _ hy))
end K03
set_option Elab.async false
set_option linter.all false
set_option maxRecDepth 100000
set_option maxHeartbeats 4000000
/-! k03: Store.__init__. -/
namespace K03
open PySem PySem.Spec PyProof.Rows L2 Zg Zr Zd Zv
theorem Acts.perm {n : Nat} {acts acts' : List Act} (A : Acts n acts) (h : acts'.Perm acts) : Acts n acts' :=
  ⟨fun a ha => A.nm a (h.mem_iff.mp ha), fun a ha => A.ln a (h.mem_iff.mp ha), fun a ha => A.mv a (h.mem_iff.mp ha), (h.map _).nodup_iff.mpr A.nd, by rw [h.length_eq]; exact A.few, A.sz⟩
theorem dvs_eq {S : List Addr} {H : Hp} {f : Addr → Act} : ∀ {ps : List Addr}, (∀ x ∈ ps, Dv S H (.ref x) (actD (f x))) → DvAll S H (ps.map V.ref) ((ps.map f).map actD)
  | [], _ => .nil
  | p :: ps, h => .cons (h p List.mem_cons_self) (dvs_eq fun x hx => h x (List.mem_cons_of_mem _ hx))
section
variable {P : Program} {w : World} {K : PySem.W.Frag} {mg : PySem.Str → Option Value} {base : Heap}
/-- by their names -/
abbrev Asc (acts : List Act) : Prop := acts.Pairwise fun x y => ¬ y.1.cps.toList < x.1.cps.toList
def sp_init (C : Addr) : List V → Sp := fun zs vs H Q _ => ∃ (p dx : Addr) (n : Nat) (S : List Addr) (rest : List V) (acts : List Act) (r : V) (rd : PyData), zs = [r] ∧ vs = .ref p :: .int (n : Nat) :: rest ∧ p ∈ S ∧ H p = some (.ins C dx []) ∧ 1 ≤ n ∧
  DvAll S H rest (acts.map actD) ∧ Acts n acts ∧ Dv S H r rd ∧ Zv.okv rd = true ∧ areStates n rd = true ∧
  ∀ (H' : Hp) (acts' : List Act), Kp [p] H H' → acts'.Perm acts → Asc acts' → StAt C H' S p n acts' r → Q .non H'
theorem ok_Store_init (T : Txt K mg) : Sk.FnK P w K mg base CX0 5 T.a_Store_init ["resting"] (sp_init T.C_Store) := by
  refine Sk.fn_starK (ps := ["self", "size"]) (pk := ["resting"]) (pv := "actions") T.F_Store_init sc_Store_init StX.cxUp_none (fun kV doc pm an cdv ct us rest ws h1 h2 => ?_) (fun cdv A outer s H vs rest zs Q E hr hl hz h pt hpt => ?_) (fun zs vs H Q E h => ?_)
  · match us, ws, rest, h1, h2 with
    | [a, b], [c], [], _, _ => rfl
    | [a, b], [c], r :: rs, _, _ => rfl
  · refine ⟨_, (pss_cons (ps_expr (pe_call (ok_check_store T) (hr.mono (by decide)) (by rfl) T.g_check_store T.F_check_store.kp T.b_check_store .nil pass0 (pa_cons (pv 1) (pa_cons (pv 3) (pa_cons (pv 2) pa_nil)))))
    (pss_cons (ps_fld (pv 0) (pv 1) rfl)
    (pss_cons (ps_fld (pv 0) (pe_callTy Sp.call_tupleF (by rfl) T.n_tuple (by decide +kernel) (pa_cons (pe_callB Sp.cr_sortedTS (by rfl) T.n_sorted (by decide +kernel) (pa_cons (pv 3) pa_nil)) pa_nil)) rfl)
    (pss_cons (ps_fld (pv 0) (pv 2) rfl)
    (pss_cons (ps_fld (pv 0) (pe_callTy (Sp.call_dictPT (by rfl)) (by rfl) T.n_dict (by decide +kernel) (pa_cons (pe_fld (pv 0) rfl) pa_nil)) rfl)
    (pss_one (ps_fld (pv 0) (pe_lc (own := [("state", 4)]) rfl sc_Store_init.nd (pi_range1 (by rfl) T.n_range (pa_cons (pv 1) pa_nil)) (blkOk_by (own := [("state", 4)]) (N := N_Store_init) (sc := defScope s_Store_init) (by decide +kernel)) (fun _ _ _ _ _ => (pg_name (i := 4) sc_Store_init.nd rfl (Or.inl rfl))) (fun _ _ _ _ _ => pts_nil) (fun _ _ _ _ _ => (pe_call (ok_ways_from T) (hr.mono (by decide)) (by rfl) T.g_ways_from T.F_ways_from.kp T.b_ways_from .nil pass0 (pa_cons (show PE _ _ (tFld K (tVar 0) _) from (pe_fld (pv 0) rfl)) (pa_cons (pv 4) pa_nil))))) rfl))))))), ?_⟩
    obtain ⟨p, dx, n, S, rest', acts, r, rd, rfl, ev, hpS, hp, hn1, hx, AA, hrd, hok, hst, q⟩ := h
    obtain ⟨rfl, rfl⟩ : vs = [.ref p, .int (n : Nat)] ∧ rest = rest' := by
      match vs, hl with
      | [a, b], _ =>
        injection ev with e1 ev
        injection ev with e2 ev
        exact ⟨by rw [e1, e2], ev⟩
    have k0 : Kp [p] H (upd H pt (.tup rest)) := Kp.new hpt
    have ppt : p ≠ pt := ne_of_none hp hpt
    have hp0 : (upd H pt (.tup rest)) p = some (.ins T.C_Store dx []) := by rw [upd_ne ppt]; exact hp
    have ht0 : (upd H pt (.tup rest)) pt = some (.tup rest) := upd_same
    generalize upd H pt (.tup rest) = H0 at k0 hp0 ht0 ⊢
    have sub : ∀ a ∈ [p], a ∈ S := fun a ha => by cases List.mem_singleton.mp ha; exact hpS
    have kS : ∀ {Ha Hb : Hp}, Kp [p] Ha Hb → Kp S Ha Hb := fun k => k.sub sub
    refine ⟨_, rfl, _, rfl, _, rfl, n, S, pt, rest, acts, r, rd, rfl, hn1, ht0, hx.kp (kS k0), AA, hrd.kp (kS k0), hok, hst, fun H1 k1 => ?_⟩
    have hp1 := k1 _ _ hp0
    have ht1 := k1 _ _ ht0
    have K1 : Kp [p] H H1 := k0.trans (Kp.of k1)
    have hx1 := hx.kp (kS K1)
    obtain ⟨ps, rfl, eacts, hact⟩ := refs_of hx1
    -- self.size = size
    refine ⟨_, rfl, _, rfl, p, T.C_Store, dx, _, rfl, hp1, T.cl_Store, T.no_Store_size, (by show 0 < 1000; decide), ?_⟩
    have K2 : Kp [p] H (upd H1 p (.ins T.C_Store dx (putF "size" (.int (n : Nat)) []))) := K1.wr (.inl List.mem_cons_self)
    have k12 : Kp [p] H1 (upd H1 p (.ins T.C_Store dx (putF "size" (.int (n : Nat)) []))) := (Kp.refl _ _).wr (.inl List.mem_cons_self)
    have hp2 : (upd H1 p (.ins T.C_Store dx (putF "size" (.int (n : Nat)) []))) p = some (.ins T.C_Store dx (putF "size" (.int (n : Nat)) [])) := upd_same
    generalize upd H1 p (.ins T.C_Store dx (putF "size" (.int (n : Nat)) [])) = H2 at K2 k12 hp2 ⊢
    have hact2 : ∀ x ∈ ps, ActAt S H2 x (actAt H1 x) := fun x hx => (hact x hx).kp (kS k12)
    have hact2' : ∀ x ∈ ps, actAt H2 x = actAt H1 x := fun x hx => (hact2 x hx).eq
    have ptp : pt ∉ [p] := fun h => ppt (List.mem_singleton.mp h).symm
    have ht2 := k12 _ _ ptp ht1
    -- self.actions = tuple(sorted(actions))
    have inj : ∀ x ∈ ps, ∀ y ∈ ps, nameAt H2 x = nameAt H2 y → x = y := fun x hx y hy e => by
      have nd := AA.nd
      rw [eacts, List.map_map] at nd
      obtain ⟨i, hi⟩ := List.getElem?_of_mem hx
      obtain ⟨j, hj⟩ := List.getElem?_of_mem hy
      have ex : (actAt H1 x).1 = nameAt H2 x := by rw [← hact2' x hx]; rfl
      have ey : (actAt H1 y).1 = nameAt H2 y := by rw [← hact2' y hy]; rfl
      have e1 : (ps.map ((fun a : Act => a.1) ∘ actAt H1))[i]? = some (nameAt H2 x) := by rw [List.getElem?_map, hi]; exact congrArg some ex
      have e2 : (ps.map ((fun a : Act => a.1) ∘ actAt H1))[j]? = some (nameAt H2 y) := by rw [List.getElem?_map, hj]; exact congrArg some ey
      rw [e, ← e2] at e1
      have := (List.getElem?_inj (by rw [List.length_map]; exact (List.getElem?_eq_some_iff.mp hi).1) nd).mp e1
      subst this
      rw [hi] at hj
      cases hj
      rfl
    refine ⟨_, rfl, pt, ps, nameAt H2, rfl, SqT.of ht2, fun x hx => ⟨.ref (mAt H2 x), SqT.of ?_⟩, inj, fun ys qa perm asc hqa => ?_⟩
    · have h := (hact2 x hx).pr
      rw [← hact2' x hx] at h
      exact h
    refine ⟨qa, _, rfl, SqL.of upd_same, fun aA o haA ho => ?_⟩
    have K3 : Kp [p] H2 (upd (upd H2 qa (.lst (ys.map V.ref))) aA (.frz o (.tup (ys.map V.ref)))) := (Kp.new hqa).trans (Kp.new haA)
    have hA3 : (upd (upd H2 qa (.lst (ys.map V.ref))) aA (.frz o (.tup (ys.map V.ref)))) aA = some (.frz o (.tup (ys.map V.ref))) := upd_same
    have hp3 : (upd (upd H2 qa (.lst (ys.map V.ref))) aA (.frz o (.tup (ys.map V.ref)))) p = some (.ins T.C_Store dx (putF "size" (.int (n : Nat)) [])) := same_new haA _ _ (same_new hqa _ _ hp2)
    generalize upd (upd H2 qa (.lst (ys.map V.ref))) aA (.frz o (.tup (ys.map V.ref))) = H3 at K3 hA3 hp3 ⊢
    refine ⟨_, rfl, p, T.C_Store, dx, _, rfl, hp3, T.cl_Store, T.no_Store_actions, ?_, ?_⟩
    · exact Nat.lt_of_le_of_lt (length_putF _ _ _) (by decide)
    have pA : aA ≠ p := (ne_of hp3 hA3 (by intro z; cases z)).symm
    have K4 : Kp [p] H2 (upd H3 p (.ins T.C_Store dx (putF "actions" (.ref aA) (putF "size" (.int (n : Nat)) [])))) := K3.wr (.inl List.mem_cons_self)
    have hp4 : (upd H3 p (.ins T.C_Store dx (putF "actions" (.ref aA) (putF "size" (.int (n : Nat)) [])))) p = some (.ins T.C_Store dx (putF "actions" (.ref aA) (putF "size" (.int (n : Nat)) []))) := upd_same
    have hA4 : (upd H3 p (.ins T.C_Store dx (putF "actions" (.ref aA) (putF "size" (.int (n : Nat)) [])))) aA = some (.frz o (.tup (ys.map V.ref))) := by rw [upd_ne pA]; exact hA3
    generalize upd H3 p (.ins T.C_Store dx (putF "actions" (.ref aA) (putF "size" (.int (n : Nat)) []))) = H4 at K4 hp4 hA4 ⊢
    -- self.resting = resting
    refine ⟨_, rfl, _, rfl, p, T.C_Store, dx, _, rfl, hp4, T.cl_Store, T.no_Store_resting, ?_, ?_⟩
    · exact Nat.lt_of_le_of_lt (Nat.le_trans (length_putF _ _ _) (Nat.succ_le_succ (length_putF _ _ _))) (by decide)
    have K5 : Kp [p] H2 (upd H4 p (.ins T.C_Store dx (putF "resting" r (putF "actions" (.ref aA) (putF "size" (.int (n : Nat)) []))))) := K4.wr (.inl List.mem_cons_self)
    have hp5 : (upd H4 p (.ins T.C_Store dx (putF "resting" r (putF "actions" (.ref aA) (putF "size" (.int (n : Nat)) []))))) p = some (.ins T.C_Store dx (putF "resting" r (putF "actions" (.ref aA) (putF "size" (.int (n : Nat)) [])))) := upd_same
    have hA5 : (upd H4 p (.ins T.C_Store dx (putF "resting" r (putF "actions" (.ref aA) (putF "size" (.int (n : Nat)) []))))) aA = some (.frz o (.tup (ys.map V.ref))) := by rw [upd_ne pA]; exact hA4
    generalize upd H4 p (.ins T.C_Store dx (putF "resting" r (putF "actions" (.ref aA) (putF "size" (.int (n : Nat)) [])))) = H5 at K5 hp5 hA5 ⊢
    -- self.moves_by_name = dict(self.actions)
    have hmem : ∀ x ∈ ys, x ∈ ps := fun x hx => perm.mem_iff.mp hx
    have hact5 : ∀ x ∈ ys, ActAt S H5 x (actAt H1 x) := fun x hx => (hact2 x (hmem x hx)).kp (kS K5)
    have la : (putF "resting" r (putF "actions" (.ref aA) (putF "size" (.int (n : Nat)) []))).lookup ("actions" : PySem.Str) = some (.ref aA) := by
      rw [lookup_putF, if_neg (by decide +kernel), lookup_putF, if_pos rfl]
    refine ⟨_, rfl, p, T.C_Store, dx, _, _, rfl, hp5, T.cl_Store, T.no_Store_actions, la, ?_⟩
    refine ⟨aA, o, ys, ys.map fun x => ((.inr (actAt H1 x).1 : Key), V.ref (mAt H5 x)), rfl, hA5, ho, paired_map _ fun x hx => SqT.of (hact5 x hx).pr, fun dM hdM => ?_⟩
    have ndk : ((ys.map fun x => ((.inr (actAt H1 x).1 : Key), V.ref (mAt H5 x))).map (·.1)).Nodup := by
      rw [List.map_map]
      have nd := (perm.map (actAt H1)).map (fun a : Act => a.1)
      have nd2 := AA.nd
      rw [eacts] at nd2
      have nd3 := nd.nodup_iff.mpr nd2
      rw [List.map_map] at nd3
      have nd4 := List.Pairwise.map (R := (· ≠ ·)) (S := (· ≠ ·)) (fun z : PySem.Str => (Sum.inr z : Key)) (fun a b h e => h (by injection e)) nd3
      rw [List.map_map] at nd4
      exact nd4
    have mg0 : mergeK [] (ys.map fun x => ((.inr (actAt H1 x).1 : Key), V.ref (mAt H5 x))) = ys.map fun x => ((.inr (actAt H1 x).1 : Key), V.ref (mAt H5 x)) := by
      rw [merge_new _ _ (by rw [List.nil_append]; exact ndk), List.nil_append]
    rw [mg0]
    generalize hkv : (ys.map fun x => ((.inr (actAt H1 x).1 : Key), V.ref (mAt H5 x))) = kvs at ndk
    have hdk : ∀ a ∈ ys.map (actAt H1), ∃ m, valV kvs (.inr a.1) = some (.ref m) ∧ H5 m = some (.tup (a.2.map mvV)) := fun a ha => by
      obtain ⟨x, hx, rfl⟩ := List.mem_map.mp ha
      refine ⟨mAt H5 x, ?_, (hact5 x hx).mo⟩
      exact val_nodup (kv := ((.inr (actAt H1 x).1 : Key), V.ref (mAt H5 x))) ndk (by rw [← hkv]; exact List.mem_map.mpr ⟨x, hx, rfl⟩)
    have k6 : Same H5 (upd H5 dM (.dK kvs)) := same_new hdM
    have hp6 := k6 _ _ hp5
    have hA6 := k6 _ _ hA5
    have hM6 : (upd H5 dM (.dK kvs)) dM = some (.dK kvs) := upd_same
    generalize upd H5 dM (.dK kvs) = H6 at k6 hp6 hA6 hM6 ⊢
    refine ⟨_, rfl, p, T.C_Store, dx, _, rfl, hp6, T.cl_Store, T.no_Store_moves_by_name, ?_, ?_⟩
    · exact Nat.lt_of_le_of_lt (Nat.le_trans (length_putF _ _ _) (Nat.succ_le_succ (Nat.le_trans (length_putF _ _ _) (Nat.succ_le_succ (length_putF _ _ _))))) (by decide)
    have pM : dM ≠ p := (ne_of hp6 hM6 (by intro z; cases z)).symm
    have K7 : Kp [p] H5 (upd H6 p (.ins T.C_Store dx (putF "moves_by_name" (.ref dM) (putF "resting" r (putF "actions" (.ref aA) (putF "size" (.int (n : Nat)) [])))))) := (Kp.of k6).wr (.inl List.mem_cons_self)
    have hp7 : (upd H6 p (.ins T.C_Store dx (putF "moves_by_name" (.ref dM) (putF "resting" r (putF "actions" (.ref aA) (putF "size" (.int (n : Nat)) [])))))) p = some (.ins T.C_Store dx (putF "moves_by_name" (.ref dM) (putF "resting" r (putF "actions" (.ref aA) (putF "size" (.int (n : Nat)) []))))) := upd_same
    have hA7 : (upd H6 p (.ins T.C_Store dx (putF "moves_by_name" (.ref dM) (putF "resting" r (putF "actions" (.ref aA) (putF "size" (.int (n : Nat)) [])))))) aA = some (.frz o (.tup (ys.map V.ref))) := by rw [upd_ne pA]; exact hA6
    have hM7 : (upd H6 p (.ins T.C_Store dx (putF "moves_by_name" (.ref dM) (putF "resting" r (putF "actions" (.ref aA) (putF "size" (.int (n : Nat)) [])))))) dM = some (.dK kvs) := by rw [upd_ne pM]; exact hM6
    generalize upd H6 p (.ins T.C_Store dx (putF "moves_by_name" (.ref dM) (putF "resting" r (putF "actions" (.ref aA) (putF "size" (.int (n : Nat)) []))))) = H7 at K7 hp7 hA7 hM7 ⊢
    -- self.ways_by_state = [ways_from(self.actions, state) for state in range(size)]
    have aperm : (ys.map (actAt H1)).Perm acts := by rw [eacts]; exact perm.map _
    have AA' := AA.perm aperm
    have n3 := AA.sz
    have hx7 : DvAll S H7 (ys.map V.ref) ((ys.map (actAt H1)).map actD) := dvs_eq fun x hx => ((hact5 x hx).kp (kS K7)).dv
    have la7 : (putF "moves_by_name" (.ref dM) (putF "resting" r (putF "actions" (.ref aA) (putF "size" (.int (n : Nat)) [])))).lookup ("actions" : PySem.Str) = some (.ref aA) := by
      rw [lookup_putF, if_neg (by decide +kernel)]
      exact la
    refine ⟨_, rfl, (n : Nat), rfl, by omega, by omega, fun D hD => ?_⟩
    have s7 : Same H7 (upd H7 D (.lst [])) := same_new hD
    refine lc_range (lo := 0) (n := ((n : Nat) : Int).toNat) (fun i H' => ∃ ds : List Addr, ds.length = i ∧ Same H7 H' ∧ H' D = some (.lst (ds.map V.ref)) ∧ ∀ one d, ds[one]? = some d → ∃ E, H' d = some (.dK (kvsE E)) ∧ WaysAt H' E ∧ Bf (ys.map (actAt H1)) n one E.length (fndE E)) ⟨[], rfl, s7, upd_same, fun one d h => by cases h⟩ ?_ ?_
    · rintro i H' hi ⟨ds, hdl, k, hDl, hds⟩
      rw [Int.toNat_natCast] at hi
      refine ⟨rfl, ?_⟩
      refine ⟨_, rfl, p, T.C_Store, dx, _, _, rfl, k _ _ hp7, T.cl_Store, T.no_Store_actions, la7, _, rfl, n, i, S, aA, _, _, by rw [Int.zero_add]; rfl, .inl (.inr ⟨o, k _ _ hA7⟩), hx7.kp (Kp.of k), AA', hi, fun H'' d E s2 hd0 hdE hwE bf => ?_⟩
      have hD2 := s2 _ _ hDl
      refine ⟨_, hD2, by rw [List.length_map, sizeLine_eq]; omega, ds ++ [d], by rw [List.length_append, hdl]; rfl, fun b o' eb => ?_, by rw [upd_same, List.map_append]; rfl, fun one d' h => ?_⟩
      · rw [upd_ne (ne_of_none eb hD)]
        exact s2 _ _ (k _ _ eb)
      · have go : ∀ E', H'' d' = some (.dK (kvsE E')) → WaysAt H'' E' → (upd H'' D (.lst (ds.map V.ref ++ [.ref d]))) d' = some (.dK (kvsE E')) ∧ WaysAt (upd H'' D (.lst (ds.map V.ref ++ [.ref d]))) E' := fun E' h1 h2 => by
          refine ⟨?_, fun e he => ?_⟩
          · rw [upd_ne (ne_of h1 hD2 (by intro z; cases z))]
            exact h1
          · rw [upd_ne (ne_of (h2 e he) hD2 (by intro z; cases z))]
            exact h2 e he
        by_cases ho : one < ds.length
        · rw [List.getElem?_append_left ho] at h
          obtain ⟨E', e1, e2, e3⟩ := hds one d' h
          obtain ⟨g1, g2⟩ := go E' (s2 _ _ e1) (e2.same s2)
          exact ⟨E', g1, g2, e3⟩
        · rw [List.getElem?_append_right (by omega)] at h
          have h0 : one - ds.length = 0 := by
            have := (List.getElem?_eq_some_iff.mp h).1
            rw [List.length_singleton] at this
            omega
          rw [h0] at h
          cases h
          obtain rfl : one = i := by omega
          obtain ⟨g1, g2⟩ := go E hdE hwE
          exact ⟨E, g1, g2, bf⟩
    · rintro H' ⟨ds, hdl, k, hDl, hds⟩
      rw [Int.toNat_natCast] at hdl
      have hp8 := k _ _ hp7
      refine ⟨_, rfl, p, T.C_Store, dx, _, rfl, hp8, T.cl_Store, T.no_Store_ways_by_state, ?_, ?_⟩
      · exact Nat.lt_of_le_of_lt (Nat.le_trans (length_putF _ _ _) (Nat.succ_le_succ (Nat.le_trans (length_putF _ _ _) (Nat.succ_le_succ (Nat.le_trans (length_putF _ _ _) (Nat.succ_le_succ (length_putF _ _ _))))))) (by decide)
      have KE : Kp [p] H7 (upd H' p (.ins T.C_Store dx (flds n aA r dM D))) := (Kp.of k).wr (.inl List.mem_cons_self)
      have np : ∀ {b : Addr} {ob : HO}, H' b = some ob → (∀ C dx fs, ob ≠ .ins C dx fs) → (upd H' p (.ins T.C_Store dx (flds n aA r dM D))) b = some ob := fun hb hn => by
        rw [upd_ne (ne_of hb hp8 (hn _ _ _))]
        exact hb
      refine q _ (ys.map (actAt H1)) ((((K1.trans k12).trans K5).trans K7).trans KE) aperm ?_ ⟨dx, aA, o, ys, dM, D, kvs, ds, upd_same, np (k _ _ hA7) (by intro _ _ _ z; cases z), hx7.kp (kS KE), np (k _ _ hM7) (by intro _ _ _ z; cases z), fun a ha => ?_, np hDl (by intro _ _ _ z; cases z), hdl, fun one d h => ?_⟩
      · refine List.pairwise_map.mpr (asc.imp_of_mem fun {x y} hx hy h => ?_)
        have e1 : (actAt H1 x).1 = nameAt H2 x := by rw [← hact2' x (hmem x hx)]; rfl
        have e2 : (actAt H1 y).1 = nameAt H2 y := by rw [← hact2' y (hmem y hy)]; rfl
        rw [e1, e2]
        exact h
      · obtain ⟨m, e1, e2⟩ := hdk a ha
        have n1 : m ∉ [p] := fun z => by
          cases List.mem_singleton.mp z
          rw [hp5] at e2
          cases e2
        exact ⟨m, e1, np (k _ _ (K7 _ _ n1 e2)) (by intro _ _ _ z; cases z)⟩
      · obtain ⟨E', e1, e2, e3⟩ := hds one d h
        exact ⟨E', np e1 (by intro _ _ _ z; cases z), fun e he => np (e2 e he) (by intro _ _ _ z; cases z), e3⟩
  · obtain ⟨p, dx, n, S, rest', acts, r, rd, rfl, rfl, hpS, hp, hn1, hx, AA, _⟩ := h
    have := hx.length
    have := AA.few
    rw [List.length_map] at *
    refine ⟨by show 2 ≤ _ + 1 + 1; omega, ?_⟩
    show _ + 1 + 1 ≤ _
    rw [sizeLine_eq]
    omega
end
end K03
set_option Elab.async false
set_option linter.all false
set_option maxRecDepth 100000
set_option maxHeartbeats 4000000
/-! k03: Store.of, its questions. -/
namespace K03
open PySem PySem.Spec PyProof.Rows L2 Zg Zr Zd Zv
/-- a way or None -/
def WayV (H : Hp) (v : V) : Option (List PySem.Str) → Prop
  | none => v = .non
  | some w => ∃ t, v = .ref t ∧ H t = some (.tup (w.map V.str))
theorem way_val {n one : Nat} {acts : List Act} {H : Hp} {E : List Ent} (A : Acts n acts) (hw : WaysAt H E) (bf : Bf acts n one E.length (fndE E)) (r : Nat) : WayV H ((valV (kvsE E) (.inl (r : Int))).getD .non) (R acts one r) ∧ (valV (kvsE E) (.inl (r : Int))).isSome = (R acts one r).isSome := by
  have hl : (fndE E).length = E.length := List.length_map _
  have bf' : Bf acts n one (fndE E).length (fndE E) := by rw [hl]; exact bf
  cases hR : R acts one r with
  | none =>
    cases hv : valV (kvsE E) (.inl (r : Int)) with
    | none => exact ⟨rfl, rfl⟩
    | some v =>
      obtain ⟨e, he, rfl, _⟩ := valE_some hv
      have := bf.sound (e.1, e.2.2) (List.mem_map.mpr ⟨e, he, rfl⟩)
      rw [hR] at this
      cases this
  | some w =>
    have hm := bf'.done A r w hR
    obtain ⟨e, he, ee⟩ := List.mem_map.mp hm
    cases ee
    rw [valE_at (by rw [← fndE_keys]; exact bf.nd) he]
    exact ⟨⟨_, rfl, hw e he⟩, rfl⟩
section
variable {P : Program} {w : World} {K : PySem.W.Frag} {mg : PySem.Str → Option Value} {base : Heap}
def sp_of (C : Addr) : Sp := fun vs H Q _ => ∃ (n : Nat) (S : List Addr) (a : Addr) (xs : List V) (acts : List Act) (r : V) (rd : PyData), vs = [.ref C, .int (n : Nat), .ref a, r] ∧ 1 ≤ n ∧ H a = some (.tup xs) ∧ DvAll S H xs (acts.map actD) ∧ Acts n acts ∧ Dv S H r rd ∧ Zv.okv rd = true ∧ areStates n rd = true ∧
  ∀ (H' : Hp) (p : Addr) (acts' : List Act), Same H H' → H p = none → acts'.Perm acts → Asc acts' → StAt C H' S p n acts' r → Q (.ref p) H'
theorem StAt.sub {C : Addr} {H : Hp} {S S' : List Addr} {p : Addr} {n : Nat} {acts : List Act} {r : V} (h : StAt C H S p n acts r) (e : ∀ a ∈ S', a ∈ S) : StAt C H S' p n acts r := by
  obtain ⟨dx, aA, o, ps, dM, lW, kvs, ds, h1, h2, h3, h4⟩ := h.ex
  exact ⟨dx, aA, o, ps, dM, lW, kvs, ds, h1, h2, h3.sub e, h4⟩
theorem ok_Store_of (T : Txt K mg) : FnOk P w K mg base CX0 7 T.a_Store_of T.d_Store_of P_Store_of (sp_of T.C_Store) := by
  refine T.F_Store_of.ok sc_Store_of (fun vs H Q E h => by obtain ⟨n, S, a, xs, acts, r, rd, rfl, _⟩ := h; rfl) (fun cdv A outer s H vs Q E hr h => ?_)
  refine ⟨_, (pss_cons (ps_if (pt_not (pt_val (pe_call (ok_is_size T) (hr.mono (by omega)) (by rfl) T.g_is_size T.F_is_size.kp T.b_is_size .nil pass0 (pa_cons (pv 1) pa_nil)))) (pss_one ps_never) pss_nil)
    (pss_cons (ps_if (pt_not (pt_val (pe_callB call_isi (by rfl) T.n_isinstance (by decide +kernel) (pa_cons (pv 2) (pa_cons (pe_bltn (v := .ty "tuple") (u := .type "tuple") (by rfl) T.n_tuple (by decide +kernel) rfl) pa_nil))))) (pss_one ps_never) pss_nil)
    (pss_one (ps_ret (Sk.pe_clsK (i := 0) T.mk_Store (ok_Store_init T) (hr.mono (by decide)) rfl (Or.inl rfl) pass0 (pa_cons (pv 1) (StX.pa_star (pv 2) pa_nil)) (pk_cons (pv 3) pk_nil)))))), ?_⟩
  obtain ⟨n, S, a, xs, acts, r, rd, rfl, hn1, ha, hx, AA, hrd, hok, hst, q⟩ := h
  have n3 := AA.sz
  refine ⟨_, rfl, [], .int (n : Nat), .int (n : Nat), rfl, .int _, ?_, fun H1 k1 => ?_⟩
  · refine decide_eq_true ?_
    rw [Int.natAbs_natCast]
    exact Nat.lt_of_lt_of_le (by omega : n < 10) (by decide)
  refine ⟨_, rfl, ?_⟩
  rw [show isSz (.int (n : Nat)) = true from by
    show (decide ((1 : Int) ≤ (n : Int)) && decide ((n : Int) ≤ 3)) = true
    rw [decide_eq_true (by omega), decide_eq_true (by omega)]
    rfl]
  refine iteF ?_
  have ha1 := k1 _ _ ha
  refine ⟨_, rfl, .ref a, .ty "tuple", _, _, true, rfl, .ty _, .base (.tup ha1), rfl, _, rfl, ?_⟩
  refine iteF ?_
  refine ⟨rfl, _, rfl, _, rfl, a, xs, rfl, .inl (SqT.of ha1), _, rfl, rfl, fun x dx hx0 hdx ne => ?_⟩
  have s1 : Same H1 (upd (upd H1 dx (.own x)) x (.ins T.C_Store dx [])) := fun b o e => by
    rw [upd_ne (ne_of_none e hx0)]
    exact same_new hdx _ _ e
  have hS : ∀ a ∈ S, a ∈ x :: S := fun a ha => List.mem_cons_of_mem _ ha
  have kk : Same H (upd (upd H1 dx (.own x)) x (.ins T.C_Store dx [])) := k1.trans s1
  have hxx : DvAll (x :: S) H1 xs (acts.map actD) := (hx.kp (Kp.of k1)).fresh hx0
  have hrr : Dv (x :: S) H1 r rd := (hrd.kp (Kp.of k1)).fresh hx0
  refine ⟨x, dx, n, x :: S, xs, acts, r, rd, rfl, by rw [List.append_nil], List.mem_cons_self, upd_same, hn1, hxx.kp (Kp.of s1), AA, hrr.kp (Kp.of s1), hok, hst, fun H' acts' k' perm asc st => ⟨rfl, ?_⟩⟩
  have hxH : H x = none := k1.free hx0
  refine q H' x acts' (fun b o e => ?_) hxH perm asc (st.sub hS)
  have nb : b ∉ [x] := fun m => by
    cases List.mem_singleton.mp m
    rw [hxH] at e
    cases e
  exact k' _ _ nb (kk _ _ e)
def sp_way (C : Addr) : Sp := fun vs H Q _ => ∃ (S : List Addr) (p : Addr) (n one r : Nat) (acts : List Act) (rs : V), vs = [.ref p, .int (one : Nat), .int (r : Nat)] ∧ StAt C H S p n acts rs ∧ Acts n acts ∧ one < n ∧ ∀ v, WayV H v (R acts one r) → Q v H
theorem ok_Store_way (T : Txt K mg) : FnOk P w K mg base CX0 1 T.a_Store_way T.d_Store_way P_Store_way (sp_way T.C_Store) := by
  refine T.F_Store_way.ok sc_Store_way (fun vs H Q E h => by obtain ⟨S, p, n, one, r, acts, rs, rfl, _⟩ := h; rfl) (fun cdv A outer s H vs Q E hr h => ?_)
  refine ⟨_, (pss_one (ps_ret (pe_dget1 (hu_of hr) (pe_ix ix_list (pe_fld (pv 0) rfl) (pv 1) (fun _ _ => rfl)) (pv 2) ⟨by rfl, by rfl, by rfl, by rfl⟩))), ?_⟩
  obtain ⟨S, p, n, one, r, acts, rs, rfl, st, AA, ho, q⟩ := h
  obtain ⟨dx, aA, o, ps, dM, lW, kvs, ds, h1, h2, h3, h4, h5, h6, h7, h8⟩ := st.ex
  obtain ⟨d, hd⟩ : ∃ d, ds[one]? = some d := ⟨_, List.getElem?_eq_getElem (by omega)⟩
  obtain ⟨E, e1, e2, e3⟩ := h8 one d hd
  refine ⟨_, rfl, p, T.C_Store, dx, _, _, rfl, h1, T.cl_Store, T.no_Store_ways_by_state, flds_ways, _, rfl, lW, _, _, _, rfl, rfl, SqL.of h6, atI_nat (j := one) (by rw [List.getElem?_map, hd]; rfl), d, rfl, .inl ⟨_, Rd.of e1⟩, _, rfl, _, DGet.k (k := .inl (r : Int)) e1, ?_⟩
  exact q _ (way_val AA e2 e3 r).1
def sp_leads (C : Addr) : Sp := fun vs H Q _ => ∃ (S : List Addr) (p : Addr) (n one r : Nat) (acts : List Act) (rs : V), vs = [.ref p, .int (one : Nat), .int (r : Nat)] ∧ StAt C H S p n acts rs ∧ Acts n acts ∧ one < n ∧ Q (.bl (R acts one r).isSome) H
theorem ok_Store_leads (T : Txt K mg) : FnOk P w K mg base CX0 1 T.a_Store_leads T.d_Store_leads P_Store_leads (sp_leads T.C_Store) := by
  refine T.F_Store_leads.ok sc_Store_leads (fun vs H Q E h => by obtain ⟨S, p, n, one, r, acts, rs, rfl, _⟩ := h; rfl) (fun cdv A outer s H vs Q E hr h => ?_)
  refine ⟨_, (pss_one (ps_ret (pe_cmp (pc_din (hu_of hr) (pv 2) (pe_ix ix_list (pe_fld (pv 0) rfl) (pv 1) (fun _ _ => rfl))) rfl))), ?_⟩
  obtain ⟨S, p, n, one, r, acts, rs, rfl, st, AA, ho, q⟩ := h
  obtain ⟨dx, aA, o, ps, dM, lW, kvs, ds, h1, h2, h3, h4, h5, h6, h7, h8⟩ := st.ex
  obtain ⟨d, hd⟩ : ∃ d, ds[one]? = some d := ⟨_, List.getElem?_eq_getElem (by omega)⟩
  obtain ⟨E, e1, e2, e3⟩ := h8 one d hd
  refine ⟨_, rfl, _, rfl, p, T.C_Store, dx, _, _, rfl, h1, T.cl_Store, T.no_Store_ways_by_state, flds_ways, _, rfl, lW, _, _, _, rfl, rfl, SqL.of h6, atI_nat (j := one) (by rw [List.getElem?_map, hd]; rfl), d, _, rfl, DGet.k (k := .inl (r : Int)) e1, ?_⟩
  rw [(way_val AA e2 e3 r).2]
  exact q
def sp_after (C : Addr) : Sp := fun vs H Q _ => ∃ (S : List Addr) (p : Addr) (n one : Nat) (a : Act) (acts : List Act) (rs : V) (m : Option Nat), vs = [.ref p, .int (one : Nat), .str a.1] ∧ StAt C H S p n acts rs ∧ a ∈ acts ∧ a.2[one]? = some m ∧ Q (mvV m) H
theorem ok_Store_after (T : Txt K mg) : FnOk P w K mg base CX0 1 T.a_Store_after T.d_Store_after P_Store_after (sp_after T.C_Store) := by
  refine T.F_Store_after.ok sc_Store_after (fun vs H Q E h => by obtain ⟨S, p, n, one, a, acts, rs, m, rfl, _⟩ := h; rfl) (fun cdv A outer s H vs Q E hr h => ?_)
  refine ⟨_, (pss_one (ps_ret (pe_ix ix_tup (pe_dget (hu_of hr) (pe_fld (pv 0) rfl) (pv 2) (fun _ _ => rfl)) (pv 1) (fun _ _ => rfl)))), ?_⟩
  obtain ⟨S, p, n, one, a, acts, rs, mv, rfl, st, ha, hm, q⟩ := h
  obtain ⟨dx, aA, o, ps, dM, lW, kvs, ds, h1, h2, h3, h4, h5, h6, h7, h8⟩ := st.ex
  obtain ⟨m, e1, e2⟩ := h5 a ha
  have g := DGet.k (k := .inr a.1) h4
  rw [e1] at g
  exact ⟨_, rfl, p, T.C_Store, dx, _, _, rfl, h1, T.cl_Store, T.no_Store_moves_by_name, flds_moves, _, rfl, dM, _, rfl, g, _, rfl, m, _, _, _, rfl, rfl, SqT.of e2, atI_nat (j := one) (by rw [List.getElem?_map, hm]; rfl), q⟩
/-- what is reached -/
def reachedL (acts : List Act) (n : Nat) : List Nat := (List.range n).filter fun r => (R acts 0 r).isSome
def sp_reached (C : Addr) : Sp := fun vs H Q _ => ∃ (S : List Addr) (p : Addr) (n : Nat) (acts : List Act) (rs : V), vs = [.ref p] ∧ StAt C H S p n acts rs ∧ Acts n acts ∧ 1 ≤ n ∧ ∀ (H' : Hp) (t : Addr), Same H H' → H t = none → H' t = some (.tup (((reachedL acts n).map fun r : Nat => (r : Int)).map V.int)) → Q (.ref t) H'
theorem sorted_eq : ∀ {l m : List Int}, l.Pairwise (· ≤ ·) → m.Pairwise (· ≤ ·) → l.Perm m → l = m
  | [], m, _, _, h => (List.Perm.nil_eq h)
  | x :: l, [], _, _, h => absurd h.length_eq (by simp)
  | x :: l, y :: m, h1, h2, h => by
    rw [List.pairwise_cons] at h1 h2
    have e : x = y := by
      have a : x ≤ y := by
        rcases List.mem_cons.mp (h.mem_iff.mpr (List.mem_cons_self (a := y) (l := m))) with e | q
        · omega
        · exact h1.1 _ q
      have b : y ≤ x := by
        rcases List.mem_cons.mp (h.mem_iff.mp (List.mem_cons_self (a := x) (l := l))) with e | q
        · omega
        · exact h2.1 _ q
      omega
    subst e
    rw [sorted_eq h1.2 h2.2 h.cons_inv]
theorem ok_Store_reached (T : Txt K mg) : FnOk P w K mg base CX0 1 T.a_Store_reached T.d_Store_reached P_Store_reached (sp_reached T.C_Store) := by
  refine T.F_Store_reached.ok sc_Store_reached (fun vs H Q E h => by obtain ⟨S, p, n, acts, rs, rfl, _⟩ := h; rfl) (fun cdv A outer s H vs Q E hr h => ?_)
  refine ⟨_, (pss_one (ps_ret (pe_callTy call_tuple_of (by rfl) T.n_tuple (by decide +kernel) (pa_cons (pe_callB cr_sortedI (by rfl) T.n_sorted (by decide +kernel) (pa_cons (pe_callTy (call_listD (by rfl)) (by rfl) T.n_list (by decide +kernel) (pa_cons (pe_ix ix_list (pe_fld (pv 0) rfl) pe_int (fun _ _ => rfl)) pa_nil)) pa_nil)) pa_nil)))), ?_⟩
  obtain ⟨S, p, n, acts, rs, rfl, st, AA, hn1, q⟩ := h
  obtain ⟨dx, aA, o, ps, dM, lW, kvs, ds, h1, h2, h3, h4, h5, h6, h7, h8⟩ := st.ex
  obtain ⟨d, hd⟩ : ∃ d, ds[0]? = some d := ⟨_, List.getElem?_eq_getElem (by omega)⟩
  obtain ⟨E, e1, e2, e3⟩ := h8 0 d hd
  refine ⟨_, rfl, p, T.C_Store, dx, _, _, rfl, h1, T.cl_Store, T.no_Store_ways_by_state, flds_ways, lW, _, 0, _, rfl, rfl, SqL.of h6, atI_nat (j := 0) (by rw [List.getElem?_map, hd]; rfl), d, _, rfl, Rd.of e1, fun l hl => ?_⟩
  have ek : (kvsE E).map (fun kv => kV kv.1) = (E.map fun e => (e.1 : Int)).map V.int := by
    unfold kvsE
    rw [List.map_map, List.map_map]
    rfl
  rw [ek]
  refine ⟨l, _, rfl, SqL.of upd_same, fun ns q2 perm sorted hq2 => ?_⟩
  refine ⟨q2, _, rfl, .inl ⟨SqL.of upd_same, fun t ht => ?_⟩⟩
  have ens : ns = (reachedL acts n).map fun r : Nat => (r : Int) := by
    refine sorted_eq sorted ?_ (perm.trans ?_)
    · refine List.pairwise_map.mpr (((List.pairwise_lt_range (n := n)).filter _).imp fun {a b} h => by omega)
    · rw [show (E.map fun e => (e.1 : Int)) = (E.map (·.1)).map fun r : Nat => (r : Int) by rw [List.map_map]; rfl]
      refine List.Perm.map _ ?_
      have nd1 : (E.map (·.1)).Nodup := by rw [← fndE_keys]; exact e3.nd
      have nd2 : (reachedL acts n).Nodup := (List.nodup_range (n := n)).filter _
      refine (List.perm_ext_iff_of_nodup nd1 nd2).mpr fun r => ?_
      unfold reachedL
      rw [List.mem_filter, List.mem_range]
      constructor
      · intro hm
        obtain ⟨e, he, rfl⟩ := List.mem_map.mp hm
        have hmm : (e.1, e.2.2) ∈ fndE E := List.mem_map.mpr ⟨e, he, rfl⟩
        exact ⟨e3.lt _ hmm, by rw [e3.sound _ hmm]; rfl⟩
      · rintro ⟨_, h⟩
        obtain ⟨w, hw⟩ := Option.isSome_iff_exists.mp h
        have hl : (fndE E).length = E.length := List.length_map _
        have := Bf.done AA (by rw [hl]; exact e3) r w hw
        rw [← fndE_keys]
        exact List.mem_map.mpr ⟨_, this, rfl⟩
  rw [ens] at ht ⊢
  refine q _ t ?_ ?_ upd_same
  · exact (same_new hl).trans ((same_new hq2).trans (same_new ht))
  · have := ((same_new (o := .lst ((E.map fun e => (e.1 : Int)).map V.int)) hl).trans (same_new hq2)).free ht
    exact this
end
end K03
set_option Elab.async false
set_option linter.all false
set_option maxRecDepth 100000
set_option maxHeartbeats 4000000
/-! k03: drawn names. -/
namespace K03
open PySem PySem.Spec PyProof.Rows L2 Zg Zr Zd Zv
theorem atI_of {α : Type} {xs : List α} {r : Int} (h0 : 0 ≤ r) (h1 : r < xs.length) : ∃ (h : r.toNat < xs.length), atI xs r = some xs[r.toNat] := by
  have h : r.toNat < xs.length := by omega
  refine ⟨h, ?_⟩
  have q := atI_nat (xs := xs) (j := r.toNat) (v := xs[r.toNat]) (List.getElem?_eq_getElem h)
  have e : ((r.toNat : Nat) : Int) = r := Int.toNat_of_nonneg h0
  rw [e] at q
  exact q
theorem two {w l a : Addr} (h1 : a ≠ w) (h2 : a ≠ l) : a ∉ [w, l] := by
  intro h
  rcases List.mem_cons.mp h with e | h
  · exact h1 e
  · rw [List.mem_singleton] at h
    exact h2 h
theorem Well.ne {H : Hp} {w l p : Addr} {C : Nat} (h : Well H w l C) (n : H p = none) : p ∉ [w, l] := by
  obtain ⟨_, b, c, ns, h1, h2, _⟩ := h
  exact two (fun e => by rw [e, h1] at n; cases n) (fun e => by rw [e, h2] at n; cases n)
/-- a new thing beside the well -/
theorem Well.new {H : Hp} {w l p : Addr} {C : Nat} {o : HO} (h : Well H w l C) (n : p ∉ [w, l]) : Well (upd H p o) w l C := by
  obtain ⟨d, b, c, ns, h1, h2, r⟩ := h
  have n1 : w ≠ p := fun e => n (e ▸ List.mem_cons_self)
  have n2 : l ≠ p := fun e => n (e ▸ List.mem_cons_of_mem _ List.mem_cons_self)
  exact ⟨d, b, c, ns, by rw [upd_ne n1]; exact h1, by rw [upd_ne n2]; exact h2, r⟩
theorem abc_len : ((("abcdefghijklmnopqrstuvwxyz" : PySem.Str).cps.toList.length : Nat) : Int) = 26 := by decide +kernel
/-! ### drawn names -/
def NamesOk (m : Nat) (zs : List PySem.Str) : Prop := zs.length = m ∧ zs.Nodup ∧ ∀ z ∈ zs, isName (.str z) = true
def Lt (j : Nat) : PySem.Str := ⟨#[ABC.getD j 0]⟩
theorem lt_inj : ∀ i : Fin 26, ∀ j : Fin 26, ABC.getD i 0 = ABC.getD j 0 → i = j := by decide +kernel
theorem lt_name : ∀ i : Fin 26, isName (.str (Lt i)) = true := by decide +kernel
theorem Lt_inj {i j : Nat} (hi : i < 26) (hj : j < 26) (h : Lt i = Lt j) : i = j := by
  have h1 : ABC.getD i 0 = ABC.getD j 0 := by
    unfold Lt at h
    injection h with h
    injection h with h
    injection h
  exact congrArg Fin.val (lt_inj ⟨i, hi⟩ ⟨j, hj⟩ h1)
def ix0 (f s : Int) (k : Nat) : Nat := ((f + s * (k : Nat)) % 26).toNat
theorem ix0_lt (f s : Int) (k : Nat) : ix0 f s k < 26 := by
  unfold ix0
  have := mod_in (a := f + s * (k : Nat)) (m := 26) (by decide)
  omega
theorem ix0_inj {f s : Int} {a b : Nat} (hs : s = 1 ∨ s = 3 ∨ s = 5 ∨ s = 7 ∨ s = 9 ∨ s = 11) (ha : a < 6) (hb : b < 6) (h : ix0 f s a = ix0 f s b) : a = b := by
  unfold ix0 at h
  have h1 := mod_in (a := f + s * (a : Nat)) (m := 26) (by decide)
  have h2 := mod_in (a := f + s * (b : Nat)) (m := 26) (by decide)
  have h3 : (f + s * (a : Nat)) % 26 = (f + s * (b : Nat)) % 26 := by omega
  rcases hs with rfl | rfl | rfl | rfl | rfl | rfl <;> omega
def fam0 (f s : Int) (m : Nat) : List PySem.Str := (List.range m).map fun k => Lt (ix0 f s k)
theorem nodup_range_map {β : Type} {g : Nat → β} {m : Nat} (h : ∀ a b, a < m → b < m → g a = g b → a = b) : ((List.range m).map g).Nodup := by
  refine List.pairwise_map.mpr ((List.nodup_range (n := m)).imp_of_mem fun {a b} ha hb hne e => hne (h a b (List.mem_range.mp ha) (List.mem_range.mp hb) e))
theorem fam0_ok {f s : Int} {m : Nat} (hs : s = 1 ∨ s = 3 ∨ s = 5 ∨ s = 7 ∨ s = 9 ∨ s = 11) (hm : m ≤ 6) : NamesOk m (fam0 f s m) := by
  refine ⟨by unfold fam0; rw [List.length_map, List.length_range], nodup_range_map fun a b ha hb e => ix0_inj hs (by omega) (by omega) (Lt_inj (ix0_lt _ _ _) (ix0_lt _ _ _) e), fun z hz => ?_⟩
  obtain ⟨k, hk, rfl⟩ := List.mem_map.mp hz
  exact lt_name ⟨_, ix0_lt _ _ _⟩
def pre7 (k : Nat) : PySem.Str := cutS (Sm.rept "a" 7) none (some (k : Int))
theorem pre_len : ∀ k : Fin 6, ∀ j : Fin 26, (pre7 k ++ Lt j).length = k + 1 := by decide +kernel
theorem pre_name : ∀ k : Fin 6, ∀ j : Fin 26, isName (.str (pre7 k ++ Lt j)) = true := by decide +kernel
def fam1 (j : Nat) (m : Nat) : List PySem.Str := (List.range m).map fun k => pre7 k ++ Lt j
theorem fam1_ok {j m : Nat} (hj : j < 26) (hm : m ≤ 6) : NamesOk m (fam1 j m) := by
  refine ⟨by unfold fam1; rw [List.length_map, List.length_range], nodup_range_map fun a b ha hb e => ?_, fun z hz => ?_⟩
  · have e1 := pre_len ⟨a, by omega⟩ ⟨j, hj⟩
    have e2 := pre_len ⟨b, by omega⟩ ⟨j, hj⟩
    have e3 : (pre7 a ++ Lt j).length = (pre7 b ++ Lt j).length := by rw [e]
    have e1' : (pre7 a ++ Lt j).length = a + 1 := e1
    have e2' : (pre7 b ++ Lt j).length = b + 1 := e2
    omega
  · obtain ⟨k, hk, rfl⟩ := List.mem_map.mp hz
    rw [List.mem_range] at hk
    exact pre_name ⟨k, by omega⟩ ⟨j, hj⟩
def FAM2 : List PySem.Str := ["o", "op", "ope", "open", "ob", "opb"]
theorem fam2_all : FAM2.Nodup ∧ (∀ z ∈ FAM2, isName (.str z) = true) := by decide +kernel
theorem fam2_ok {m : Nat} (hm : m ≤ 6) : NamesOk m (FAM2.take m) := by
  refine ⟨by rw [List.length_take]; show min m 6 = m; omega, fam2_all.1.sublist (List.take_sublist _ _), fun z hz => fam2_all.2 z (List.mem_of_mem_take hz)⟩
section
variable {P : Program} {w : World} {K : PySem.W.Frag} {mg : PySem.Str → Option Value} {base : Heap}
def sp_names : Sp := fun vs H Q _ => ∃ (w l : Addr) (C m : Nat), vs = [.ref w, .int (m : Nat)] ∧ Well H w l C ∧ C + 3 < LIM ∧ m ≤ 6 ∧
  ∀ (H' : Hp) (p : Addr) (zs : List PySem.Str), Kp [w, l] H H' → Well H' w l (C + 3) → p ∉ [w, l] → H' p = some (.lst (zs.map V.str)) → NamesOk m zs → Q (.ref p) H'
theorem ok_names (T : Txt K mg) : FnOk P w K mg base CX0 2 T.a_names T.d_names P_names sp_names := by
  refine T.F_names.ok sc_names (fun vs H Q E h => by obtain ⟨w, l, C, m, rfl, _⟩ := h; rfl) (fun cdv A outer s H vs Q E hr h => ?_)
  refine ⟨_, (pss_cons (ps_set (i := 2) sc_names.nd rfl (Or.inr rfl) pe_str)
    (pss_cons (ps_asg (pe_tup (pa_cons (pe_call (ok_drawn T) (hr.mono (by decide)) (by rfl) T.g_drawn T.F_drawn.kp T.b_drawn .nil pass0 (pa_cons (pv 0) (pa_cons pe_int pa_nil))) (pa_cons (pe_op op_add pe_int (pe_op op_mul pe_int (pe_call (ok_drawn T) (hr.mono (by decide)) (by rfl) T.g_drawn T.F_drawn.kp T.b_drawn .nil pass0 (pa_cons (pv 0) (pa_cons pe_int pa_nil))))) pa_nil))) (pg_tup (by rfl) (pgs_cons (pg_name (i := 3) sc_names.nd rfl (Or.inr rfl)) (pgs_cons (pg_name (i := 4) sc_names.nd rfl (Or.inr rfl)) pgs_nil))))
    (pss_cons (ps_set (i := 5) sc_names.nd rfl (Or.inr rfl) (pe_lc (own := [("k", 6)]) rfl sc_names.nd (pi_range1 (by rfl) T.n_range (pa_cons (pv 1) pa_nil)) (blkOk_by (own := [("k", 6)]) (N := N_names) (sc := defScope s_names) (by decide +kernel)) (fun _ _ _ _ _ => (pg_name (i := 6) sc_names.nd rfl (Or.inl rfl))) (fun _ _ _ _ _ => pts_nil) (fun _ _ _ _ _ => (pe_ix ix_str (pv 2) (pe_op op_mod (pe_callTy call_int1 (by rfl) T.n_int (by decide +kernel) (pa_cons (pe_op op_add (pv 3) (pe_op op_mul (pv 4) (pv 6))) pa_nil)) pe_int) (fun _ _ => rfl)))))
    (pss_cons (ps_set (i := 7) sc_names.nd rfl (Or.inl rfl) (pe_call (ok_drawn T) (hr.mono (by decide)) (by rfl) T.g_drawn T.F_drawn.kp T.b_drawn .nil pass0 (pa_cons (pv 0) (pa_cons pe_int pa_nil))))
    (pss_cons (ps_if (pt_cmpR op_eq (pv 7) pe_int (nomark _)) (pss_one (ps_set (i := 5) sc_names.nd rfl (Or.inr rfl) (pe_lc (own := [("k", 6)]) rfl sc_names.nd (pi_range1 (by rfl) T.n_range (pa_cons (pv 1) pa_nil)) (blkOk_by (own := [("k", 6)]) (N := N_names) (sc := defScope s_names) (by decide +kernel)) (fun _ _ _ _ _ => (pg_name (i := 6) sc_names.nd rfl (Or.inl rfl))) (fun _ _ _ _ _ => pts_nil) (fun _ _ _ _ _ => (pe_op op_add_str (pe_slice sl_str (pe_op Sm.op_mulS pe_str pe_int) po_none (po_some (pv 6))) (pe_ix (show IxR _ (rIxL K) from ix_list) (pv 5) pe_int (fun _ _ => rfl))))))) pss_nil)
    (pss_cons (ps_if (pt_cmpR op_eq (pv 7) pe_int (nomark _)) (pss_one (ps_set (i := 5) sc_names.nd rfl (Or.inr rfl) (pe_slice sl_list (pe_lst (pa_cons pe_str (pa_cons pe_str (pa_cons pe_str (pa_cons pe_str (pa_cons pe_str (pa_cons pe_str pa_nil))))))) po_none (po_some (pv 1))))) pss_nil)
    (pss_one (ps_ret (pv 5))))))))), ?_⟩
  obtain ⟨w, l, C, m, rfl, hW, hC, hm, q⟩ := h
  refine ⟨_, rfl, w, l, 26, C, rfl, hW, by omega, by decide, by decide, fun H1 f k1 hW1 f0 f1 => ?_⟩
  refine ⟨_, rfl, w, l, 6, C + 1, rfl, hW1, by omega, by decide, by decide, fun H2 t k2 hW2 t0 t1 => ?_⟩
  have hs : (1 + 2 * t : Int) = 1 ∨ (1 + 2 * t : Int) = 3 ∨ (1 + 2 * t : Int) = 5 ∨ (1 + 2 * t : Int) = 7 ∨ (1 + 2 * t : Int) = 9 ∨ (1 + 2 * t : Int) = 11 := by omega
  refine ⟨_, _, rfl, rfl, .inl ⟨by decide, by decide⟩, _, _, rfl, rfl, (by show 2 ≤ sizeLine; decide), fun tp htp => ?_⟩
  refine ⟨tp, _, rfl, SqT.of upd_same, rfl, _, _, rfl, _, _, rfl, rfl, ?_⟩
  have k3 : Same H2 (upd H2 tp (.tup [.int f, .int (1 + 2 * t)])) := same_new htp
  have hW3 := hW2.same k3
  dsimp only [gName]
  generalize (1 + 2 * t : Int) = s at hs k3 hW3 ⊢
  generalize upd H2 tp (.tup [.int f, .int s]) = H3 at k3 hW3 ⊢
  -- names
  refine ⟨_, rfl, (m : Nat), rfl, by omega, by omega, fun D hD => ?_⟩
  refine lc_range (lo := 0) (n := ((m : Nat) : Int).toNat) (fun i H' => Same H3 H' ∧ H' D = some (.lst ((fam0 f s i).map V.str))) ⟨same_new hD, upd_same⟩ ?_ ?_
  · rintro i H' hi ⟨k', hHD⟩
    rw [Int.toNat_natCast] at hi
    refine ⟨rfl, ?_⟩
    refine ⟨_, rfl, _, rfl, _, rfl, _, rfl, _, _, rfl, rfl, .inl ⟨by omega, by omega⟩, _, _, rfl, rfl, .inl ⟨_, rfl, _, _, rfl, rfl, (by show (0 : Int) < 26; decide), ?_⟩⟩
    rw [Int.zero_add]
    have h26 := mod_in (a := f + s * (i : Nat)) (m := 26) (by decide)
    obtain ⟨hi4, e4⟩ := atI_of (xs := ("abcdefghijklmnopqrstuvwxyz" : PySem.Str).cps.toList) (r := (f + s * (i : Nat)) % 26) h26.1 (by rw [abc_len]; exact h26.2)
    refine ⟨_, _, _, rfl, rfl, by rw [sizeLine_eq]; decide +kernel, e4, _, hHD, ?_, ?_, ?_⟩
    · unfold fam0
      rw [List.length_map, List.length_map, List.length_range, sizeLine_eq]
      omega
    · exact fun b o eb => by
        rw [upd_ne (ne_of_none eb hD)]
        exact k' _ _ eb
    · rw [upd_same]
      have ev : V.str ⟨#[("abcdefghijklmnopqrstuvwxyz" : PySem.Str).cps.toList[((f + s * (i : Nat)) % 26).toNat]]⟩ = V.str (Lt (ix0 f s i)) := by
        have : ABC.getD (ix0 f s i) 0 = ("abcdefghijklmnopqrstuvwxyz" : PySem.Str).cps.toList[((f + s * (i : Nat)) % 26).toNat] := by
          rw [List.getD_eq_getElem?_getD]
          show (("abcdefghijklmnopqrstuvwxyz" : PySem.Str).cps.toList[((f + s * (i : Nat)) % 26).toNat]?).getD 0 = _
          rw [List.getElem?_eq_getElem hi4]
          rfl
        unfold Lt
        rw [this]
      rw [ev]
      unfold fam0
      rw [List.range_succ, List.map_append, List.map_append]
      rfl
  rintro H4 ⟨k4, hD4⟩
  rw [Int.toNat_natCast] at hD4
  have hW4 := hW3.same k4
  have nD : D ∉ [w, l] := hW3.ne hD
  dsimp only [gName]
  -- way
  refine ⟨_, rfl, w, l, 3, C + 2, rfl, hW4, by omega, by decide, by decide, fun H5 r k5 hW5 r0 r1 => ?_⟩
  have K5 : Kp [w, l] H H5 := k1.trans (k2.trans ((Kp.of k3).trans ((Kp.of k4).trans k5)))
  have hD5 := k5 _ _ nD hD4
  have fin : ∀ (H' : Hp) (p : Addr) (zs : List PySem.Str), Same H5 H' → p ∉ [w, l] → H' p = some (.lst (zs.map V.str)) → NamesOk m zs → Q (.ref p) H' := fun H' p zs k np hp ok => q H' p zs (K5.trans (Kp.of k)) (hW5.same k) np hp ok
  refine ⟨_, rfl, rfl, _, rfl, ite2 (fun e => ?_) (fun e => ?_)⟩
  · have er : r = 1 := by
      have := of_decide_eq_true e
      injection this
    subst er
    refine ⟨_, rfl, (m : Nat), rfl, by omega, by omega, fun D2 hD2 => ?_⟩
    refine lc_range (lo := 0) (n := ((m : Nat) : Int).toNat) (fun i H' => Same H5 H' ∧ H' D2 = some (.lst ((fam1 (ix0 f s 0) i).map V.str))) ⟨same_new hD2, upd_same⟩ ?_ ?_
    · rintro i H' hi ⟨k', hHD⟩
      rw [Int.toNat_natCast] at hi
      refine ⟨rfl, ?_⟩
      refine ⟨"a", 7, rfl, rfl, by decide, by decide, by decide, by decide, (by rw [sizeLine_eq]; decide +kernel), ?_⟩
      dsimp only [tNoPart]
      refine ⟨_, rfl, _, rfl, _, rfl, (by rw [sizeLine_eq]; decide +kernel), ?_⟩
      rw [Int.zero_add]
      have h0 : (fam0 f s m)[0]? = some (Lt (ix0 f s 0)) := by
        unfold fam0
        rw [List.getElem?_map, List.getElem?_range (by omega)]
        rfl
      refine ⟨_, rfl, D, _, 0, _, rfl, rfl, SqL.of (k' _ _ hD5), atI_nat (j := 0) (by rw [List.getElem?_map, h0]; rfl), _, _, rfl, rfl, ?_, _, hHD, ?_, ?_, ?_⟩
      · have := pre_len ⟨i, by omega⟩ ⟨ix0 f s 0, ix0_lt _ _ _⟩
        rw [strLen_append] at this
        show (pre7 i).length + (Lt (ix0 f s 0)).length ≤ sizeLine
        rw [sizeLine_eq]
        have h2 : (pre7 i).length + (Lt (ix0 f s 0)).length = i + 1 := this
        omega
      · unfold fam1
        rw [List.length_map, List.length_map, List.length_range, sizeLine_eq]
        omega
      · exact fun b o eb => by
          rw [upd_ne (ne_of_none eb hD2)]
          exact k' _ _ eb
      · rw [upd_same]
        unfold fam1
        rw [List.range_succ, List.map_append, List.map_append]
        rfl
    · rintro H6 ⟨k6, hD6⟩
      rw [Int.toNat_natCast] at hD6
      dsimp only [gName]
      refine ⟨_, rfl, rfl, _, rfl, iteF ?_⟩
      refine ⟨_, rfl, fin H6 D2 _ k6 (hW5.ne hD2) hD6 (fam1_ok (ix0_lt _ _ _) hm)⟩
  · refine ⟨_, rfl, rfl, _, rfl, ite2 (fun e => ?_) (fun e => ?_)⟩
    · refine ⟨by show 6 ≤ sizeLine; decide, fun p hp => ?_⟩
      dsimp only [tNoPart]
      refine ⟨_, rfl, _, rfl, p, _, rfl, SqL.of upd_same, fun p2 hp2 => ?_⟩
      have ec : cutV [V.str "o", V.str "op", V.str "ope", V.str "open", V.str "ob", V.str "opb"] none (some (m : Int)) = (FAM2.take m).map V.str := by
        unfold cutV
        rw [HT.sIx_none, HT.sIx_nat]
        show List.take (min m 6 - 0) (FAM2.map V.str) = _
        rw [show min m 6 - 0 = m by omega, List.map_take]
      rw [ec]
      exact ⟨_, rfl, fin _ p2 _ ((same_new hp).trans (same_new hp2)) (hW5.same (same_new (o := .lst [V.str "o", V.str "op", V.str "ope", V.str "open", V.str "ob", V.str "opb"]) hp) |>.ne hp2) upd_same (fam2_ok hm)⟩
    · exact ⟨_, rfl, fin H5 D _ (Same.refl _) nD hD5 (fam0_ok hs hm)⟩
end
end K03
set_option Elab.async false
set_option linter.all false
set_option maxRecDepth 100000
set_option maxHeartbeats 4000000
/-! k03: a drawn store. -/
namespace K03
open PySem PySem.Spec PyProof.Rows L2 Zg Zr Zd Zv
/-! ### resting states -/
def restD (rs : List Nat) : PyData := .tuple (rs.map fun r => .int (r : Nat))
theorem asc_of : ∀ {rs : List Nat}, rs.Pairwise (· < ·) → asc (rs.map fun r : Nat => (r : Int)) = true
  | [], _ => rfl
  | [_], _ => rfl
  | a :: b :: r, h => by
    rw [List.pairwise_cons] at h
    show (decide ((a : Int) < (b : Int)) && asc ((b :: r).map fun r : Nat => (r : Int))) = true
    rw [asc_of h.2, decide_eq_true (by have := h.1 b List.mem_cons_self; omega)]
    rfl
theorem rest_ok {n : Nat} {rs : List Nat} (h1 : rs.Pairwise (· < ·)) (h2 : ∀ r ∈ rs, r < n) (h3 : rs.length ≤ 3) (h4 : n ≤ 3) : Zv.okv (restD rs) = true ∧ areStates n (restD rs) = true := by
  refine ⟨?_, ?_⟩
  · show (decide (_ ≤ 1000) && okvAll _) = true
    rw [List.length_map, decide_eq_true (by omega), Bool.true_and, okvAll_iff]
    intro d hd
    obtain ⟨r, hr, rfl⟩ := List.mem_map.mp hd
    refine decide_eq_true ?_
    rw [Int.natAbs_natCast]
    have := h2 r hr
    exact Nat.lt_of_lt_of_le (by omega : r < 10) (by decide)
  · show ((rs.map fun r : Nat => PyData.int (r : Nat)).all (isSt n) && asc ((rs.map fun r : Nat => PyData.int (r : Nat)).map intOf)) = true
    rw [List.map_map, show (intOf ∘ fun r : Nat => PyData.int (r : Nat)) = (fun r : Nat => (r : Int)) from rfl, asc_of h1, Bool.and_true, List.all_map, List.all_eq_true]
    intro r hr
    show (decide ((0 : Int) ≤ (r : Int)) && decide ((r : Int) < (n : Int))) = true
    have := h2 r hr
    rw [decide_eq_true (by omega), decide_eq_true (by omega)]
    rfl
theorem rest_dv {S : List Addr} {H : Hp} : ∀ rs : List Nat, DvAll S H (rs.map fun r : Nat => V.int (r : Nat)) (rs.map fun r : Nat => PyData.int (r : Nat))
  | [] => .nil
  | r :: rs => .cons (.int _) (rest_dv rs)
theorem moves_dv {S : List Addr} {H : Hp} : ∀ ms : List (Option Nat), DvAll S H (ms.map mvV) (ms.map mvD)
  | [] => .nil
  | none :: ms => .cons .non (moves_dv ms)
  | some k :: ms => .cons (.int _) (moves_dv ms)
theorem int_nat {r : Int} (h : 0 ≤ r) : ∃ k : Nat, r = (k : Nat) := ⟨r.toNat, (Int.toNat_of_nonneg h).symm⟩
/-- the actions with these names -/
structure Part (n : Nat) (zs : List PySem.Str) (acts : List Act) : Prop where
  nm : acts.map (·.1) = zs
  ln : ∀ a ∈ acts, a.2.length = n
  mv : ∀ a ∈ acts, ∀ mv ∈ a.2, ∀ k, mv = some k → k < n
theorem Part.nil {n : Nat} : Part n [] [] := ⟨rfl, (fun _ h => nomatch h), (fun _ h => nomatch h)⟩
theorem Part.snoc {n : Nat} {zs : List PySem.Str} {acts : List Act} (p : Part n zs acts) {z : PySem.Str} {ms : List (Option Nat)} (h1 : ms.length = n) (h2 : ∀ mv ∈ ms, ∀ k, mv = some k → k < n) : Part n (zs ++ [z]) (acts ++ [(z, ms)]) := by
  refine ⟨by rw [List.map_append, p.nm]; rfl, fun a ha => ?_, fun a ha => ?_⟩
  · rcases List.mem_append.mp ha with ha | ha
    · exact p.ln a ha
    · cases List.mem_singleton.mp ha; exact h1
  · rcases List.mem_append.mp ha with ha | ha
    · exact p.mv a ha
    · cases List.mem_singleton.mp ha; exact h2
section
variable {P : Program} {w : World} {K : PySem.W.Frag} {mg : PySem.Str → Option Value} {base : Heap}
def sp_store : Sp := fun vs H Q _ => ∃ (w l : Addr) (C : Nat), vs = [.ref w] ∧ Well H w l C ∧ C + 50 < LIM ∧
  ∀ (H' : Hp) (p lr rt : Addr) (n : Nat) (xs : List V) (acts : List Act) (rs : List Nat), Kp [w, l] H H' → Well H' w l (C + 40) → p ∉ [w, l] → lr ∉ [w, l] → H' p = some (.lst [.int (n : Nat), .ref lr, .ref rt]) → H' lr = some (.lst xs) → DvAll [w, l] H' xs (acts.map actD) → Acts n acts → Asc acts → 1 ≤ n →
    Dv [w, l] H' (.ref rt) (restD rs) → Zv.okv (restD rs) = true → areStates n (restD rs) = true → Q (.ref p) H'
theorem ok_store (T : Txt K mg) : FnOk P w K mg base CX0 3 T.a_store T.d_store P_store sp_store := by
  refine T.F_store.ok sc_store (fun vs H Q E h => by obtain ⟨w, l, C, rfl, _⟩ := h; rfl) (fun cdv A outer s H vs Q E hr h => ?_)
  refine ⟨_, (pss_cons (ps_par (i := 1) (j := 2) (by rfl) sc_store.nd rfl rfl (by decide) rfl rfl (pa_cons (pe_op op_add pe_int (pe_call (ok_drawn T) (hr.mono (by decide)) (by rfl) T.g_drawn T.F_drawn.kp T.b_drawn .nil pass0 (pa_cons (pv 0) (pa_cons pe_int pa_nil)))) (pa_cons (pe_lst pa_nil) pa_nil)) (by rfl))
    (pss_cons (ps_set (i := 3) sc_store.nd rfl (Or.inl rfl) (pe_call (ok_drawn T) (hr.mono (by decide)) (by rfl) T.g_drawn T.F_drawn.kp T.b_drawn .nil pass0 (pa_cons (pv 0) (pa_cons pe_int pa_nil))))
    (pss_cons (ps_for PassesOwn.never rfl (pi_list (pe_callB cr_sortedS (by rfl) T.n_sorted (by decide +kernel) (pa_cons (pe_call (ok_names T) (hr.mono (by decide)) (by rfl) T.g_names T.F_names.kp T.b_names .nil pass0 (pa_cons (pv 0) (pa_cons (pe_call (ok_drawn T) (hr.mono (by decide)) (by rfl) T.g_drawn T.F_drawn.kp T.b_drawn .nil pass0 (pa_cons (pv 0) (pa_cons pe_int pa_nil))) pa_nil))) pa_nil))) (pg_name (i := 4) sc_store.nd rfl (Or.inl rfl)) (pss_cons (ps_set (i := 5) sc_store.nd rfl (Or.inl rfl) (pe_lst pa_nil))
    (pss_cons (ps_for PassesOwn.never rfl (pi_range1 (by rfl) T.n_range (pa_cons (pv 1) pa_nil)) (pg_name (i := 6) sc_store.nd rfl (Or.inl rfl)) (pss_cons (ps_set (i := 7) sc_store.nd rfl (Or.inl rfl) (pe_call (ok_drawn T) (hr.mono (by decide)) (by rfl) T.g_drawn T.F_drawn.kp T.b_drawn .nil pass0 (pa_cons (pv 0) (pa_cons (pe_op op_add (pv 1) (pv 3)) pa_nil))))
    (pss_one (ps_expr (pe_bm PySem.F.plainAttrs_list PySem.F.slot_list_append PySem.F.type_list_append mt_append (pv 5) (pa_cons (pe_ifExp (pt_cmpR op_lt (pv 7) (pv 1) (nomark _)) (pv 7) pe_non) pa_nil))))))
    (pss_one (ps_expr (pe_bm PySem.F.plainAttrs_list PySem.F.slot_list_append PySem.F.type_list_append mt_append (pv 2) (pa_cons (pe_tup (pa_cons (pv 4) (pa_cons (pe_callTy call_tuple_of (by rfl) T.n_tuple (by decide +kernel) (pa_cons (pv 5) pa_nil)) pa_nil))) pa_nil)))))))
    (pss_cons (ps_set (i := 8) sc_store.nd rfl (Or.inl rfl) (pe_callTy call_tuple_of (by rfl) T.n_tuple (by decide +kernel) (pa_cons (pe_lc (own := [("here", 6)]) rfl sc_store.nd (pi_range1 (by rfl) T.n_range (pa_cons (pv 1) pa_nil)) (blkOk_by (own := [("here", 6)]) (N := N_store) (sc := defScope s_store) (by decide +kernel)) (fun _ _ _ _ _ => (pg_name (i := 6) sc_store.nd rfl (Or.inl rfl))) (fun _ _ _ _ _ => (pts_one (pt_cmpR op_eq (pe_call (ok_drawn T) (hr.mono (by decide)) (by rfl) T.g_drawn T.F_drawn.kp T.b_drawn .nil pass0 (pa_cons (pv 0) (pa_cons pe_int pa_nil))) pe_int (nomark _)))) (fun _ _ _ _ _ => (pv 6))) pa_nil)))
    (pss_one (ps_ret (pe_lst (pa_cons (pv 1) (pa_cons (pv 2) (pa_cons (pv 8) pa_nil)))))))))), ?_⟩
  obtain ⟨w, l, C, rfl, hW, hC, q⟩ := h
  refine ⟨_, rfl, w, l, 3, C, rfl, hW, by omega, by decide, by decide, fun H1 r k1 hW1 r0 r1 => ?_⟩
  obtain ⟨n', rfl⟩ := int_nat r0
  refine ⟨_, _, rfl, rfl, Nat.zero_le _, fun lr hlr => ⟨_, _, rfl, ?_⟩⟩
  dsimp only
  rw [show (1 : Int) + (n' : Nat) = ((n' + 1 : Nat) : Int) by omega]
  have hn3 : n' + 1 ≤ 3 := by omega
  have hn1 : 1 ≤ n' + 1 := by omega
  generalize n' + 1 = n at hn3 hn1 ⊢
  have nlr := hW1.ne hlr
  have k2 : Kp [w, l] H (upd H1 lr (.lst [])) := k1.trans (Kp.new hlr)
  have hW2 : Well (upd H1 lr (.lst [])) w l (C + 1) := hW1.new nlr
  have hlr2 : (upd H1 lr (.lst [])) lr = some (.lst []) := upd_same
  have hlr0 : H lr = none := k1.free nlr hlr
  generalize upd H1 lr (.lst []) = H2 at k2 hW2 hlr2 ⊢
  refine ⟨_, rfl, w, l, 4, C + 1, rfl, hW2, by omega, by decide, by decide, fun H3 b k3 hW3 b0 b1 => ?_⟩
  obtain ⟨b, rfl⟩ := int_nat b0
  refine ⟨_, rfl, _, rfl, w, l, 7, C + 2, rfl, hW3, by omega, by decide, by decide, fun H4 m k4 hW4 m0 m1 => ?_⟩
  obtain ⟨m, rfl⟩ := int_nat m0
  refine ⟨w, l, C + 3, m, rfl, hW4, by omega, by omega, fun H5 pz zs k5 hW5 npz hpz zok => ?_⟩
  refine ⟨pz, zs, rfl, SqL.of hpz, by rw [zok.1]; omega, fun ys py perm sorted hpy => ?_⟩
  have k6 : Kp [w, l] H (upd H5 py (.lst (ys.map V.str))) := k2.trans (k3.trans (k4.trans (k5.trans (Kp.new hpy))))
  have k6' : Kp [w, l] H2 (upd H5 py (.lst (ys.map V.str))) := k3.trans (k4.trans (k5.trans (Kp.new hpy)))
  have hW6 : Well (upd H5 py (.lst (ys.map V.str))) w l (C + 6) := hW5.same (same_new hpy)
  have hpy6 : (upd H5 py (.lst (ys.map V.str))) py = some (.lst (ys.map V.str)) := upd_same
  have npy := hW5.ne hpy
  have hlr6 := k6' _ _ nlr hlr2
  have lrpy : lr ≠ py := ne_of_none (k3.trans (k4.trans k5) _ _ nlr hlr2) hpy
  generalize upd H5 py (.lst (ys.map V.str)) = H6 at k6 k6' hW6 hpy6 hlr6 ⊢
  have yok : NamesOk m ys := ⟨by rw [perm.length_eq]; exact zok.1, perm.nodup_iff.mpr zok.2.1, fun z hz => zok.2.2 z (perm.mem_iff.mp hz)⟩
  have hm6 : m ≤ 6 := by omega
  have nS : ∀ a, a ∈ [w, l] → a ∈ [lr, w, l] := fun a h => List.mem_cons_of_mem _ h
  refine ⟨py, rfl, ⟨_, SqL.of hpy6⟩, for_list (K := K) (a := py) (xs := ys.map V.str) (fun i σ H' => ∃ (xs : List V) (acts : List Act) (y4 y5 y6 y7 y8 : Option V), σ = [some (.ref w), some (.int (n : Nat)), some (.ref lr), some (.int (b : Nat)), y4, y5, y6, y7, y8] ∧ Kp [lr, w, l] H6 H' ∧ Well H' w l (C + 6 + 3 * i) ∧ H' lr = some (.lst xs) ∧
      DvAll [lr, w, l] H' xs (acts.map actD) ∧ Part n (ys.take i) acts)
    ⟨[], [], _, _, _, _, _, rfl, Kp.refl _ _, hW6, hlr6, .nil, Part.nil⟩ (fun i σ H' _ ⟨_, _, _, _, _, _, _, _, k, _⟩ => SqL.of (k _ _ ?_ hpy6)) ?_ ?_⟩
  · intro h
    rcases List.mem_cons.mp h with h | h
    · exact lrpy h.symm
    · exact npy h
  · rintro i x σ H' hi ⟨xs, acts, y4, y5, y6, y7, y8, rfl, k, hW', hlr', hx, pt⟩
    obtain ⟨z, hz, rfl⟩ : ∃ z, ys[i]? = some z ∧ x = .str z := by
      rw [List.getElem?_map] at hi
      cases e : ys[i]? with
      | none => rw [e] at hi; cases hi
      | some z => rw [e] at hi; exact ⟨z, rfl, (Option.some.inj hi).symm⟩
    have him : i < m := by rw [← yok.1]; exact (List.getElem?_eq_some_iff.mp hz).1
    have hal : acts.length = i := by
      have := congrArg List.length pt.nm
      rw [List.length_map, List.length_take, yok.1] at this
      omega
    have hxl : xs.length = i := by rw [hx.length, List.length_map, hal]
    refine ⟨Nat.zero_le _, fun lm hlm => ?_⟩
    have nlm : lm ∉ [w, l] := hW'.ne hlm
    have lmlr : lr ≠ lm := ne_of_none hlr' hlm
    have km : Same H' (upd H' lm (.lst [])) := same_new hlm
    have hlm2 : (upd H' lm (.lst [])) lm = some (.lst []) := upd_same
    have hWm := hW'.same km
    have hlrm := km _ _ hlr'
    have hxm : DvAll (lm :: [lr, w, l]) (upd H' lm (.lst [])) xs (acts.map actD) := (hx.fresh hlm).kp (Kp.of km)
    generalize upd H' lm (.lst []) = Hm at km hlm2 hWm hlrm hxm ⊢
    refine ⟨_, rfl, (n : Nat), rfl, by omega, by omega, for_range (lo := 0) (n := ((n : Nat) : Int).toNat) (fun j σ H' => ∃ (ms : List (Option Nat)) (y6 y7 : Option V), σ = [some (.ref w), some (.int (n : Nat)), some (.ref lr), some (.int (b : Nat)), some (.str z), some (.ref lm), y6, y7, y8] ∧ Kp [lm, w, l] Hm H' ∧ Well H' w l (C + 6 + 3 * i + j) ∧
        H' lm = some (.lst (ms.map mvV)) ∧ ms.length = j ∧ ∀ mv ∈ ms, ∀ k, mv = some k → k < n)
      ⟨[], _, _, rfl, Kp.refl _ _, hWm, hlm2, rfl, fun _ h => nomatch h⟩ ?_ ?_⟩
    · rintro j σ H7 hj ⟨ms, y6, y7, rfl, k7, hW7, hlm7, hml, hmb⟩
      rw [Int.toNat_natCast] at hj
      refine ⟨_, rfl, _, rfl, _, rfl, _, _, rfl, rfl, w, l, (n : Int) + (b : Int), C + 6 + 3 * i + j, rfl, hW7, by omega, by omega, by omega, fun H8 t k8 hW8 t0 t1 => ?_⟩
      obtain ⟨t, rfl⟩ := int_nat t0
      have hlm8 := k8 _ _ nlm hlm7
      have app : ∀ mv : Option Nat, (∀ k, mv = some k → k < n) → ∃ (l_1 : Addr) (xs : List V) (y : V), V.ref lm = .ref l_1 ∧ [mvV mv] = [y] ∧ H8 l_1 = some (.lst xs) ∧ xs.length < sizeLine ∧ ∃ (ms : List (Option Nat)) (y6 y7 : Option V), [some (V.ref w), some (.int (n : Nat)), some (.ref lr), some (.int (b : Nat)), some (.str z), some (.ref lm), some (V.int (0 + (j : Int))), some (V.int (t : Nat)), y8] = [some (.ref w), some (.int (n : Nat)), some (.ref lr), some (.int (b : Nat)), some (.str z), some (.ref lm), y6, y7, y8] ∧ Kp [lm, w, l] Hm (upd H8 l_1 (.lst (xs ++ [y]))) ∧ Well (upd H8 l_1 (.lst (xs ++ [y]))) w l (C + 6 + 3 * i + (j + 1)) ∧
          (upd H8 l_1 (.lst (xs ++ [y]))) lm = some (.lst (ms.map mvV)) ∧ ms.length = j + 1 ∧ ∀ mv ∈ ms, ∀ k, mv = some k → k < n := fun mv hmv => by
        refine ⟨lm, _, _, rfl, rfl, hlm8, by rw [List.length_map, hml, sizeLine_eq]; omega, ms ++ [mv], _, _, rfl, ?_, hW8.new nlm, by rw [upd_same, List.map_append]; rfl, by rw [List.length_append, hml]; rfl, fun x hx => ?_⟩
        · exact (k7.trans (k8.sub fun a h => List.mem_cons_of_mem _ h)).wr (.inl List.mem_cons_self)
        · rcases List.mem_append.mp hx with hx | hx
          · exact hmb x hx
          · cases List.mem_singleton.mp hx
            exact hmv
      refine ⟨_, rfl, .inl ⟨rfl, _, SqL.of hlm8⟩, _, rfl, _, rfl, _, _, rfl, rfl, _, rfl, ite2 (fun e => ?_) (fun e => ?_)⟩
      · have ht : t < n := by have := of_decide_eq_true e; omega
        exact ⟨_, rfl, app (some t) fun k hk => by cases hk; exact ht⟩
      · exact app none fun k hk => by cases hk
    · rintro σ H7 ⟨ms, y6, y7, rfl, k7, hW7, hlm7, hml, hmb⟩
      rw [Int.toNat_natCast] at hml hW7
      have nlr3 : lr ∉ [lm, w, l] := fun h => by
        rcases List.mem_cons.mp h with h | h
        · exact lmlr h
        · exact nlr h
      have hlr7 := k7 _ _ nlr3 hlrm
      have hx7 : DvAll [lr, w, l] H7 xs (acts.map actD) := (DvAll.kp (k7.sub fun a h => by
        rcases List.mem_cons.mp h with h | h
        · exact h ▸ List.mem_cons_self
        · exact List.mem_cons_of_mem _ (List.mem_cons_of_mem _ h)) hxm).sub fun a h => List.mem_cons_of_mem _ h
      refine ⟨_, rfl, .inl ⟨rfl, _, SqL.of hlr7⟩, _, rfl, _, rfl, lm, _, rfl, .inl ⟨SqL.of hlm7, fun mt hmt => ⟨(by show 2 ≤ sizeLine; decide), fun pt2 hpt2 => ?_⟩⟩⟩
      have s7 : Same H7 (upd (upd H7 mt (.tup (ms.map mvV))) pt2 (.tup [.str z, .ref mt])) := (same_new hmt).trans (same_new hpt2)
      have mtp : mt ≠ pt2 := ne_of_none upd_same hpt2
      have hmt2 : (upd (upd H7 mt (.tup (ms.map mvV))) pt2 (.tup [.str z, .ref mt])) mt = some (.tup (ms.map mvV)) := by rw [upd_ne mtp, upd_same]
      have hpt3 : (upd (upd H7 mt (.tup (ms.map mvV))) pt2 (.tup [.str z, .ref mt])) pt2 = some (.tup [.str z, .ref mt]) := upd_same
      have hpt0 : H7 pt2 = none := (same_new (o := .tup (ms.map mvV)) hmt).free hpt2
      have nS3 : ∀ {q : Addr}, H7 q = none → q ∉ [lr, w, l] := fun hq h => by
        rcases List.mem_cons.mp h with h | h
        · rw [h, hlr7] at hq; cases hq
        · exact hW7.ne hq h
      generalize upd (upd H7 mt (.tup (ms.map mvV))) pt2 (.tup [.str z, .ref mt]) = H8 at s7 hmt2 hpt3 ⊢
      have hlr8 := s7 _ _ hlr7
      have wrt : Kp [lr, w, l] H8 (upd H8 lr (.lst (xs ++ [.ref pt2]))) := (Kp.refl _ _).wr (.inl List.mem_cons_self)
      refine ⟨lr, _, _, rfl, rfl, hlr8, by rw [hxl, sizeLine_eq]; omega, xs ++ [.ref pt2], acts ++ [(z, ms)], _, _, _, _, _, rfl, ?_, ?_, upd_same, ?_, ?_⟩
      · refine Kp.trans ?_ wrt
        refine (k.trans ?_).trans (Kp.of s7)
        intro a o na ea
        have nlma : a ≠ lm := fun e => by rw [e, hlm] at ea; cases ea
        exact k7 a o (fun h => by
          rcases List.mem_cons.mp h with h | h
          · exact nlma h
          · exact na (List.mem_cons_of_mem _ h)) (km _ _ ea)
      · exact ((hW7.same s7).new nlr).mono (by omega)
      · rw [List.map_append]
        refine ((hx7.kp (Kp.of s7)).kp wrt).append (.cons (Dv.kp wrt ?_) .nil)
        exact .tup hpt3 (nS3 hpt0) (.cons (.str _) (.cons (.tup hmt2 (nS3 hmt) (moves_dv ms)) .nil))
      · rw [List.take_succ, hz]
        exact pt.snoc hml hmb
  · rintro σ H' ⟨xs, acts, y4, y5, y6, y7, y8, rfl, k, hW', hlr', hx, pt⟩
    rw [List.length_map, yok.1] at hW' pt
    rw [show ys.take m = ys by rw [← yok.1]; exact List.take_length] at pt
    have hal : acts.length = m := by
      have := congrArg List.length pt.nm
      rw [List.length_map, yok.1] at this
      exact this
    have AA : Acts n acts := by
      refine ⟨fun a ha => yok.2.2 a.1 (by rw [← pt.nm]; exact List.mem_map.mpr ⟨a, ha, rfl⟩), pt.ln, pt.mv, by rw [pt.nm]; exact yok.2.1, by omega, hn3⟩
    have AS : Asc acts := by
      have h := Zt.sorted_pw _ sorted
      rw [← pt.nm] at h
      exact List.pairwise_map.mp h
    refine ⟨_, rfl, (n : Nat), rfl, by omega, by omega, fun D hD => ?_⟩
    have nD := hW'.ne hD
    refine lc_range (lo := 0) (n := ((n : Nat) : Int).toNat) (fun i H'' => ∃ rs : List Nat, Kp [w, l] H' H'' ∧ Well H'' w l (C + 6 + 3 * m + i) ∧ H'' D = some (.lst (rs.map fun r : Nat => V.int (r : Nat))) ∧ rs.Pairwise (· < ·) ∧ (∀ r ∈ rs, r < i) ∧ rs.length ≤ i) ⟨[], Kp.new hD, hW'.new nD, upd_same, List.Pairwise.nil, (fun _ h => nomatch h), Nat.le_refl _⟩ ?_ ?_
    · rintro i H7 hi ⟨rs, k7, hW7, hD7, pw, hb, hl⟩
      rw [Int.toNat_natCast] at hi
      refine ⟨rfl, ?_⟩
      refine ⟨_, rfl, w, l, 2, C + 6 + 3 * m + i, rfl, hW7, by omega, by decide, by decide, fun H8 t k8 hW8 t0 t1 => ?_⟩
      have hD8 := k8 _ _ nD hD7
      refine ⟨rfl, _, rfl, ite2 (fun e => ?_) (fun e => ?_)⟩
      · refine ⟨_, rfl, _, hD8, by rw [List.length_map, sizeLine_eq]; omega, rs ++ [i], ?_, hW8.new nD, ?_, ?_, fun r hr => ?_, by rw [List.length_append]; exact Nat.succ_le_succ hl⟩
        · exact (k7.trans k8).wr (.inr hD)
        · rw [upd_same, List.map_append, Int.zero_add]
          rfl
        · refine List.pairwise_append.mpr ⟨pw, List.pairwise_singleton _ _, fun a ha b hb' => ?_⟩
          cases List.mem_singleton.mp hb'
          exact hb a ha
        · rcases List.mem_append.mp hr with hr | hr
          · have := hb r hr; omega
          · cases List.mem_singleton.mp hr; omega
      · exact ⟨rs, k7.trans k8, hW8, hD8, pw, fun r hr => by have := hb r hr; omega, by omega⟩
    · rintro H7 ⟨rs, k7, hW7, hD7, pw, hb, hl⟩
      rw [Int.toNat_natCast] at hW7 hb hl
      refine ⟨D, _, rfl, .inl ⟨SqL.of hD7, fun rt hrt => ?_⟩⟩
      have krt : Same H7 (upd H7 rt (.tup (rs.map fun r : Nat => V.int (r : Nat)))) := same_new hrt
      refine ⟨_, rfl, _, rfl, _, rfl, (by show 3 ≤ sizeLine; decide), fun p hp => ?_⟩
      have kp : Same H7 (upd (upd H7 rt (.tup (rs.map fun r : Nat => V.int (r : Nat)))) p (.lst [.int (n : Nat), .ref lr, .ref rt])) := krt.trans (same_new hp)
      have rp : rt ≠ p := ne_of_none upd_same hp
      have np : p ∉ [w, l] := (hW7.same krt).ne hp
      have hlr7 := kp _ _ (k7 _ _ nlr hlr')
      have KK : Kp [w, l] H H7 := by
        refine Kp.trans ?_ k7
        intro a o na ea
        refine k a o (fun h => ?_) (k6 a o na ea)
        rcases List.mem_cons.mp h with h | h
        · rw [h, hlr0] at ea; cases ea
        · exact na h
      obtain ⟨ok1, ok2⟩ := rest_ok (n := n) pw hb (by omega) hn3
      refine q _ p lr rt n xs acts rs (KK.trans (Kp.of kp)) ((hW7.same kp).mono (by omega)) np nlr upd_same hlr7 ?_ AA AS hn1 ?_ ok1 ok2
      · exact ((hx.sub fun a h => nS a h).kp k7).kp (Kp.of kp)
      · refine .tup (by rw [upd_ne rp]; exact upd_same) (hW7.ne hrt) (rest_dv rs)
end
end K03
set_option Elab.async false
set_option linter.all false
set_option maxRecDepth 100000
set_option maxHeartbeats 4000000
/-! k03: the rows shuffled; rows of names; where they go. -/
namespace K03
open PySem PySem.Spec PyProof.Rows L2 Zg Zr Zd Zv
section
variable {P : Program} {w : World} {K : PySem.W.Frag} {mg : PySem.Str → Option Value} {base : Heap}
def sp_shuffled (K : PySem.W.Frag) : Sp := fun vs H Q _ => ∃ (w l lr : Addr) (C : Nat) (xs : List V), vs = [.ref w, .ref lr] ∧ Well H w l C ∧ C + 20 < LIM ∧ H lr = some (.lst xs) ∧ lr ∉ [w, l] ∧ xs.length ≤ 6 ∧
  ∀ (H' : Hp) (t : Addr) (ys : List V), Kp [w, l] H H' → Well H' w l (C + 10) → H' t = some (.tup ys) → ys.Perm xs → Q (.ref t) H'
theorem ok_shuffled (T : Txt K mg) : FnOk P w K mg base CX0 2 T.a_shuffled T.d_shuffled P_shuffled (sp_shuffled K) := by
  refine T.F_shuffled.ok sc_shuffled (fun vs H Q E h => by obtain ⟨w, l, lr, C, xs, rfl, _⟩ := h; rfl) (fun cdv A outer s H vs Q E hr h => ?_)
  refine ⟨_, (pss_cons (ps_set (i := 2) sc_shuffled.nd rfl (Or.inl rfl) (pe_lst pa_nil))
    (pss_cons (ps_for PassesOwn.never rfl (pi_list (pv 1)) (pg_name (i := 3) sc_shuffled.nd rfl (Or.inl rfl)) (pss_one (ps_expr (pe_bm PySem.F.plainAttrs_list PySem.F.slot_list_insert PySem.F.type_list_insert mt_insert (pv 2) (pa_cons (pe_call (ok_drawn T) (hr.mono (by decide)) (by rfl) T.g_drawn T.F_drawn.kp T.b_drawn .nil pass0 (pa_cons (pv 0) (pa_cons (pe_op op_add (pe_callB call_len_seq (by rfl) T.n_len (by decide +kernel) (pa_cons (pv 2) pa_nil)) pe_int) pa_nil))) (pa_cons (pv 3) pa_nil))))))
    (pss_one (ps_ret (pe_callTy call_tuple_of (by rfl) T.n_tuple (by decide +kernel) (pa_cons (pv 2) pa_nil)))))), ?_⟩
  obtain ⟨w, l, lr, C, xs, rfl, hW, hC, hlr, nlr, hxl, q⟩ := h
  refine ⟨Nat.zero_le _, fun D hD => ?_⟩
  have nD := hW.ne hD
  have lD : lr ≠ D := ne_of_none hlr hD
  refine ⟨_, rfl, lr, rfl, ⟨_, SqL.of (by rw [upd_ne lD]; exact hlr)⟩, for_list (K := K) (a := lr) (xs := xs) (fun i σ H' => ∃ (ys : List V) (y : Option V), σ = [some (.ref w), some (.ref lr), some (.ref D), y] ∧ Kp [w, l] H H' ∧ Well H' w l (C + i) ∧ H' D = some (.lst ys) ∧ ys.Perm (xs.take i))
    ⟨[], _, rfl, Kp.new hD, hW.new nD, upd_same, List.Perm.refl _⟩ (fun i σ H' _ ⟨_, _, _, k, _⟩ => SqL.of (k _ _ nlr hlr)) ?_ ?_⟩
  · rintro i x σ H' hi ⟨ys, y, rfl, k, hW', hD', pm⟩
    have hil : i < xs.length := (List.getElem?_eq_some_iff.mp hi).1
    have hyl : ys.length = i := by rw [pm.length_eq, List.length_take]; omega
    refine ⟨_, rfl, .inl ⟨rfl, _, SqL.of hD'⟩, _, rfl, _, rfl, D, _, rfl, .inl (SqL.of hD'), _, _, rfl, rfl, w, l, (ys.length : Int) + 1, C + i, rfl, hW', by omega, by omega, by omega, fun H2 r k2 hW2 r0 r1 => ?_⟩
    have hD2 := k2 _ _ nD hD'
    refine ⟨_, rfl, D, ys, r, x, rfl, rfl, hD2, by rw [sizeLine_eq]; omega, r0, by omega, ys.take r.toNat ++ [x] ++ ys.drop r.toNat, _, rfl, (k.trans k2).wr (.inr hD), hW2.new nD, upd_same, ?_⟩
    rw [List.take_succ, hi]
    have p1 : (ys.take r.toNat ++ [x] ++ ys.drop r.toNat).Perm (ys ++ [x]) := by
      have : (ys.take r.toNat ++ [x] ++ ys.drop r.toNat).Perm (ys.take r.toNat ++ ys.drop r.toNat ++ [x]) := by
        rw [List.append_assoc, List.append_assoc]
        exact List.Perm.append_left _ List.perm_append_comm
      rwa [List.take_append_drop] at this
    exact p1.trans (pm.append_right _)
  · rintro σ H' ⟨ys, y, rfl, k, hW', hD', pm⟩
    rw [List.take_length] at pm
    refine ⟨_, rfl, D, _, rfl, .inl ⟨SqL.of hD', fun t ht => ?_⟩⟩
    exact q _ t ys (k.trans (Kp.new ht)) ((hW'.same (same_new ht)).mono (by omega)) upd_same pm
/-! ### rows of names -/
def rowsN (acts : List Act) : Nat → List (List PySem.Str)
  | 0 => [[]]
  | k + 1 => (rowsN acts k).flatMap fun s => acts.map fun a => s ++ [a.1]
theorem rowsN_len (acts : List Act) (h : acts.length ≤ 6) : ∀ k, (rowsN acts k).length ≤ 6 ^ k
  | 0 => Nat.le_refl _
  | k + 1 => by
    have ih := rowsN_len acts h k
    show ((rowsN acts k).flatMap fun s => acts.map fun a => s ++ [a.1]).length ≤ _
    have gen : ∀ l : List (List PySem.Str), (l.flatMap fun s => acts.map fun a => s ++ [a.1]).length = l.length * acts.length := fun l => by
      induction l with
      | nil => simp
      | cons x l ih => rw [List.flatMap_cons, List.length_append, ih, List.length_map, List.length_cons, Nat.succ_mul, Nat.add_comm]
    rw [gen, Nat.pow_succ]
    exact Nat.mul_le_mul ih h
theorem rowsN_in (acts : List Act) : ∀ k, ∀ r ∈ rowsN acts k, r.length = k
  | 0, r, h => by cases List.mem_singleton.mp h; rfl
  | k + 1, r, h => by
    obtain ⟨s, hs, hr⟩ := List.mem_flatMap.mp h
    obtain ⟨a, ha, rfl⟩ := List.mem_map.mp hr
    rw [List.length_append, rowsN_in acts k s hs]
    rfl
/-- tuples of texts, as they stand -/
def TupsAt (H : Hp) (xs : List V) (rs : List (List PySem.Str)) : Prop := Paired (fun v r => ∃ t, v = V.ref t ∧ H t = some (.tup (r.map V.str))) xs rs
theorem TupsAt.same {H H' : Hp} {xs : List V} {rs : List (List PySem.Str)} (h : TupsAt H xs rs) (k : Same H H') : TupsAt H' xs rs := by
  induction h with
  | nil => exact .nil
  | cons a _ ih => obtain ⟨t, e1, e2⟩ := a; exact .cons ⟨t, e1, k _ _ e2⟩ ih
theorem TupsAt.append {H : Hp} {xs ys : List V} {rs ss : List (List PySem.Str)} (h : TupsAt H xs rs) (h2 : TupsAt H ys ss) : TupsAt H (xs ++ ys) (rs ++ ss) := by
  induction h with
  | nil => exact h2
  | cons a _ ih => exact .cons a ih
theorem TupsAt.length {H : Hp} {xs : List V} {rs : List (List PySem.Str)} (h : TupsAt H xs rs) : xs.length = rs.length := by
  induction h with
  | nil => rfl
  | cons a _ ih => rw [List.length_cons, List.length_cons, ih]
theorem TupsAt.get {H : Hp} {xs : List V} {rs : List (List PySem.Str)} (h : TupsAt H xs rs) : ∀ {i : Nat} {v : V}, xs[i]? = some v → ∃ r t, rs[i]? = some r ∧ v = .ref t ∧ H t = some (.tup (r.map V.str)) := by
  induction h with
  | nil => intro i v e; cases e
  | @cons x r l1 l2 a b ih =>
    intro i v e
    cases i with
    | zero =>
      obtain ⟨t, e1, e2⟩ := a
      cases e
      exact ⟨r, t, rfl, e1, e2⟩
    | succ i => exact ih e
theorem TupsAt.put {H : Hp} {D : Addr} {zs ws us : List V} {rs : List (List PySem.Str)} (h : TupsAt H us rs) (hD : H D = some (.lst zs)) : TupsAt (upd H D (.lst ws)) us rs := by
  induction h with
  | nil => exact .nil
  | cons a _ ih =>
    obtain ⟨t, e1, e2⟩ := a
    exact .cons ⟨t, e1, by rw [upd_ne (ne_of e2 hD (by intro z; cases z))]; exact e2⟩ ih
theorem flat_len {α β : Type} (f : α → List β) (n : Nat) (h : ∀ x, (f x).length = n) : ∀ l : List α, (l.flatMap f).length = l.length * n
  | [] => by simp
  | x :: l => by rw [List.flatMap_cons, List.length_append, flat_len f n h l, h, List.length_cons, Nat.succ_mul, Nat.add_comm]
def sp_rows (K : PySem.W.Frag) : Sp := fun vs H Q _ => ∃ (n : Nat) (S : List Addr) (lr : Addr) (m : Nat) (xs : List V) (acts : List Act), vs = [.ref lr, .int (m : Nat)] ∧ H lr = some (.lst xs) ∧ DvAll S H xs (acts.map actD) ∧ acts.length ≤ 6 ∧ m ≤ 2 ∧
  ∀ (H' : Hp) (p : Addr) (zs : List V), Same H H' → H' p = some (.lst zs) → TupsAt H' zs (rowsN acts m) → Q (.ref p) H'
theorem ok_rows_of_names (T : Txt K mg) : FnOk P w K mg base CX0 1 T.a_rows_of_names T.d_rows_of_names P_rows_of_names (sp_rows K) := by
  refine T.F_rows_of_names.ok sc_rows_of_names (fun vs H Q E h => by obtain ⟨n, S, lr, m, xs, acts, rfl, _⟩ := h; rfl) (fun cdv A outer s H vs Q E hr h => ?_)
  refine ⟨_, (pss_cons (ps_set (i := 2) sc_rows_of_names.nd rfl (Or.inl rfl) (pe_lst (pa_cons (pe_tup pa_nil) pa_nil)))
    (pss_cons (ps_for PassesOwn.never rfl (pi_range1 (by rfl) T.n_range (pa_cons (pv 1) pa_nil)) (pg_name (i := 3) sc_rows_of_names.nd rfl (Or.inl rfl)) (pss_cons (ps_set (i := 4) sc_rows_of_names.nd rfl (Or.inl rfl) (pe_lst pa_nil))
    (pss_cons (ps_for PassesOwn.never rfl (pi_list (pv 2)) (pg_name (i := 5) sc_rows_of_names.nd rfl (Or.inr rfl)) (pss_one (ps_expr (pe_bm PySem.F.plainAttrs_list PySem.F.slot_list_extend PySem.F.type_list_extend mt_extend (pv 4) (pa_cons (pe_lc (own := [("word", 6), ("moves", 7)]) rfl sc_rows_of_names.nd (pi_list (pv 0)) (blkOk_by (own := [("word", 6), ("moves", 7)]) (N := N_rows_of_names) (sc := defScope s_rows_of_names) (by decide +kernel)) (fun _ _ _ _ _ => (show PG _ _ (gTup K 2 _) from (pg_tup (by rfl) (pgs_cons (pg_name (i := 6) sc_rows_of_names.nd rfl (Or.inl rfl)) (pgs_cons (pg_name (i := 7) sc_rows_of_names.nd rfl (Or.inl rfl)) pgs_nil))))) (fun _ _ _ _ _ => pts_nil) (fun _ _ _ _ _ => (pe_op (show OpR _ (binaryOp .Add) (rCatA K) from op_catA) (pv 5) (pe_tup (pa_cons (pv 6) pa_nil))))) pa_nil)))))
    (pss_one (ps_set (i := 2) sc_rows_of_names.nd rfl (Or.inl rfl) (pv 4))))))
    (pss_one (ps_ret (pv 2))))), ?_⟩
  obtain ⟨n, S, lr, m, xs, acts, rfl, hlr, hx, hal, hm, q⟩ := h
  have hxl : xs.length = acts.length := by rw [hx.length, List.length_map]
  refine ⟨Nat.zero_le _, fun t0 ht0 => ⟨(by show 1 ≤ sizeLine; decide), fun D hD => ?_⟩⟩
  have k0 : Same H (upd (upd H t0 (.tup [])) D (.lst [.ref t0])) := (same_new ht0).trans (same_new hD)
  have h0 : TupsAt (upd (upd H t0 (.tup [])) D (.lst [.ref t0])) [.ref t0] (rowsN acts 0) := .cons ⟨t0, rfl, same_new hD _ _ upd_same⟩ .nil
  have hD0 : (upd (upd H t0 (.tup [])) D (.lst [.ref t0])) D = some (.lst [.ref t0]) := upd_same
  generalize upd (upd H t0 (.tup [])) D (.lst [.ref t0]) = H0 at k0 h0 hD0 ⊢
  refine ⟨_, rfl, (m : Nat), rfl, by omega, by omega, for_range (lo := 0) (n := ((m : Nat) : Int).toNat) (fun k σ H' => ∃ (D : Addr) (zs : List V) (y3 y4 y5 y6 y7 : Option V), σ = [some (.ref lr), some (.int (m : Nat)), some (.ref D), y3, y4, y5, y6, y7] ∧ Same H H' ∧ H' D = some (.lst zs) ∧ TupsAt H' zs (rowsN acts k))
    ⟨D, _, _, _, _, _, _, rfl, k0, hD0, h0⟩ ?_ ?_⟩
  · rintro k σ H' hk ⟨D, zs, y3, y4, y5, y6, y7, rfl, ks, hD, tz⟩
    rw [Int.toNat_natCast] at hk
    have hzl : zs.length ≤ 36 := by
      rw [tz.length]
      refine Nat.le_trans (rowsN_len acts hal k) ?_
      have : k ≤ 2 := by omega
      exact Nat.pow_le_pow_right (by decide) this
    refine ⟨Nat.zero_le _, fun L hL => ?_⟩
    have DL : D ≠ L := ne_of_none hD hL
    refine ⟨_, rfl, D, rfl, ⟨_, SqL.of (by rw [upd_ne DL]; exact hD)⟩, for_list (K := K) (a := D) (xs := zs) (fun i σ H2 => ∃ (us : List V) (y5 y6 y7 : Option V), σ = [some (.ref lr), some (.int (m : Nat)), some (.ref D), some (.int (0 + (k : Int))), some (.ref L), y5, y6, y7] ∧ Same H' H2 ∧ H2 L = some (.lst us) ∧ TupsAt H2 us (((rowsN acts k).take i).flatMap fun s => acts.map fun a => s ++ [a.1]))
      ⟨[], _, _, _, rfl, same_new hL, upd_same, .nil⟩ (fun i σ H2 _ ⟨_, _, _, _, _, k2, _⟩ => SqL.of (k2 _ _ hD)) ?_ ?_⟩
    · rintro i x σ H2 hi ⟨us, y5, y6, y7, rfl, k2, hL2, tu⟩
      obtain ⟨r, t, hr, rfl, ht⟩ := tz.get hi
      have hil : i < zs.length := (List.getElem?_eq_some_iff.mp hi).1
      have hul : us.length ≤ 36 * 6 := by
        rw [tu.length]
        rw [flat_len _ acts.length (fun s => List.length_map _)]
        rw [List.length_take]
        exact Nat.mul_le_mul (by omega) hal
      have hrl : r.length ≤ 2 := by
        have := rowsN_in acts k r (List.mem_of_getElem? hr)
        omega
      refine ⟨_, rfl, .inl ⟨rfl, _, SqL.of hL2⟩, _, rfl, lr, rfl, ⟨_, SqL.of (k2 _ _ (ks _ _ hlr))⟩, fun D3 hD3 => ?_⟩
      have ht2 := k2 _ _ ht
      refine lc_list (K := K) (a := lr) (xs := xs) (fun j H3 => ∃ vs : List V, Same H2 H3 ∧ H3 D3 = some (.lst vs) ∧ TupsAt H3 vs ((acts.take j).map fun a => r ++ [a.1])) ⟨[], same_new hD3, upd_same, .nil⟩ (fun j H3 _ ⟨_, k3, _⟩ => SqL.of (k3 _ _ (k2 _ _ (ks _ _ hlr)))) ?_ ?_
      · rintro j x H3 hj ⟨vs, k3, hD33, tv⟩
        obtain ⟨ac, hac, hdx⟩ := acts_get hx hj
        obtain ⟨p, mm, rfl, hp, _, hmm⟩ := act_at hdx
        have hp3 := k3 _ _ (k2 _ _ (ks _ _ hp))
        have hvl : vs.length ≤ 6 := by rw [tv.length, List.length_map, List.length_take]; omega
        refine ⟨p, _, rfl, SqT.of hp3, rfl, _, _, rfl, _, _, rfl, rfl, ?_⟩
        refine ⟨rfl, ?_⟩
        refine ⟨_, rfl, _, rfl, (by show 1 ≤ sizeLine; decide), fun t1 ht1 => ?_⟩
        have k4 : Same H3 (upd H3 t1 (.tup [.str ac.1])) := same_new ht1
        have ht4 := k4 _ _ (k3 _ _ ht2)
        have fin : ∀ (H5 : Hp) (t5 : Addr), Same H3 H5 → H5 t5 = some (.tup ((r ++ [ac.1]).map V.str)) → ∃ acc, H5 D3 = some (.lst acc) ∧ acc.length < sizeLine ∧ ∃ vs : List V, Same H2 (upd H5 D3 (.lst (acc ++ [V.ref t5]))) ∧ (upd H5 D3 (.lst (acc ++ [V.ref t5]))) D3 = some (.lst vs) ∧ TupsAt (upd H5 D3 (.lst (acc ++ [V.ref t5]))) vs ((acts.take (j + 1)).map fun a => r ++ [a.1]) := fun H5 t5 k5 h5 => by
          have hD5 := k5 _ _ hD33
          have keep : ∀ {b : Addr} {zs : List V}, H5 b = some (.tup zs) → (upd H5 D3 (.lst (vs ++ [V.ref t5]))) b = some (.tup zs) := fun hb => by
            rw [upd_ne (ne_of hb hD5 (by intro z; cases z))]
            exact hb
          refine ⟨vs, hD5, by rw [sizeLine_eq]; omega, vs ++ [.ref t5], fun b o eb => ?_, upd_same, ?_⟩
          · rw [upd_ne (ne_of_none eb hD3)]
            exact k5 _ _ (k3 _ _ eb)
          · rw [List.take_succ, hac, List.map_append]
            exact ((tv.same k5).put hD5).append (.cons ⟨t5, rfl, keep h5⟩ .nil)
        refine ⟨t, t1, r.map V.str, [.str ac.1], rfl, rfl, SqT.of ht4, SqT.of upd_same, by rw [List.length_map, sizeLine_eq]; show _ + 1 ≤ _; omega, fun e => ?_, (fun _ e => by cases e), fun _ _ t5 ht5 => ?_⟩
        · have er : r = [] := List.map_eq_nil_iff.mp e
          subst er
          exact fin _ t1 k4 upd_same
        · refine fin _ t5 (k4.trans (same_new ht5)) ?_
          rw [upd_same, List.map_append]
          rfl
      · rintro H3 ⟨vs, k3, hD33, tv⟩
        rw [hxl, List.take_length] at tv
        have hL3 := k3 _ _ hL2
        have hvl : vs.length ≤ 6 := by rw [tv.length, List.length_map]; omega
        refine ⟨L, D3, us, vs, rfl, rfl, hL3, hD33, by rw [sizeLine_eq]; omega, us ++ vs, _, _, _, rfl, fun b o eb => ?_, upd_same, ?_⟩
        · rw [upd_ne (ne_of_none eb hL)]
          exact k3 _ _ (k2 _ _ eb)
        · rw [List.take_succ, hr, List.flatMap_append]
          refine ((tu.same k3).put hL3).append ?_
          show TupsAt _ vs (([r] : List (List PySem.Str)).flatMap _)
          rw [List.flatMap_cons, List.flatMap_nil, List.append_nil]
          exact tv.put hL3
    · rintro σ H2 ⟨us, y5, y6, y7, rfl, k2, hL2, tu⟩
      rw [tz.length, List.take_length] at tu
      exact ⟨_, rfl, L, us, _, _, _, _, _, rfl, ks.trans k2, hL2, tu⟩
  · rintro σ H' ⟨D, zs, y3, y4, y5, y6, y7, rfl, ks, hD, tz⟩
    rw [Int.toNat_natCast] at tz
    exact ⟨_, rfl, q H' D zs ks hD tz⟩
end
end K03
set_option Elab.async false
set_option linter.all false
set_option maxRecDepth 100000
set_option maxHeartbeats 4000000
/-! k03: the first row of names that goes somewhere, plain. -/
namespace K03
open PySem
/-! ### where a row of names goes -/
def stepN (acts : List Act) (h : Option Nat) (z : PySem.Str) : Option Nat := h.bind fun p => (acts.find? fun a => a.1 == z).bind fun a => tg a p
def goesN (acts : List Act) (one : Nat) (r : List PySem.Str) : Option Nat := r.foldl (stepN acts) (some one)
def G (acts : List Act) (one other : Nat) (r : List PySem.Str) : Bool := goesN acts one r == some other
theorem find_self {acts : List Act} (nd : (acts.map (·.1)).Nodup) {a : Act} (ha : a ∈ acts) : acts.find? (fun x => x.1 == a.1) = some a := by
  induction acts with
  | nil => cases ha
  | cons x l ih =>
    rw [List.map_cons, List.nodup_cons] at nd
    rcases List.mem_cons.mp ha with rfl | ha
    · exact List.find?_cons_of_pos (beq_self_eq_true _)
    · rw [List.find?_cons_of_neg (by
        intro h
        have h' : x.1 = a.1 := beq_iff_eq.mp h
        exact nd.1 (h' ▸ List.mem_map.mpr ⟨a, ha, rfl⟩))]
      exact ih nd.2 ha
theorem goes_one {acts : List Act} (nd : (acts.map (·.1)).Nodup) {a : Act} (ha : a ∈ acts) (one : Nat) : goesN acts one [a.1] = tg a one := by
  show stepN acts (some one) a.1 = _
  unfold stepN
  rw [find_self nd ha]
  rfl
theorem goes_two {acts : List Act} (nd : (acts.map (·.1)).Nodup) {a b : Act} (ha : a ∈ acts) (hb : b ∈ acts) (one : Nat) : goesN acts one [a.1, b.1] = (tg a one).bind fun x => tg b x := by
  show stepN acts (stepN acts (some one) a.1) b.1 = _
  have h1 : stepN acts (some one) a.1 = tg a one := goes_one nd ha one
  rw [h1]
  unfold stepN
  rw [find_self nd hb]
  rfl
theorem find_congr {α : Type} {p q : α → Bool} : ∀ {l : List α}, (∀ x ∈ l, p x = q x) → l.find? p = l.find? q
  | [], _ => rfl
  | x :: l, h => by
    rw [List.find?_cons, List.find?_cons, h x List.mem_cons_self, find_congr fun y hy => h y (List.mem_cons_of_mem _ hy)]
theorem find_map' {α β : Type} (f : α → β) (p : β → Bool) (l : List α) : (l.map f).find? p = (l.find? fun a => p (f a)).map f := by
  rw [List.find?_map]
  rfl
theorem rows1 (acts : List Act) : rowsN acts 1 = acts.map fun a => [a.1] := by
  show (([[]] : List (List PySem.Str)).flatMap fun s => acts.map fun a => s ++ [a.1]) = _
  rw [List.flatMap_cons, List.flatMap_nil, List.append_nil]
  rfl
theorem find0 (acts : List Act) (one other : Nat) : (rowsN acts 0).find? (G acts one other) = if other = one then some [] else none := by
  show ([[]] : List (List PySem.Str)).find? _ = _
  have e : G acts one other [] = decide (other = one) := by
    show (some one == some other) = _
    rw [Bool.eq_iff_iff, beq_iff_eq, decide_eq_true_iff]
    constructor
    · intro h; cases h; rfl
    · intro h; rw [h]
  by_cases h : other = one
  · rw [if_pos h, List.find?_cons_of_pos (by rw [e, decide_eq_true h])]
  · rw [if_neg h, List.find?_cons_of_neg (by rw [e, decide_eq_false h]; decide)]
    rfl
theorem find1 {acts : List Act} (nd : (acts.map (·.1)).Nodup) (one other : Nat) : (rowsN acts 1).find? (G acts one other) = (Fst acts one other).map fun a => [a] := by
  rw [rows1, find_map']
  unfold Fst
  rw [find_congr (q := fun a => tg a one == some other) fun a ha => by unfold G; rw [goes_one nd ha], Option.map_map]
  rfl
theorem find_flat {α β : Type} (g : α → List β) (p : β → Bool) : ∀ l : List α, (l.flatMap g).find? p = l.findSome? fun s => (g s).find? p
  | [] => rfl
  | x :: l => by
    rw [List.flatMap_cons, List.find?_append, List.findSome?_cons, find_flat g p l]
    cases (g x).find? p <;> rfl
theorem find2 {n : Nat} {acts : List Act} (A : Acts n acts) {one other : Nat} (ho : one < n) (h2 : other < n) (hne : other ≠ one) (hn : Fst acts one other = none) :
    (rowsN acts 2).find? (G acts one other) = match Fst acts one (3 - one - other), Fst acts (3 - one - other) other with
      | some a, some b => some [a, b]
      | _, _ => none := by
  have nd := A.nd
  have n3 := A.sz
  show ((rowsN acts 1).flatMap fun s => acts.map fun a => s ++ [a.1]).find? _ = _
  rw [find_flat, rows1, List.findSome?_map]
  have key : ∀ a ∈ acts, ((fun s => (acts.map fun b : Act => s ++ [b.1]).find? (G acts one other)) ∘ fun a : Act => [a.1]) a = if tg a one = some (3 - one - other) then (Fst acts (3 - one - other) other).map fun b => [a.1, b] else none := fun a ha => by
    show (acts.map fun b : Act => [a.1] ++ [b.1]).find? (G acts one other) = _
    rw [find_map']
    have e : (acts.find? fun b : Act => G acts one other ([a.1] ++ [b.1])) = acts.find? fun b => ((tg a one).bind fun x => tg b x) == some other := find_congr fun b hb => by
      unfold G
      rw [show [a.1] ++ [b.1] = [a.1, b.1] from rfl, goes_two nd ha hb]
    rw [e]
    cases hx : tg a one with
    | none =>
      rw [if_neg (by intro z; cases z)]
      have : (acts.find? fun b : Act => ((none : Option Nat).bind fun x => tg b x) == some other) = none := List.find?_eq_none.mpr fun b _ => by
        show ¬ ((none : Option Nat) == some other) = true
        exact Bool.false_ne_true
      rw [this]
      rfl
    | some x =>
      show (acts.find? fun b => tg b x == some other).map _ = _
      have hxn : x < n := by
        unfold tg at hx
        cases e2 : a.2[one]? with
        | none => rw [e2] at hx; cases hx
        | some mm =>
          rw [e2] at hx
          exact A.mv a ha mm (List.mem_of_getElem? e2) x hx
      have no : x ≠ other := fun e => by
        subst e
        unfold Fst at hn
        cases q : acts.find? fun a => tg a one == some x with
        | none => exact absurd (List.find?_eq_none.mp q a ha) (by rw [hx]; simp)
        | some y => rw [q] at hn; cases hn
      by_cases hz : x = 3 - one - other
      · subst hz
        rw [if_pos rfl]
        unfold Fst
        rw [Option.map_map]
        rfl
      · rw [if_neg (fun z => hz (by cases z; rfl))]
        have hx1 : x = one := by omega
        subst hx1
        unfold Fst at hn
        cases q : acts.find? fun a => tg a x == some other with
        | none => rfl
        | some y => rw [q] at hn; cases hn
  have cong : ∀ {f g : Act → Option (List PySem.Str)} {l : List Act}, (∀ x ∈ l, f x = g x) → l.findSome? f = l.findSome? g := fun {f g l} h => by
    induction l with
    | nil => rfl
    | cons x l ih => rw [List.findSome?_cons, List.findSome?_cons, h x List.mem_cons_self, ih fun y hy => h y (List.mem_cons_of_mem _ hy)]
  rw [cong key]
  cases hb : Fst acts (3 - one - other) other with
  | none =>
    have : ∀ l : List Act, (l.findSome? fun a => if tg a one = some (3 - one - other) then (none : Option PySem.Str).map fun b => [a.1, b] else none) = none := fun l => by
      refine List.findSome?_eq_none_iff.mpr fun x _ => ?_
      split <;> rfl
    rw [this]
    cases Fst acts one (3 - one - other) <;> rfl
  | some b =>
    unfold Fst
    have : ∀ l : List Act, (l.findSome? fun a => if tg a one = some (3 - one - other) then (some b).map fun b => [a.1, b] else none) = (l.find? fun a => tg a one == some (3 - one - other)).map fun a => [a.1, b] := fun l => by
      induction l with
      | nil => rfl
      | cons x l ih =>
        rw [List.findSome?_cons]
        by_cases h : tg x one = some (3 - one - other)
        · rw [if_pos h, List.find?_cons_of_pos (by rw [h]; exact beq_self_eq_true _)]
          rfl
        · rw [if_neg h, List.find?_cons_of_neg (by rw [beq_iff_eq]; exact h)]
          exact ih
    rw [this]
    cases acts.find? fun a => tg a one == some (3 - one - other) <;> rfl
/-- the first one found is the way -/
theorem R_hit {n : Nat} {acts : List Act} (A : Acts n acts) {one other k : Nat} (ho : one < n) (h2 : other < n) (hk : k < n) (hb : ∀ j, j < k → (rowsN acts j).find? (G acts one other) = none) {r : List PySem.Str} (hr : (rowsN acts k).find? (G acts one other) = some r) : R acts one other = some r := by
  have n3 := A.sz
  have c0 : 0 < k → other ≠ one := fun h e => by
    have := hb 0 h
    rw [find0, if_pos e] at this
    cases this
  have c1 : 1 < k → Fst acts one other = none := fun h => by
    have := hb 1 h
    rw [find1 A.nd] at this
    cases e : Fst acts one other with
    | none => rfl
    | some x => rw [e] at this; cases this
  rcases (show k = 0 ∨ k = 1 ∨ k = 2 by omega) with rfl | rfl | rfl
  · rw [find0] at hr
    split at hr
    · rename_i e
      unfold R
      rw [if_pos e]
      exact hr
    · cases hr
  · rw [find1 A.nd] at hr
    unfold R
    rw [if_neg (c0 (by decide))]
    cases e : Fst acts one other with
    | none => rw [e] at hr; cases hr
    | some x => rw [e] at hr; exact hr
  · have hne := c0 (by decide)
    have hn := c1 (by decide)
    rw [find2 A ho h2 hne hn] at hr
    unfold R
    rw [if_neg hne, hn]
    exact hr
theorem R_miss {n : Nat} {acts : List Act} (A : Acts n acts) {one other : Nat} (ho : one < n) (h2 : other < n) (hb : ∀ j, j < n → (rowsN acts j).find? (G acts one other) = none) : R acts one other = none := by
  have n3 := A.sz
  have hne : other ≠ one := fun e => by
    have := hb 0 (by omega)
    rw [find0, if_pos e] at this
    cases this
  have hn : Fst acts one other = none := by
    have := hb 1 (by omega)
    rw [find1 A.nd] at this
    cases e : Fst acts one other with
    | none => rfl
    | some x => rw [e] at this; cases this
  unfold R
  rw [if_neg hne, hn]
  by_cases h3 : 2 < n
  · have := hb 2 h3
    rw [find2 A ho h2 hne hn] at this
    exact this
  · have : Fst acts one (3 - one - other) = none := by
      cases e : Fst acts one (3 - one - other) with
      | none => rfl
      | some x =>
        have := fst_lt A e
        omega
    rw [this]
end K03
set_option Elab.async false
set_option linter.all false
set_option maxRecDepth 100000
set_option maxHeartbeats 4000000
/-! k03: _law_goes, _law_way. -/
namespace K03
open PySem PySem.Spec PyProof.Rows L2 Zg Zr Zd Zv
/-- moves, as they stand -/
def MovsAt (H : Hp) (xs : List V) (as_ : List Act) : Prop := Paired (fun v (a : Act) => ∃ t, v = V.ref t ∧ H t = some (.tup (a.2.map mvV))) xs as_
theorem MovsAt.put {H : Hp} {D : Addr} {zs ws us : List V} {rs : List Act} (h : MovsAt H us rs) (hD : H D = some (.lst zs)) : MovsAt (upd H D (.lst ws)) us rs := by
  induction h with
  | nil => exact .nil
  | cons a _ ih =>
    obtain ⟨t, e1, e2⟩ := a
    exact .cons ⟨t, e1, by rw [upd_ne (ne_of e2 hD (by intro z; cases z))]; exact e2⟩ ih
theorem MovsAt.append {H : Hp} {xs ys : List V} {rs ss : List Act} (h : MovsAt H xs rs) (h2 : MovsAt H ys ss) : MovsAt H (xs ++ ys) (rs ++ ss) := by
  induction h with
  | nil => exact h2
  | cons a _ ih => exact .cons a ih
theorem MovsAt.length {H : Hp} {xs : List V} {rs : List Act} (h : MovsAt H xs rs) : xs.length = rs.length := by
  induction h with
  | nil => rfl
  | cons a _ ih => rw [List.length_cons, List.length_cons, ih]
theorem find_filter {α : Type} (p : α → Bool) : ∀ l : List α, l.find? p = (l.filter p).head?
  | [] => rfl
  | x :: l => by
    rw [List.find?_cons, List.filter_cons]
    cases p x
    · exact find_filter p l
    · rfl
theorem goesN_lt {n : Nat} {acts : List Act} (A : Acts n acts) {one : Nat} (ho : one < n) : ∀ {r : List PySem.Str} {p : Nat}, goesN acts one r = some p → p < n := by
  intro r
  unfold goesN
  have gen : ∀ (r : List PySem.Str) (h : Option Nat), (∀ p, h = some p → p < n) → ∀ p, r.foldl (stepN acts) h = some p → p < n := fun r => by
    induction r with
    | nil => intro h hh p e; exact hh p e
    | cons z r ih =>
      intro h hh p e
      refine ih (stepN acts h z) (fun q hq => ?_) p e
      unfold stepN at hq
      cases h with
      | none => cases hq
      | some p0 =>
        have hq' : ((acts.find? fun a => a.1 == z).bind fun a => tg a p0) = some q := hq
        cases ef : acts.find? fun a => a.1 == z with
        | none => rw [ef] at hq'; cases hq'
        | some a =>
          rw [ef] at hq'
          have hq2 : tg a p0 = some q := hq'
          unfold tg at hq2
          cases e2 : a.2[p0]? with
          | none => rw [e2] at hq2; cases hq2
          | some mm =>
            rw [e2] at hq2
            exact A.mv a (List.mem_of_find?_eq_some ef) mm (List.mem_of_getElem? e2) q hq2
  exact fun {p} => gen r (some one) (fun p e => by cases e; exact ho) p
section
variable {P : Program} {w : World} {K : PySem.W.Frag} {mg : PySem.Str → Option Value} {base : Heap}
def sp_goes (K : PySem.W.Frag) : Sp := fun vs H Q _ => ∃ (n : Nat) (S : List Addr) (lr t : Addr) (one : Nat) (xs : List V) (acts : List Act) (r : List PySem.Str), vs = [.ref lr, .int (one : Nat), .ref t] ∧ H lr = some (.lst xs) ∧ DvAll S H xs (acts.map actD) ∧ Acts n acts ∧ one < n ∧ H t = some (.tup (r.map V.str)) ∧ (∀ z ∈ r, z ∈ acts.map (·.1)) ∧
  ∀ (H' : Hp), Same H H' → Q (mvV (goesN acts one r)) H'
theorem ok_goes (T : Txt K mg) : FnOk P w K mg base CX0 1 T.a_goes T.d_goes P_goes (sp_goes K) := by
  refine T.F_goes.ok sc_goes (fun vs H Q E h => by obtain ⟨n, S, lr, t, one, xs, acts, r, rfl, _⟩ := h; rfl) (fun cdv A outer s H vs Q E hr h => ?_)
  refine ⟨_, (pss_cons (ps_for PassesOwn.never rfl (pi_tup (pv 2)) (pg_name (i := 3) sc_goes.nd rfl (Or.inr rfl)) (pss_one (ps_if (pt_cmpR op_notN (pv 1) pe_non (nomark _)) (pss_one (ps_set (i := 1) sc_goes.nd rfl (Or.inl rfl) (pe_ix ix_tup (pe_ix ix_list (pe_lc (own := [("other", 4), ("moves", 5)]) rfl sc_goes.nd (pi_list (pv 0)) (blkOk_by (own := [("other", 4), ("moves", 5)]) (N := N_goes) (sc := defScope s_goes) (by decide +kernel)) (fun _ _ _ _ _ => (show PG _ _ (gTup K 2 _) from (pg_tup (by rfl) (pgs_cons (pg_name (i := 4) sc_goes.nd rfl (Or.inl rfl)) (pgs_cons (pg_name (i := 5) sc_goes.nd rfl (Or.inl rfl)) pgs_nil))))) (fun _ _ _ _ _ => (pts_one (pt_cmpR op_eq (pv 4) (pv 3) (nomark _)))) (fun _ _ _ _ _ => (pv 5))) pe_int (fun _ _ => rfl)) (pv 1) (fun _ _ => rfl)))) pss_nil)))
    (pss_one (ps_ret (pv 1)))), ?_⟩
  obtain ⟨n, S, lr, t, one, xs, acts, r, rfl, hlr, hx, AA, ho, ht, hrn, q⟩ := h
  have hxl : xs.length = acts.length := by rw [hx.length, List.length_map]
  refine ⟨_, rfl, t, rfl, ⟨_, SqT.of ht⟩, for_tup (K := K) (a := t) (xs := r.map V.str) (fun i σ H' => ∃ (y3 y4 y5 : Option V), σ = [some (.ref lr), some (mvV (goesN acts one (r.take i))), some (.ref t), y3, y4, y5] ∧ Same H H') ⟨_, _, _, rfl, Same.refl _⟩ (fun i σ H' _ ⟨_, _, _, _, k⟩ => SqT.of (k _ _ ht)) ?_ ?_⟩
  · rintro i x σ H' hi ⟨y3, y4, y5, rfl, k⟩
    obtain ⟨z, hz, rfl⟩ : ∃ z, r[i]? = some z ∧ x = .str z := by
      rw [List.getElem?_map] at hi
      cases e : r[i]? with
      | none => rw [e] at hi; cases hi
      | some z => rw [e] at hi; exact ⟨z, rfl, (Option.some.inj hi).symm⟩
    have estep : goesN acts one (r.take (i + 1)) = stepN acts (goesN acts one (r.take i)) z := by
      rw [List.take_succ, hz]
      unfold goesN
      rw [List.foldl_append]
      rfl
    refine ⟨_, rfl, rfl, _, rfl, ?_⟩
    cases hg : goesN acts one (r.take i) with
    | none =>
      refine iteF ?_
      refine ⟨some (.str z), y4, y5, ?_, k⟩
      rw [estep, hg]
      rfl
    | some p =>
      rw [show (decide (mvV (some p) = V.non)) = false from decide_eq_false fun z => by cases z]
      refine iteT ?_
      have hp := goesN_lt AA ho hg
      refine ⟨_, rfl, lr, rfl, ⟨_, SqL.of (k _ _ hlr)⟩, fun D hD => ?_⟩
      refine lc_list (K := K) (a := lr) (xs := xs) (fun j H3 => ∃ vs : List V, Same H' H3 ∧ H3 D = some (.lst vs) ∧ MovsAt H3 vs ((acts.take j).filter fun a => a.1 == z)) ⟨[], same_new hD, upd_same, .nil⟩ (fun j H3 _ ⟨_, k3, _⟩ => SqL.of (k3 _ _ (k _ _ hlr))) ?_ ?_
      · rintro j x H3 hj ⟨vs, k3, hD3, tv⟩
        obtain ⟨ac, hac, hdx⟩ := acts_get hx hj
        obtain ⟨pa, m, rfl, hpa, _, hm⟩ := act_at hdx
        have hmm := moves_at hm
        have hvl : vs.length ≤ 6 := by
          rw [tv.length]
          refine Nat.le_trans (List.length_filter_le _ _) ?_
          rw [List.length_take]
          have := AA.few
          omega
        refine ⟨pa, _, rfl, SqT.of (k3 _ _ (k _ _ hpa)), rfl, _, _, rfl, _, _, rfl, rfl, ?_⟩
        refine ⟨rfl, ?_⟩
        refine ⟨_, rfl, _, rfl, rfl, _, rfl, ite2 (fun e => ?_) (fun e => ?_)⟩
        · have ez : ac.1 = z := by
            have := of_decide_eq_true e
            injection this
          refine ⟨_, rfl, _, hD3, by rw [sizeLine_eq]; omega, vs ++ [.ref m], fun b o eb => ?_, upd_same, ?_⟩
          · rw [upd_ne (ne_of_none eb hD)]
            exact k3 _ _ eb
          · rw [List.take_succ, hac, List.filter_append]
            refine (tv.put hD3).append ?_
            show MovsAt _ _ (List.filter _ [ac])
            rw [List.filter_cons_of_pos (by rw [ez]; exact beq_self_eq_true _)]
            refine .cons ⟨m, rfl, ?_⟩ .nil
            have h3 := k3 _ _ (k _ _ hmm)
            rw [upd_ne (ne_of h3 hD3 (by intro z; cases z))]
            exact h3
        · have ez : ¬ ac.1 = z := fun h => e (decide_eq_true (by rw [h]))
          refine ⟨vs, k3, hD3, ?_⟩
          rw [List.take_succ, hac, List.filter_append]
          show MovsAt _ _ (_ ++ List.filter _ [ac])
          rw [List.filter_cons_of_neg (by rw [beq_iff_eq]; exact ez), List.filter_nil, List.append_nil]
          exact tv
      · rintro H3 ⟨vs, k3, hD3, tv⟩
        rw [hxl, List.take_length] at tv
        obtain ⟨b, hb, hbz⟩ : ∃ b ∈ acts, b.1 = z := by
          obtain ⟨b, hb, e⟩ := List.mem_map.mp (hrn z (List.mem_of_getElem? hz))
          exact ⟨b, hb, e⟩
        have hff := find_filter (fun a : Act => a.1 == z) acts
        have hmem : b ∈ acts.filter fun a => a.1 == z := List.mem_filter.mpr ⟨hb, by rw [hbz]; exact beq_self_eq_true _⟩
        generalize hfl : (acts.filter fun a => a.1 == z) = fl at tv hff hmem
        cases tv with
        | nil => cases hmem
        | @cons v a vs2 fl2 h1 h2 =>
          obtain ⟨m, rfl, hm⟩ := h1
          have haf : a ∈ acts := (List.mem_filter.mp (by rw [hfl]; exact List.mem_cons_self : a ∈ acts.filter fun a => a.1 == z)).1
          obtain ⟨mv, hmv⟩ : ∃ mv, a.2[p]? = some mv := ⟨_, List.getElem?_eq_getElem (by rw [AA.ln a haf]; exact hp)⟩
          refine ⟨D, _, 0, _, rfl, rfl, SqL.of hD3, atI_nat (j := 0) rfl, _, rfl, m, _, p, _, rfl, rfl, SqT.of hm, atI_nat (j := p) (by rw [List.getElem?_map, hmv]; rfl), ?_⟩
          refine ⟨some (.str z), y4, y5, ?_, k.trans k3⟩
          rw [estep, hg]
          have e5 : stepN acts (some p) z = mv := by
            show ((acts.find? fun a => a.1 == z).bind fun a => tg a p) = mv
            rw [hff]
            show tg a p = mv
            unfold tg
            rw [hmv]
            rfl
          rw [e5]
          rfl
  · rintro σ H' ⟨y3, y4, y5, rfl, k⟩
    rw [List.length_map, List.take_length]
    exact ⟨_, rfl, q H' k⟩
def sp_wayl (K : PySem.W.Frag) : Sp := fun vs H Q _ => ∃ (n : Nat) (S : List Addr) (lr : Addr) (one other : Nat) (xs : List V) (acts : List Act), vs = [.int (n : Nat), .ref lr, .int (one : Nat), .int (other : Nat)] ∧ H lr = some (.lst xs) ∧ DvAll S H xs (acts.map actD) ∧ Acts n acts ∧ one < n ∧ other < n ∧
  ∀ (H' : Hp) (v : V), Same H H' → WayV H' v (R acts one other) → Q v H'
theorem rowsN_names (acts : List Act) : ∀ k, ∀ r ∈ rowsN acts k, ∀ z ∈ r, z ∈ acts.map (·.1)
  | 0, r, h, z, hz => by cases List.mem_singleton.mp h; cases hz
  | k + 1, r, h, z, hz => by
    obtain ⟨s, hs, hr⟩ := List.mem_flatMap.mp h
    obtain ⟨a, ha, rfl⟩ := List.mem_map.mp hr
    rcases List.mem_append.mp hz with hz | hz
    · exact rowsN_names acts k s hs z hz
    · cases List.mem_singleton.mp hz
      exact List.mem_map.mpr ⟨a, ha, rfl⟩
theorem ok_way (T : Txt K mg) : FnOk P w K mg base CX0 2 T.a_way T.d_way P_way (sp_wayl K) := by
  refine T.F_way.ok sc_way (fun vs H Q E h => by obtain ⟨n, S, lr, one, other, xs, acts, rfl, _⟩ := h; rfl) (fun cdv A outer s H vs Q E hr h => ?_)
  refine ⟨_, (pss_cons (ps_for PassesOwn.never rfl (pi_range1 (by rfl) T.n_range (pa_cons (pv 0) pa_nil)) (pg_name (i := 4) sc_way.nd rfl (Or.inl rfl)) (pss_one (ps_for PassesOwn.never rfl (pi_list (pe_call (ok_rows_of_names T) (hr.mono (by decide)) (by rfl) T.g_rows_of_names T.F_rows_of_names.kp T.b_rows_of_names .nil pass0 (pa_cons (pv 1) (pa_cons (pv 4) pa_nil)))) (pg_name (i := 5) sc_way.nd rfl (Or.inl rfl)) (pss_one (ps_if (pt_cmpR (op_eqD hr.units) (pe_call (ok_goes T) (hr.mono (by decide)) (by rfl) T.g_goes T.F_goes.kp T.b_goes .nil pass0 (pa_cons (pv 1) (pa_cons (pv 2) (pa_cons (pv 5) pa_nil)))) (pv 3) (nomark _)) (pss_one (ps_ret (pv 5))) pss_nil)))))
    (pss_one (ps_ret pe_non))), ?_⟩
  obtain ⟨n, S, lr, one, other, xs, acts, rfl, hlr, hx, AA, ho, h2, q⟩ := h
  have n3 := AA.sz
  refine ⟨_, rfl, (n : Nat), rfl, by omega, by omega, for_range (lo := 0) (n := ((n : Nat) : Int).toNat) (fun k σ H' => ∃ (y4 y5 : Option V), σ = [some (.int (n : Nat)), some (.ref lr), some (.int (one : Nat)), some (.int (other : Nat)), y4, y5] ∧ Same H H' ∧ ∀ j, j < k → (rowsN acts j).find? (G acts one other) = none) ⟨_, _, rfl, Same.refl _, fun j hj => absurd hj (Nat.not_lt_zero _)⟩ ?_ ?_⟩
  · rintro k σ H' hk ⟨y4, y5, rfl, ks, hb⟩
    rw [Int.toNat_natCast] at hk
    refine ⟨_, rfl, _, rfl, n, S, lr, k, xs, acts, by rw [Int.zero_add]; rfl, ks _ _ hlr, hx.kp (Kp.of ks), AA.few, by omega, fun H2 p zs k2 hp tz => ?_⟩
    refine ⟨p, rfl, ⟨_, SqL.of hp⟩, for_list (K := K) (a := p) (xs := zs) (fun i σ H3 => ∃ (y5 : Option V), σ = [some (.int (n : Nat)), some (.ref lr), some (.int (one : Nat)), some (.int (other : Nat)), some (.int (0 + (k : Int))), y5] ∧ Same H2 H3 ∧ ((rowsN acts k).take i).find? (G acts one other) = none) ⟨_, rfl, Same.refl _, rfl⟩ (fun i σ H3 _ ⟨_, _, k3, _⟩ => SqL.of (k3 _ _ hp)) ?_ ?_⟩
    · rintro i x σ H3 hi ⟨y5, rfl, k3, hf⟩
      obtain ⟨r, t, hr', rfl, ht⟩ := tz.get hi
      have hrm := List.mem_of_getElem? hr'
      have kk : Same H H3 := ks.trans (k2.trans k3)
      refine ⟨_, rfl, _, rfl, _, rfl, n, S, lr, t, one, xs, acts, r, rfl, kk _ _ hlr, hx.kp (Kp.of kk), AA, ho, k3 _ _ ht, rowsN_names acts k r hrm, fun H4 k4 => ?_⟩
      have sh : ∀ o : Option Nat, SeqAt.shaped (mvD o) = true := fun o => by cases o <;> rfl
      have dp : Dp K H4 (mvV (goesN acts one r)) (mvD (goesN acts one r)) := by
        cases goesN acts one r with
        | none => exact .non
        | some p => exact .int _
      refine ⟨_, rfl, mvD (goesN acts one r), .int (other : Nat), dp, .int _, sh _, rfl, _, rfl, ?_⟩
      have eG : PyData.eqv (mvD (goesN acts one r)) (.int (other : Nat)) = G acts one other r := by
        unfold G
        cases goesN acts one r with
        | none => rfl
        | some p =>
          show ((p : Int) == (other : Int)) = (some p == some other)
          rw [Bool.eq_iff_iff, beq_iff_eq, beq_iff_eq]
          constructor
          · intro h; congr 1; omega
          · intro h; cases h; rfl
      rw [eG]
      refine ite2 (fun e => ?_) (fun e => ?_)
      · refine ⟨_, rfl, q H4 _ (kk.trans k4) ?_⟩
        have hfind : (rowsN acts k).find? (G acts one other) = some r := by
          obtain ⟨hl, e2⟩ := List.getElem?_eq_some_iff.mp hr'
          have : rowsN acts k = (rowsN acts k).take i ++ r :: (rowsN acts k).drop (i + 1) := by
            rw [← e2, List.getElem_cons_drop, List.take_append_drop]
          rw [this, List.find?_append, hf, List.find?_cons_of_pos e]
          rfl
        rw [R_hit AA ho h2 hk hb hfind]
        exact ⟨t, rfl, k4 _ _ (k3 _ _ ht)⟩
      · refine ⟨_, rfl, k3.trans k4, ?_⟩
        rw [List.take_succ, hr', List.find?_append, hf]
        show ([r] : List (List PySem.Str)).find? _ = none
        rw [List.find?_cons_of_neg e]
        rfl
    · rintro σ H3 ⟨y5, rfl, k3, hf⟩
      rw [tz.length, List.take_length] at hf
      refine ⟨_, _, rfl, ks.trans (k2.trans k3), fun j hj => ?_⟩
      by_cases h : j < k
      · exact hb j h
      · obtain rfl : j = k := by omega
        exact hf
  · rintro σ H' ⟨y4, y5, rfl, ks, hb⟩
    rw [Int.toNat_natCast] at hb
    refine q H' .non ks ?_
    rw [R_miss AA ho h2 hb]
    rfl
end
end K03
set_option Elab.async false
set_option linter.all false
set_option maxRecDepth 100000
set_option maxHeartbeats 4000000
/-! k03: _law_is_right. -/
namespace K03
open PySem PySem.Spec PyProof.Rows L2 Zg Zr Zd Zv
/-! ### small data -/
def Sml (d : PyData) : Prop := okv d = true ∧ d.bulk ≤ 1000 ∧ d.depth ≤ 3
theorem bulk_all : ∀ (ds : List PyData) (B : Nat), (∀ d ∈ ds, d.bulk ≤ B) → PyData.bulkAll ds ≤ (B + 1) * ds.length
  | [], _, _ => Nat.zero_le _
  | d :: ds, B, h => by
    have h1 := h d List.mem_cons_self
    have h2 := bulk_all ds B fun x hx => h x (List.mem_cons_of_mem _ hx)
    show d.bulk + 1 + PyData.bulkAll ds ≤ (B + 1) * (ds.length + 1)
    rw [Nat.mul_succ]
    omega
theorem depth_all : ∀ (ds : List PyData) (B : Nat), (∀ d ∈ ds, d.depth ≤ B) → PyData.depthAll ds ≤ B
  | [], _, _ => Nat.zero_le _
  | d :: ds, B, h => by
    have h1 := h d List.mem_cons_self
    have h2 := depth_all ds B fun x hx => h x (List.mem_cons_of_mem _ hx)
    show max d.depth (PyData.depthAll ds) ≤ B
    omega
theorem lst_small {ds : List PyData} (h : ∀ d ∈ ds, Sml d) (hl : ds.length ≤ 3) : (PyData.list ds).showable = true ∧ (PyData.list ds).depth ≤ 60 ∧ (PyData.list ds).shown.length ≤ sizeLine := by
  have ok : okv (.list ds) = true := by
    show (decide (ds.length ≤ 1000) && okvAll ds) = true
    rw [decide_eq_true (by omega), Bool.true_and, okvAll_iff]
    exact fun d hd => (h d hd).1
  refine ⟨(okv_short _ ok).2, ?_, okv_fits ok ?_⟩
  · show PyData.depthAll ds + 1 ≤ 60
    have := depth_all ds 3 fun d hd => (h d hd).2.2
    omega
  · show PyData.bulkAll ds ≤ 300000
    have h1 := bulk_all ds 1000 fun d hd => (h d hd).2.1
    have h2 : (1000 + 1) * ds.length ≤ (1000 + 1) * 3 := Nat.mul_le_mul_left _ hl
    omega
/-- repr of a list of such -/
theorem rp {H : Hp} {a : Addr} {vs : List V} {ds : List PyData} {Q : VK} (h : H a = some (.lst vs)) (hd : DvAll [] H vs ds) (hs : ∀ d ∈ ds, Sml d) (hl : ds.length ≤ 3) (q : Q (.str (PyData.list ds).shown) H) : rReprV [] [.ref a] H Q := by
  obtain ⟨s1, s2, s3⟩ := lst_small hs hl
  exact ⟨.ref a, .list ds, rfl, .lst h (fun m => nomatch m) hd, s1, s2, s3, q⟩
def wayD : Option (List PySem.Str) → PyData
  | none => .none
  | some w => .tuple (w.map .str)
theorem strs_dv {H : Hp} : ∀ w : List PySem.Str, DvAll [] H (w.map V.str) (w.map PyData.str)
  | [] => .nil
  | x :: w => .cons (.str x) (strs_dv w)
theorem WayV.dv {H : Hp} {v : V} {o : Option (List PySem.Str)} (h : WayV H v o) : Dv [] H v (wayD o) := by
  cases o with
  | none => cases h; exact .non
  | some w =>
    obtain ⟨t, rfl, ht⟩ := h
    exact .tup ht (fun m => nomatch m) (strs_dv w)
theorem WayV.same {H H' : Hp} {v : V} {o : Option (List PySem.Str)} (h : WayV H v o) (k : Same H H') : WayV H' v o := by
  cases o with
  | none => exact h
  | some w =>
    obtain ⟨t, e, ht⟩ := h
    exact ⟨t, e, k _ _ ht⟩
theorem WayV.put {H : Hp} {v : V} {o : Option (List PySem.Str)} {D : Addr} {kv kv' : List (List Key × V)} (h : WayV H v o) (hD : H D = some (.dT kv)) : WayV (upd H D (.dT kv')) v o := by
  cases o with
  | none => exact h
  | some w =>
    obtain ⟨t, e, ht⟩ := h
    exact ⟨t, e, by rw [upd_ne (ne_of ht hD (by intro z; cases z))]; exact ht⟩
theorem R_names {n : Nat} {acts : List Act} (A : Acts n acts) {one q : Nat} {w : List PySem.Str} (h : R acts one q = some w) : w.length ≤ 2 ∧ ∀ z ∈ w, isName (.str z) = true := by
  have fn : ∀ {p q : Nat} {x : PySem.Str}, Fst acts p q = some x → isName (.str x) = true := fun {p q x} h => by
    unfold Fst at h
    cases e : acts.find? fun a => tg a p == some q with
    | none => rw [e] at h; cases h
    | some a => rw [e] at h; cases h; exact A.nm a (List.mem_of_find?_eq_some e)
  refine ⟨R_len h, ?_⟩
  unfold R at h
  split at h
  · cases h; intro z hz; cases hz
  · split at h
    · rename_i e
      cases h
      intro z hz
      cases List.mem_singleton.mp hz
      exact fn e
    · split at h
      · rename_i e1 e2
        cases h
        intro z hz
        rcases List.mem_cons.mp hz with rfl | hz
        · exact fn e1
        · cases List.mem_singleton.mp hz
          exact fn e2
      · cases h
theorem wayD_small {n : Nat} {acts : List Act} (A : Acts n acts) (one q : Nat) : Sml (wayD (R acts one q)) := by
  cases h : R acts one q with
  | none => exact ⟨rfl, Nat.zero_le _, Nat.zero_le _⟩
  | some w =>
    obtain ⟨hl, hn⟩ := R_names A h
    refine ⟨?_, ?_, ?_⟩
    · show (decide ((w.map PyData.str).length ≤ 1000) && okvAll (w.map PyData.str)) = true
      rw [List.length_map, decide_eq_true (by omega), Bool.true_and, okvAll_iff]
      intro d hd
      obtain ⟨z, hz, rfl⟩ := List.mem_map.mp hd
      exact (isName_ok (hn z hz)).1
    · show PyData.bulkAll (w.map PyData.str) ≤ 1000
      have h1 := bulk_all (w.map PyData.str) 8 fun d hd => by
        obtain ⟨z, hz, rfl⟩ := List.mem_map.mp hd
        exact (isName_ok (hn z hz)).2.2
      rw [List.length_map] at h1
      omega
    · show PyData.depthAll (w.map PyData.str) + 1 ≤ 3
      have := depth_all (w.map PyData.str) 0 fun d hd => by
        obtain ⟨z, hz, rfl⟩ := List.mem_map.mp hd
        exact Nat.le_refl _
      omega
/-- what is known so far: all of the rows ahead of i, of row i the first j -/
def KnAt (H : Hp) (kd : Addr) (n : Nat) (acts : List Act) (i j : Nat) : Prop := ∃ kv : List (List Key × V), H kd = some (.dT kv) ∧ kv.length ≤ n * i + j ∧ ∀ a b, b < n → (a < i ∨ (a = i ∧ b < j)) → ∃ v, valV kv [.inl (a : Int), .inl (b : Int)] = some v ∧ WayV H v (R acts a b)
theorem KnAt.same {H H' : Hp} {kd : Addr} {n : Nat} {acts : List Act} {i j : Nat} (h : KnAt H kd n acts i j) (k : Same H H') : KnAt H' kd n acts i j := by
  obtain ⟨kv, h1, h2, h3⟩ := h
  exact ⟨kv, k _ _ h1, h2, fun a b hb hab => by obtain ⟨v, e1, e2⟩ := h3 a b hb hab; exact ⟨v, e1, e2.same k⟩⟩
theorem KnAt.next {H : Hp} {kd : Addr} {n : Nat} {acts : List Act} {i : Nat} (h : KnAt H kd n acts i n) : KnAt H kd n acts (i + 1) 0 := by
  obtain ⟨kv, h1, h2, h3⟩ := h
  refine ⟨kv, h1, by rw [Nat.mul_succ]; omega, fun a b hb hab => h3 a b hb ?_⟩
  omega
end K03
set_option Elab.async false
set_option linter.all false
set_option maxRecDepth 100000
set_option maxHeartbeats 4000000
set_option pp.maxSteps 400
/-! k03: _law_is_right. -/
namespace K03
open PySem PySem.Spec PyProof.Rows L2 Zg Zr Zd Zv
section
variable {P : Program} {w : World} {K : PySem.W.Frag} {mg : PySem.Str → Option Value} {base : Heap}
def sp_right (C : Addr) : Sp := fun vs H Q _ => ∃ (S : List Addr) (p : Addr) (n : Nat) (lr : Addr) (xs : List V) (acts : List Act) (rs : V), vs = [.ref p, .int (n : Nat), .ref lr] ∧ StAt C H S p n acts rs ∧ H lr = some (.lst xs) ∧ DvAll S H xs (acts.map actD) ∧ Acts n acts ∧ 1 ≤ n ∧ ∀ H', Same H H' → Q (.bl true) H'
theorem no_way {n : Nat} {aA : Addr} {r : V} {dM lW : Addr} : (flds n aA r dM lW).lookup ("way" : PySem.Str) = none := flds_none (by decide +kernel)
theorem no_leads {n : Nat} {aA : Addr} {r : V} {dM lW : Addr} : (flds n aA r dM lW).lookup ("leads" : PySem.Str) = none := flds_none (by decide +kernel)
theorem no_after {n : Nat} {aA : Addr} {r : V} {dM lW : Addr} : (flds n aA r dM lW).lookup ("after" : PySem.Str) = none := flds_none (by decide +kernel)
theorem bl_small (b : Bool) : Sml (.bool b) := ⟨rfl, Nat.zero_le _, Nat.zero_le _⟩
theorem ok_is_right (T : Txt K mg) : FnG P w K mg base 3 T.a_is_right T.d_is_right P_is_right (sp_right T.C_Store) := by
  refine okG T.F_is_right sc_is_right (fun vs H Q E h => by obtain ⟨S, p, n, lr, xs, acts, rs, rfl, _⟩ := h; rfl) (fun cdv A outer s H vs Q hgd hr h => ?_)
  refine ⟨_, (pss_cons (ps_set (i := 3) sc_is_right.nd rfl (Or.inr rfl) pe_dnewT)
    (pss_cons (ps_for PassesOwn.never rfl (pi_range1 (by rfl) T.n_range (pa_cons (pv 1) pa_nil)) (pg_name (i := 4) sc_is_right.nd rfl (Or.inl rfl)) (pss_cons (ps_for PassesOwn.never rfl (pi_range1 (by rfl) T.n_range (pa_cons (pv 1) pa_nil)) (pg_name (i := 5) sc_is_right.nd rfl (Or.inl rfl)) (pss_cons (ps_dput (hu_of hr) (pv 3) (pe_tup (pa_cons (pv 4) (pa_cons (pv 5) pa_nil))) (pe_call (ok_way T) (hr.mono (by decide)) (by rfl) T.g_way T.F_way.kp T.b_way .nil pass0 (pa_cons (pv 1) (pa_cons (pv 2) (pa_cons (pv 4) (pa_cons (pv 5) pa_nil))))) rfl)
    (pss_cons (ps_set (i := 6) sc_is_right.nd rfl (Or.inl rfl) (pe_lst (pa_cons (pe_meth (pv 0) T.cl_Store T.me_Store_way (ok_Store_way T) (hr.mono (by decide)) T.b_Store_way .nil pass0 (pa_cons (pv 4) (pa_cons (pv 5) pa_nil))) (pa_cons (Sk.pe_methKw (pv 0) T.cl_Store T.me_Store_way (ok_Store_way T) (hr.mono (by decide)) T.kb_Store_way_r_q pass0 (pk_cons (pv 5) (pk_cons (pv 4) pk_nil))) (pa_cons (pe_meth (pv 0) T.cl_Store T.me_Store_way (ok_Store_way T) (hr.mono (by decide)) T.b_Store_way .nil pass0 (pa_cons (pv 4) (pa_cons (pv 5) pa_nil))) pa_nil)))))
    (pss_cons (ps_if (pt_cmpR op_ne (pe_callB (cr_reprV (S := []) hgd hr) (by rfl) T.n_repr (by decide +kernel) (pa_cons (pv 6) pa_nil)) (pe_callB (cr_reprV (S := []) hgd hr) (by rfl) T.n_repr (by decide +kernel) (pa_cons (pe_op op_rep (pe_lst (pa_cons (pe_dget (hu_of hr) (pv 3) (pe_tup (pa_cons (pv 4) (pa_cons (pv 5) pa_nil))) (fun _ _ => rfl)) pa_nil)) pe_int) pa_nil)) (nomark _)) (pss_one (ps_ret pe_bl)) pss_nil)
    (pss_cons (ps_set (i := 6) sc_is_right.nd rfl (Or.inl rfl) (pe_lst (pa_cons (pe_meth (pv 0) T.cl_Store T.me_Store_leads (ok_Store_leads T) (hr.mono (by decide)) T.b_Store_leads .nil pass0 (pa_cons (pv 4) (pa_cons (pv 5) pa_nil))) (pa_cons (Sk.pe_methKw (pv 0) T.cl_Store T.me_Store_leads (ok_Store_leads T) (hr.mono (by decide)) T.kb_Store_leads_r_q pass0 (pk_cons (pv 5) (pk_cons (pv 4) pk_nil))) pa_nil))))
    (pss_one (ps_if (pt_cmpR op_ne (pe_callB (cr_reprV (S := []) hgd hr) (by rfl) T.n_repr (by decide +kernel) (pa_cons (pv 6) pa_nil)) (pe_callB (cr_reprV (S := []) hgd hr) (by rfl) T.n_repr (by decide +kernel) (pa_cons (pe_op op_rep (pe_lst (pa_cons (pe_cmpR op_notN (pe_dget (hu_of hr) (pv 3) (pe_tup (pa_cons (pv 4) (pa_cons (pv 5) pa_nil))) (fun _ _ => rfl)) pe_non (nomark _)) pa_nil)) pe_int) pa_nil)) (nomark _)) (pss_one (ps_ret pe_bl)) pss_nil)))))))
    (pss_one (ps_for PassesOwn.never rfl (pi_list (pv 2)) (pg_tup (by rfl) (pgs_cons (pg_name (i := 7) sc_is_right.nd rfl (Or.inl rfl)) (pgs_cons (pg_name (i := 8) sc_is_right.nd rfl (Or.inl rfl)) pgs_nil))) (pss_one (ps_if (pt_cmpR op_ne (pe_callB (cr_reprV (S := []) hgd hr) (by rfl) T.n_repr (by decide +kernel) (pa_cons (pe_lst (pa_cons (pe_meth (pv 0) T.cl_Store T.me_Store_after (ok_Store_after T) (hr.mono (by decide)) T.b_Store_after .nil pass0 (pa_cons (pv 4) (pa_cons (pv 7) pa_nil))) (pa_cons (Sk.pe_methKw (pv 0) T.cl_Store T.me_Store_after (ok_Store_after T) (hr.mono (by decide)) T.kb_Store_after_name_state pass0 (pk_cons (pv 7) (pk_cons (pv 4) pk_nil))) pa_nil))) pa_nil)) (pe_callB (cr_reprV (S := []) hgd hr) (by rfl) T.n_repr (by decide +kernel) (pa_cons (pe_op op_rep (pe_lst (pa_cons (pe_ix ix_tup (pv 8) (pv 4) (fun _ _ => rfl)) pa_nil)) pe_int) pa_nil)) (nomark _)) (pss_one (ps_ret pe_bl)) pss_nil))))))
    (pss_cons (ps_set (i := 9) sc_is_right.nd rfl (Or.inl rfl) (pe_callTy call_tuple_of (by rfl) T.n_tuple (by decide +kernel) (pa_cons (pe_lc (own := [("here", 10)]) rfl sc_is_right.nd (pi_range1 (by rfl) T.n_range (pa_cons (pv 1) pa_nil)) (blkOk_by (own := [("here", 10)]) (N := N_is_right) (sc := defScope s_is_right) (by decide +kernel)) (fun _ _ _ _ _ => (pg_name (i := 10) sc_is_right.nd rfl (Or.inl rfl))) (fun _ _ _ _ _ => (pts_one (pt_cmpR op_notN (pe_dget (hu_of hr) (pv 3) (pe_tup (pa_cons pe_int (pa_cons (pv 10) pa_nil))) (fun _ _ => rfl)) pe_non (nomark _)))) (fun _ _ _ _ _ => (pv 10))) pa_nil)))
    (pss_one (ps_ret (pe_cmpR op_eq (pe_callB (cr_reprV (S := []) hgd hr) (by rfl) T.n_repr (by decide +kernel) (pa_cons (pe_lst (pa_cons (pe_prop (pv 0) T.cl_Store T.me_Store_reached (ok_Store_reached T) (hr.mono (by decide)) T.b_Store_reached .nil pass0 rfl) (pa_cons (pe_prop (pv 0) T.cl_Store T.me_Store_reached (ok_Store_reached T) (hr.mono (by decide)) T.b_Store_reached .nil pass0 rfl) pa_nil))) pa_nil)) (pe_callB (cr_reprV (S := []) hgd hr) (by rfl) T.n_repr (by decide +kernel) (pa_cons (pe_lst (pa_cons (pv 9) (pa_cons (pv 9) pa_nil))) pa_nil)) (nomark _))))))), ?_⟩
  obtain ⟨S, p, n, lr, xs, acts, rs, rfl, st, hlr, hx, AA, hn1, q⟩ := h
  have n3 := AA.sz
  have hxl : xs.length = acts.length := by rw [hx.length, List.length_map]
  have h6 := AA.few
  refine fun kd hkd => ?_
  have k0 : Same H (upd H kd (.dT [])) := same_new hkd
  have kn0 : KnAt (upd H kd (.dT [])) kd n acts 0 0 := ⟨[], upd_same, Nat.zero_le _, fun a b _ h => by omega⟩
  generalize upd H kd (.dT []) = H0 at k0 kn0 ⊢
  refine ⟨_, rfl, (n : Nat), rfl, by omega, by omega, for_range (lo := 0) (n := ((n : Nat) : Int).toNat) (fun i σ H' => ∃ (y4 y5 y6 y7 y8 y9 y10 : Option V), σ = [some (.ref p), some (.int (n : Nat)), some (.ref lr), some (.ref kd), y4, y5, y6, y7, y8, y9, y10] ∧ Same H H' ∧ KnAt H' kd n acts i 0) ⟨_, _, _, _, _, _, _, rfl, k0, kn0⟩ ?_ ?_⟩
  · rintro i σ H' hi ⟨y4, y5, y6, y7, y8, y9, y10, rfl, k, kn⟩
    rw [Int.toNat_natCast] at hi
    rw [Int.zero_add]
    refine ⟨_, rfl, (n : Nat), rfl, by omega, by omega, for_range (lo := 0) (n := ((n : Nat) : Int).toNat) (fun j σ H' => ∃ (y5 y6 y7 y8 y9 y10 : Option V), σ = [some (.ref p), some (.int (n : Nat)), some (.ref lr), some (.ref kd), some (.int (i : Nat)), y5, y6, y7, y8, y9, y10] ∧ Same H H' ∧ KnAt H' kd n acts i j) ⟨_, _, _, _, _, _, rfl, k, kn⟩ ?_ ?_⟩
    · clear kn k
      rintro j σ H' hj ⟨y5, y6, y7, y8, y9, y10, rfl, k, kn⟩
      rw [Int.toNat_natCast] at hj
      rw [Int.zero_add]
      -- known[one, other] = _law_way(size, rows, one, other)
      refine ⟨_, rfl, _, rfl, _, rfl, _, rfl, n, S, lr, i, j, xs, acts, rfl, k _ _ hlr, hx.kp (Kp.of k), AA, hi, hj, fun H1 v k1 hv => ?_⟩
      refine ⟨_, rfl, _, rfl, _, rfl, (by show 2 ≤ sizeLine; decide), fun kt hkt => ?_⟩
      obtain ⟨kv, hkv, hkl, hknown⟩ := (kn.same k1)
      have k2 : Same H1 (upd H1 kt (.tup [.int (i : Nat), .int (j : Nat)])) := same_new hkt
      have hij : n * i + j ≤ 9 := by
        have : n * i ≤ 3 * 2 := Nat.mul_le_mul n3 (by omega)
        omega
      refine ⟨kd, _, rfl, DPut.t (k := [.inl (i : Int), .inl (j : Int)]) (k2 _ _ hkv) upd_same (by rw [sizeLine_eq]; omega), ?_⟩
      have kk : Same H (upd (upd H1 kt (.tup [.int (i : Nat), .int (j : Nat)])) kd (.dT (putK kv [.inl (i : Int), .inl (j : Int)] v))) := fun b o eb => by
        have nb : b ≠ kd := ne_of_none eb hkd
        rw [upd_ne nb]
        exact k2 _ _ (k1 _ _ (k _ _ eb))
      have hkd3 : (upd (upd H1 kt (.tup [.int (i : Nat), .int (j : Nat)])) kd (.dT (putK kv [.inl (i : Int), .inl (j : Int)] v))) kd = some (.dT (putK kv [.inl (i : Int), .inl (j : Int)] v)) := upd_same
      have hv3 : WayV (upd (upd H1 kt (.tup [.int (i : Nat), .int (j : Nat)])) kd (.dT (putK kv [.inl (i : Int), .inl (j : Int)] v))) v (R acts i j) := (hv.same k2).put (k2 _ _ hkv)
      have hval : valV (putK kv [.inl (i : Int), .inl (j : Int)] v) [.inl (i : Int), .inl (j : Int)] = some v := by rw [valV_put, if_pos rfl]
      have kn3 : KnAt (upd (upd H1 kt (.tup [.int (i : Nat), .int (j : Nat)])) kd (.dT (putK kv [.inl (i : Int), .inl (j : Int)] v))) kd n acts i (j + 1) := by
        refine ⟨_, hkd3, Nat.le_trans (length_putK _ _ _) (by omega), fun a b hb hab => ?_⟩
        by_cases hab2 : a = i ∧ b = j
        · obtain ⟨rfl, rfl⟩ := hab2
          exact ⟨v, hval, hv3⟩
        · obtain ⟨v', e1, e2⟩ := hknown a b hb (by omega)
          refine ⟨v', ?_, (e2.same k2).put (k2 _ _ hkv)⟩
          rw [valV_put, if_neg, e1]
          intro e
          injection e with e3 e4
          injection e4 with e4 _
          injection e3 with e3
          injection e4 with e4
          exact hab2 ⟨by omega, by omega⟩
      generalize upd (upd H1 kt (.tup [.int (i : Nat), .int (j : Nat)])) kd (.dT (putK kv [.inl (i : Int), .inl (j : Int)] v)) = H3 at kk hkd3 hv3 kn3 ⊢
      generalize putK kv [.inl (i : Int), .inl (j : Int)] v = kv3 at hkd3 hval
      clear hknown hkl hkv k2 hkt kv
      -- told = [store.way(one, other), ..]
      have st3 := st.same kk
      obtain ⟨dx, aA, o, ps, dM, lW, kvs, ds, hp, _⟩ := st3.ex
      refine ⟨_, rfl, p, dx, _, rfl, hp, no_way, _, rfl, _, rfl, S, p, n, i, j, acts, rs, rfl, st3, AA, hi, fun v1 hv1 => ?_⟩
      refine ⟨_, rfl, p, dx, _, rfl, hp, no_way, _, rfl, _, rfl, rfl, S, p, n, i, j, acts, rs, rfl, st3, AA, hi, fun v2 hv2 => ?_⟩
      refine ⟨_, rfl, p, dx, _, rfl, hp, no_way, _, rfl, _, rfl, S, p, n, i, j, acts, rs, rfl, st3, AA, hi, fun v4 hv4 => ?_⟩
      refine ⟨(by show 3 ≤ sizeLine; decide), fun tl htl => ?_⟩
      have k4 : Same H3 (upd H3 tl (.lst [v1, v2, v4])) := same_new htl
      have htl4 : (upd H3 tl (.lst [v1, v2, v4])) tl = some (.lst [v1, v2, v4]) := upd_same
      generalize upd H3 tl (.lst [v1, v2, v4]) = H4 at k4 htl4 ⊢
      have sml3 : ∀ d ∈ [wayD (R acts i j), wayD (R acts i j), wayD (R acts i j)], Sml d := fun d hd => by
        simp only [List.mem_cons, List.not_mem_nil, or_false, or_self] at hd
        subst hd
        exact wayD_small AA i j
      refine ⟨_, rfl, .ref tl, .list _, rfl, .lst htl4 (fun m => nomatch m) (.cons (hv1.same k4).dv (.cons (hv2.same k4).dv (.cons (hv4.same k4).dv .nil))), (lst_small sml3 (by show 3 ≤ 3; decide)).1, (lst_small sml3 (by show 3 ≤ 3; decide)).2.1, (lst_small sml3 (by show 3 ≤ 3; decide)).2.2, ?_⟩
      refine ⟨_, rfl, _, rfl, _, rfl, (by show 2 ≤ sizeLine; decide), fun kt hkt => ?_⟩
      have k5 : Same H4 (upd H4 kt (.tup [.int (i : Nat), .int (j : Nat)])) := same_new hkt
      have g5 : DGet (upd H4 kt (.tup [.int (i : Nat), .int (j : Nat)])) kd (.ref kt) (some v) := by
        have g := DGet.t (k := [.inl (i : Int), .inl (j : Int)]) (k5 _ _ (k4 _ _ hkd3)) (upd_same : (upd H4 kt (.tup [.int (i : Nat), .int (j : Nat)])) kt = _)
        rw [hval] at g
        exact g
      generalize upd H4 kt (.tup [.int (i : Nat), .int (j : Nat)]) = H5 at k5 g5 ⊢
      refine ⟨kd, v, rfl, g5, (by show 1 ≤ sizeLine; decide), fun l1 hl1 => ?_⟩
      have k6 : Same H5 (upd H5 l1 (.lst [v])) := same_new hl1
      refine ⟨l1, 3, _, rfl, rfl, upd_same, by decide, by decide, (by show 1 * 3 ≤ sizeLine; decide), fun l2 hl2 => ?_⟩
      have k7 : Same H5 (upd (upd H5 l1 (.lst [v])) l2 (.lst (List.replicate (3 : Int).toNat [v]).flatten)) := k6.trans (same_new hl2)
      have hl27 : (upd (upd H5 l1 (.lst [v])) l2 (.lst (List.replicate (3 : Int).toNat [v]).flatten)) l2 = some (.lst [v, v, v]) := upd_same
      generalize upd (upd H5 l1 (.lst [v])) l2 (.lst (List.replicate (3 : Int).toNat [v]).flatten) = H7 at k7 hl27 ⊢
      have k37 : Same H3 H7 := k4.trans (k5.trans k7)
      have hv7 := (hv3.same k37).dv
      refine ⟨.ref l2, .list _, rfl, .lst hl27 (fun m => nomatch m) (.cons hv7 (.cons hv7 (.cons hv7 .nil))), (lst_small sml3 (by show 3 ≤ 3; decide)).1, (lst_small sml3 (by show 3 ≤ 3; decide)).2.1, (lst_small sml3 (by show 3 ≤ 3; decide)).2.2, ?_⟩
      refine ⟨rfl, _, rfl, iteNS rfl ?_⟩
      -- told = [store.leads(one, other), ..]
      have st7 := st3.same k37
      have hp7 := k37 _ _ hp
      refine ⟨_, rfl, p, dx, _, rfl, hp7, no_leads, _, rfl, _, rfl, S, p, n, i, j, acts, rs, rfl, st7, AA, hi, ?_⟩
      refine ⟨_, rfl, p, dx, _, rfl, hp7, no_leads, _, rfl, _, rfl, rfl, S, p, n, i, j, acts, rs, rfl, st7, AA, hi, ?_⟩
      refine ⟨(by show 2 ≤ sizeLine; decide), fun tm htm => ?_⟩
      have nonW : (!decide (v = V.non)) = (R acts i j).isSome := by
        have h := hv3
        generalize R acts i j = o at h
        cases o with
        | none => cases h; rfl
        | some w => obtain ⟨t, rfl, _⟩ := h; rfl
      generalize hb : (R acts i j).isSome = b at nonW ⊢
      have k8 : Same H7 (upd H7 tm (.lst [.bl b, .bl b])) := same_new htm
      have htm8 : (upd H7 tm (.lst [.bl b, .bl b])) tm = some (.lst [.bl b, .bl b]) := upd_same
      generalize upd H7 tm (.lst [.bl b, .bl b]) = H8 at k8 htm8 ⊢
      have sml2 : ∀ d ∈ [PyData.bool b, PyData.bool b], Sml d := fun d hd => by
        simp only [List.mem_cons, List.not_mem_nil, or_false, or_self] at hd
        subst hd
        exact bl_small b
      refine ⟨_, rfl, .ref tm, .list _, rfl, .lst htm8 (fun m => nomatch m) (.cons (.bl b) (.cons (.bl b) .nil)), (lst_small sml2 (by show 2 ≤ 3; decide)).1, (lst_small sml2 (by show 2 ≤ 3; decide)).2.1, (lst_small sml2 (by show 2 ≤ 3; decide)).2.2, ?_⟩
      refine ⟨_, rfl, _, rfl, _, rfl, (by show 2 ≤ sizeLine; decide), fun ku hku => ?_⟩
      have k9 : Same H8 (upd H8 ku (.tup [.int (i : Nat), .int (j : Nat)])) := same_new hku
      have g9 : DGet (upd H8 ku (.tup [.int (i : Nat), .int (j : Nat)])) kd (.ref ku) (some v) := by
        have g := DGet.t (k := [.inl (i : Int), .inl (j : Int)]) (k9 _ _ (k8 _ _ (k37 _ _ hkd3))) (upd_same : (upd H8 ku (.tup [.int (i : Nat), .int (j : Nat)])) ku = _)
        rw [hval] at g
        exact g
      generalize upd H8 ku (.tup [.int (i : Nat), .int (j : Nat)]) = H9 at k9 g9 ⊢
      refine ⟨kd, v, rfl, g9, rfl, (by show 1 ≤ sizeLine; decide), fun m1 hm1 => ?_⟩
      rw [nonW]
      have k10 : Same H9 (upd H9 m1 (.lst [.bl b])) := same_new hm1
      refine ⟨m1, 2, _, rfl, rfl, upd_same, by decide, by decide, (by show 1 * 2 ≤ sizeLine; decide), fun m2 hm2 => ?_⟩
      have k11 : Same H9 (upd (upd H9 m1 (.lst [.bl b])) m2 (.lst (List.replicate (2 : Int).toNat [V.bl b]).flatten)) := k10.trans (same_new hm2)
      have hm211 : (upd (upd H9 m1 (.lst [.bl b])) m2 (.lst (List.replicate (2 : Int).toNat [V.bl b]).flatten)) m2 = some (.lst [.bl b, .bl b]) := upd_same
      generalize upd (upd H9 m1 (.lst [.bl b])) m2 (.lst (List.replicate (2 : Int).toNat [V.bl b]).flatten) = H11 at k11 hm211 ⊢
      refine ⟨.ref m2, .list _, rfl, .lst hm211 (fun m => nomatch m) (.cons (.bl b) (.cons (.bl b) .nil)), (lst_small sml2 (by show 2 ≤ 3; decide)).1, (lst_small sml2 (by show 2 ≤ 3; decide)).2.1, (lst_small sml2 (by show 2 ≤ 3; decide)).2.2, ?_⟩
      refine ⟨rfl, _, rfl, iteNS rfl ?_⟩
      have kend : Same H3 H11 := k37.trans (k8.trans (k9.trans k11))
      exact ⟨_, _, _, _, _, _, rfl, kk.trans kend, kn3.same kend⟩
    · rintro σ H' ⟨y5, y6, y7, y8, y9, y10, rfl, k, kn⟩
      rw [Int.toNat_natCast] at kn
      refine ⟨_, rfl, lr, rfl, ⟨_, SqL.of (k _ _ hlr)⟩, for_list (K := K) (a := lr) (xs := xs) (fun m σ H'' => ∃ (y5 y6 y7 y8 y9 y10 : Option V), σ = [some (.ref p), some (.int (n : Nat)), some (.ref lr), some (.ref kd), some (.int (i : Nat)), y5, y6, y7, y8, y9, y10] ∧ Same H H'' ∧ KnAt H'' kd n acts i n) ⟨_, _, _, _, _, _, rfl, k, kn⟩ (fun m σ H'' _ ⟨_, _, _, _, _, _, _, k, _⟩ => SqL.of (k _ _ hlr)) ?_ ?_⟩
      · clear kn k
        rintro m x σ H1 hm ⟨y5, y6, y7, y8, y9, y10, rfl, k, kn⟩
        obtain ⟨ac, hac, hdx⟩ := acts_get hx hm
        obtain ⟨pa, mt, rfl, hpa, _, hmd⟩ := act_at hdx
        have hmm := moves_at hmd
        have hmem := List.mem_of_getElem? hac
        obtain ⟨mv, hmv⟩ : ∃ mv, ac.2[i]? = some mv := ⟨_, List.getElem?_eq_getElem (by rw [AA.ln ac hmem]; exact hi)⟩
        have st1 := st.same k
        obtain ⟨dx, aA, o, ps, dM, lW, kvs, ds, hp, _⟩ := st1.ex
        refine ⟨pa, _, rfl, SqT.of (k _ _ hpa), rfl, _, _, rfl, _, _, rfl, rfl, ?_⟩
        refine ⟨_, rfl, p, dx, _, rfl, hp, no_after, _, rfl, _, rfl, S, p, n, i, ac, acts, rs, mv, rfl, st1, hmem, hmv, ?_⟩
        refine ⟨_, rfl, p, dx, _, rfl, hp, no_after, _, rfl, _, rfl, rfl, S, p, n, i, ac, acts, rs, mv, rfl, st1, hmem, hmv, ?_⟩
        refine ⟨(by show 2 ≤ sizeLine; decide), fun l1 hl1 => ?_⟩
        have k2 : Same H1 (upd H1 l1 (.lst [mvV mv, mvV mv])) := same_new hl1
        have hl12 : (upd H1 l1 (.lst [mvV mv, mvV mv])) l1 = some (.lst [mvV mv, mvV mv]) := upd_same
        generalize upd H1 l1 (.lst [mvV mv, mvV mv]) = H2 at k2 hl12 ⊢
        have mok := mvD_ok n3 (AA.mv ac hmem mv (List.mem_of_getElem? hmv))
        have sml2 : ∀ d ∈ [mvD mv, mvD mv], Sml d := fun d hd => by
          simp only [List.mem_cons, List.not_mem_nil, or_false, or_self] at hd
          subst hd
          refine ⟨mok.1, ?_, ?_⟩ <;> cases mv <;> exact Nat.zero_le _
        have dvm : ∀ Hx : Hp, Dv [] Hx (mvV mv) (mvD mv) := fun Hx => by
          cases mv with
          | none => exact .non
          | some k => exact .int _
        refine ⟨.ref l1, .list _, rfl, .lst hl12 (fun m => nomatch m) (.cons (dvm _) (.cons (dvm _) .nil)), (lst_small sml2 (by show 2 ≤ 3; decide)).1, (lst_small sml2 (by show 2 ≤ 3; decide)).2.1, (lst_small sml2 (by show 2 ≤ 3; decide)).2.2, ?_⟩
        refine ⟨_, rfl, _, rfl, mt, _, _, _, rfl, rfl, SqT.of (k2 _ _ (k _ _ hmm)), atI_nat (j := i) (by rw [List.getElem?_map, hmv]; rfl), (by show 1 ≤ sizeLine; decide), fun l2 hl2 => ?_⟩
        have k3 : Same H2 (upd H2 l2 (.lst [mvV mv])) := same_new hl2
        refine ⟨l2, 2, _, rfl, rfl, upd_same, by decide, by decide, (by show 1 * 2 ≤ sizeLine; decide), fun l3 hl3 => ?_⟩
        have k4 : Same H2 (upd (upd H2 l2 (.lst [mvV mv])) l3 (.lst (List.replicate (2 : Int).toNat [mvV mv]).flatten)) := k3.trans (same_new hl3)
        have hl34 : (upd (upd H2 l2 (.lst [mvV mv])) l3 (.lst (List.replicate (2 : Int).toNat [mvV mv]).flatten)) l3 = some (.lst [mvV mv, mvV mv]) := upd_same
        generalize upd (upd H2 l2 (.lst [mvV mv])) l3 (.lst (List.replicate (2 : Int).toNat [mvV mv]).flatten) = H4 at k4 hl34 ⊢
        refine ⟨.ref l3, .list _, rfl, .lst hl34 (fun m => nomatch m) (.cons (dvm _) (.cons (dvm _) .nil)), (lst_small sml2 (by show 2 ≤ 3; decide)).1, (lst_small sml2 (by show 2 ≤ 3; decide)).2.1, (lst_small sml2 (by show 2 ≤ 3; decide)).2.2, ?_⟩
        refine ⟨rfl, _, rfl, iteNS rfl ?_⟩
        have kend := k2.trans k4
        exact ⟨_, _, _, _, _, _, rfl, k.trans kend, kn.same kend⟩
      · rintro σ H1 ⟨y5, y6, y7, y8, y9, y10, rfl, k, kn⟩
        exact ⟨_, _, _, _, _, _, _, rfl, k, kn.next⟩
  · rintro σ H' ⟨y4, y5, y6, y7, y8, y9, y10, rfl, k, kn⟩
    rw [Int.toNat_natCast] at kn
    obtain ⟨kv, hkv, hkl, hknown⟩ := kn
    refine ⟨_, rfl, (n : Nat), rfl, by omega, by omega, fun D hD => ?_⟩
    have sD : Same H' (upd H' D (.lst [])) := same_new hD
    refine lc_range (lo := 0) (n := ((n : Nat) : Int).toNat) (fun i H'' => Same H' H'' ∧ H'' D = some (.lst ((((List.range i).filter fun r => (R acts 0 r).isSome).map fun r : Nat => (r : Int)).map V.int))) ⟨sD, upd_same⟩ ?_ ?_
    · rintro h H1 hh ⟨k1, hD1⟩
      rw [Int.toNat_natCast] at hh
      rw [Int.zero_add]
      refine ⟨rfl, ?_⟩
      refine ⟨_, rfl, _, rfl, (by show 2 ≤ sizeLine; decide), fun kt hkt => ?_⟩
      obtain ⟨v, e1, e2⟩ := hknown 0 h hh (by omega)
      have k2 : Same H1 (upd H1 kt (.tup [.int 0, .int (h : Nat)])) := same_new hkt
      have g2 : DGet (upd H1 kt (.tup [.int 0, .int (h : Nat)])) kd (.ref kt) (some v) := by
        have g := DGet.t (k := [.inl 0, .inl (h : Int)]) (k2 _ _ (k1 _ _ hkv)) (upd_same : (upd H1 kt (.tup [.int 0, .int (h : Nat)])) kt = _)
        rw [show valV kv [.inl 0, .inl (h : Int)] = some v from e1] at g
        exact g
      have nonW : (!decide (v = V.non)) = (R acts 0 h).isSome := by
        have hw := e2
        generalize R acts 0 h = o at hw
        cases o with
        | none => cases hw; rfl
        | some w => obtain ⟨t, rfl, _⟩ := hw; rfl
      have hD2 := k2 _ _ hD1
      generalize upd H1 kt (.tup [.int 0, .int (h : Nat)]) = H2 at k2 g2 hD2 ⊢
      refine ⟨kd, v, rfl, g2, rfl, _, rfl, ?_⟩
      rw [nonW]
      have hlen : ((((List.range h).filter fun r => (R acts 0 r).isSome).map fun r : Nat => (r : Int)).map V.int).length < sizeLine := by
        rw [List.length_map, List.length_map, sizeLine_eq]
        have := List.length_filter_le (fun r => (R acts 0 r).isSome) (List.range h)
        rw [List.length_range] at this
        omega
      cases hR : (R acts 0 h).isSome with
      | true =>
        refine iteT ⟨_, rfl, _, hD2, hlen, fun b o eb => ?_, ?_⟩
        · rw [upd_ne (ne_of_none eb hD)]
          exact k2 _ _ (k1 _ _ eb)
        · rw [upd_same, List.range_succ, List.filter_append, List.map_append, List.map_append]
          rw [show [h].filter (fun r => (R acts 0 r).isSome) = [h] from List.filter_cons_of_pos hR]
          rfl
      | false =>
        refine iteF ⟨k1.trans k2, ?_⟩
        rw [List.range_succ, List.filter_append, show [h].filter (fun r => (R acts 0 r).isSome) = [] from List.filter_cons_of_neg (by rw [hR]; decide), List.append_nil]
        exact hD2
    · rintro H1 ⟨k1, hD1⟩
      rw [Int.toNat_natCast] at hD1
      have hD1' : H1 D = some (.lst (((reachedL acts n).map fun r : Nat => (r : Int)).map V.int)) := hD1
      refine ⟨D, _, rfl, .inl ⟨SqL.of hD1', fun du hdu => ?_⟩⟩
      have k2 : Same H1 (upd H1 du (.tup (((reachedL acts n).map fun r : Nat => (r : Int)).map V.int))) := same_new hdu
      have hdu2 : (upd H1 du (.tup (((reachedL acts n).map fun r : Nat => (r : Int)).map V.int))) du = some (.tup (((reachedL acts n).map fun r : Nat => (r : Int)).map V.int)) := upd_same
      generalize upd H1 du (.tup (((reachedL acts n).map fun r : Nat => (r : Int)).map V.int)) = H2 at k2 hdu2 ⊢
      have kk2 : Same H H2 := k.trans (k1.trans k2)
      have rl : (reachedL acts n).length ≤ 3 := by
        unfold reachedL
        have := List.length_filter_le (fun r => (R acts 0 r).isSome) (List.range n)
        rw [List.length_range] at this
        omega
      have rlt : ∀ r ∈ reachedL acts n, r < n := fun r hr => List.mem_range.mp (List.mem_filter.mp hr).1
      have dvr : ∀ {Hx : Hp} {t : Addr}, Hx t = some (.tup (((reachedL acts n).map fun r : Nat => (r : Int)).map V.int)) → Dv [] Hx (.ref t) (restD (reachedL acts n)) := fun {Hx t} ht => by
        refine .tup ht (fun m => nomatch m) ?_
        rw [List.map_map]
        exact rest_dv _
      have smr : Sml (restD (reachedL acts n)) := by
        refine ⟨?_, ?_, ?_⟩
        · show (decide (_ ≤ 1000) && okvAll _) = true
          rw [List.length_map, decide_eq_true (by omega), Bool.true_and, okvAll_iff]
          intro d hd
          obtain ⟨r, hr, rfl⟩ := List.mem_map.mp hd
          refine decide_eq_true ?_
          rw [Int.natAbs_natCast]
          have := rlt r hr
          exact Nat.lt_of_lt_of_le (by omega : r < 10) (by decide)
        · show PyData.bulkAll ((reachedL acts n).map fun r : Nat => PyData.int (r : Nat)) ≤ 1000
          have h1 := bulk_all ((reachedL acts n).map fun r : Nat => PyData.int (r : Nat)) 0 fun d hd => by
            obtain ⟨r, hr, rfl⟩ := List.mem_map.mp hd
            exact Nat.le_refl _
          rw [List.length_map] at h1
          omega
        · show PyData.depthAll ((reachedL acts n).map fun r : Nat => PyData.int (r : Nat)) + 1 ≤ 3
          have := depth_all ((reachedL acts n).map fun r : Nat => PyData.int (r : Nat)) 0 fun d hd => by
            obtain ⟨r, hr, rfl⟩ := List.mem_map.mp hd
            exact Nat.le_refl _
          omega
      have sml2 : ∀ d ∈ [restD (reachedL acts n), restD (reachedL acts n)], Sml d := fun d hd => by
        simp only [List.mem_cons, List.not_mem_nil, or_false, or_self] at hd
        subst hd
        exact smr
      have st2 := st.same kk2
      obtain ⟨dx, aA, o, ps, dM, lW, kvs, ds, hp, _⟩ := st2.ex
      refine ⟨_, rfl, p, dx, _, rfl, hp, S, p, n, acts, rs, rfl, st2, AA, hn1, fun H3 t1 k3 hn3' ht1 => ?_⟩
      refine ⟨_, rfl, p, dx, _, rfl, k3 _ _ hp, S, p, n, acts, rs, rfl, st2.same k3, AA, hn1, fun H4 t2 k4 hn4 ht2 => ?_⟩
      refine ⟨(by show 2 ≤ sizeLine; decide), fun l1 hl1 => ?_⟩
      have k5 : Same H4 (upd H4 l1 (.lst [.ref t1, .ref t2])) := same_new hl1
      have hl15 : (upd H4 l1 (.lst [.ref t1, .ref t2])) l1 = some (.lst [.ref t1, .ref t2]) := upd_same
      generalize upd H4 l1 (.lst [.ref t1, .ref t2]) = H5 at k5 hl15 ⊢
      refine ⟨.ref l1, .list _, rfl, .lst hl15 (fun m => nomatch m) (.cons (dvr (k5 _ _ (k4 _ _ ht1))) (.cons (dvr (k5 _ _ ht2)) .nil)), (lst_small sml2 (by show 2 ≤ 3; decide)).1, (lst_small sml2 (by show 2 ≤ 3; decide)).2.1, (lst_small sml2 (by show 2 ≤ 3; decide)).2.2, ?_⟩
      refine ⟨_, rfl, _, rfl, (by show 2 ≤ sizeLine; decide), fun l2 hl2 => ?_⟩
      have k6 : Same H5 (upd H5 l2 (.lst [.ref du, .ref du])) := same_new hl2
      have hl26 : (upd H5 l2 (.lst [.ref du, .ref du])) l2 = some (.lst [.ref du, .ref du]) := upd_same
      generalize upd H5 l2 (.lst [.ref du, .ref du]) = H6 at k6 hl26 ⊢
      have hdu6 := k6 _ _ (k5 _ _ (k4 _ _ (k3 _ _ hdu2)))
      refine ⟨.ref l2, .list _, rfl, .lst hl26 (fun m => nomatch m) (.cons (dvr hdu6) (.cons (dvr hdu6) .nil)), (lst_small sml2 (by show 2 ≤ 3; decide)).1, (lst_small sml2 (by show 2 ≤ 3; decide)).2.1, (lst_small sml2 (by show 2 ≤ 3; decide)).2.2, ?_⟩
      refine ⟨rfl, ?_⟩
      rw [decide_eq_true rfl]
      exact q H6 (kk2.trans (k3.trans (k4.trans (k5.trans k6))))
end
end K03
set_option Elab.async false
set_option linter.all false
set_option maxRecDepth 100000
set_option maxHeartbeats 4000000
set_option pp.maxSteps 400
/-! k03: the law. -/
namespace K03
open PySem PySem.Spec PyProof.Rows L2 Zg Zr Zd Zv
theorem dvs_perm {S : List Addr} {H : Hp} {xs ys : List V} (h : xs.Perm ys) : ∀ {acts : List Act}, DvAll S H xs (acts.map actD) → ∃ acts' : List Act, DvAll S H ys (acts'.map actD) ∧ acts'.Perm acts := by
  induction h with
  | nil =>
    intro acts hx
    cases acts with
    | nil => exact ⟨[], .nil, List.Perm.refl _⟩
    | cons a l => cases hx
  | cons x _ ih =>
    intro acts hx
    cases acts with
    | nil => cases hx
    | cons a l =>
      cases hx with
      | cons h t =>
        obtain ⟨l', e1, e2⟩ := ih t
        exact ⟨a :: l', .cons h e1, e2.cons a⟩
  | swap x y _ =>
    intro acts hx
    match acts, hx with
    | [], hx => cases hx
    | [a], hx => cases hx with | cons h t => cases t
    | a :: b :: l, .cons h (.cons h2 t) => exact ⟨b :: a :: l, .cons h2 (.cons h t), List.Perm.swap _ _ _⟩
  | trans _ _ ih1 ih2 =>
    intro acts hx
    obtain ⟨l1, e1, e2⟩ := ih1 hx
    obtain ⟨l2, e3, e4⟩ := ih2 e1
    exact ⟨l2, e3, e4.trans e2⟩
theorem asc_uniq {n : Nat} {acts acts' : List Act} (A : Acts n acts) (h1 : Asc acts) (h2 : Asc acts') (h : acts'.Perm acts) : acts' = acts :=
  List.Perm.eq_of_pairwise (le := fun a b : Act => ¬ b.1.cps.toList < a.1.cps.toList) (fun a b ha hb p q => by
    have e : a.1 = b.1 := Zt.str_ext (List.le_antisymm p q)
    have e1 := find_self A.nd (h.mem_iff.mp ha)
    have e2 := find_self A.nd hb
    rw [e, e2] at e1
    cases e1
    rfl) h2 h1 h
section
variable {P : Program} {w : World} {K : PySem.W.Frag} {mg : PySem.Str → Option Value} {base : Heap}
theorem ok_law (T : Txt K mg) : FnG P w K mg base 8 T.a_law T.d_law P_law (sp_law K) := by
  refine okG T.F_law sc_law (fun vs H Q E h => by obtain ⟨a, ns, rfl, _⟩ := h; rfl) (fun cdv A outer s H vs Q hgd hr h => ?_)
  refine ⟨_, (pss_cons (ps_set (i := 1) sc_law.nd rfl (Or.inl rfl) (pe_call (ok_well T) (hr.mono (by omega)) (by rfl) T.g_well T.F_well.kp T.b_well .nil pass0 (pa_cons (pv 0) pa_nil)))
    (pss_cons (ps_for PassesOwn.never rfl (pi_range1 (by rfl) T.n_range (pa_cons pe_int pa_nil)) (pg_name (i := 2) sc_law.nd rfl (Or.inl rfl)) (pss_cons (ps_asg (pe_call (ok_store T) (hr.mono (by omega)) (by rfl) T.g_store T.F_store.kp T.b_store .nil pass0 (pa_cons (pv 1) pa_nil)) (pg_lst (by rfl) (pgs_cons (pg_name (i := 3) sc_law.nd rfl (Or.inl rfl)) (pgs_cons (pg_name (i := 4) sc_law.nd rfl (Or.inl rfl)) (pgs_cons (pg_name (i := 5) sc_law.nd rfl (Or.inl rfl)) pgs_nil)))))
    (pss_cons (ps_set (i := 6) sc_law.nd rfl (Or.inl rfl) (ClX.pe_cmeth (pe_glob (v := .ref T.C_Store) rfl T.g_Store rfl) T.rd_Store T.me_Store_of ((ok_Store_of T).raw T.b_Store_of .nil) (hr.mono (by decide)) pass0 (pa_cons (pv 3) (pa_cons (pe_call (ok_shuffled T) (hr.mono (by omega)) (by rfl) T.g_shuffled T.F_shuffled.kp T.b_shuffled .nil pass0 (pa_cons (pv 1) (pa_cons (pv 4) pa_nil))) (pa_cons (pv 5) pa_nil)))))
    (pss_one (ps_if (pt_not (pt_val (pe_callG (ok_is_right T) hgd (hr.mono (by omega)) (by rfl) T.g_is_right T.F_is_right.kp T.b_is_right .nil (pa_cons (pv 6) (pa_cons (pv 3) (pa_cons (pv 4) pa_nil)))))) (pss_one (ps_ret pe_bl)) pss_nil)))))
    (pss_one (ps_ret pe_bl)))), ?_⟩
  obtain ⟨a, ns, rfl, hS, hl, q⟩ := h
  refine ⟨_, rfl, a, ns, rfl, hS, hl, fun H1 w l s1 hw0 hl0 hW => ?_⟩
  refine ⟨3, rfl, by decide, by decide, for_range (lo := 0) (n := 3) (fun i σ H' => ∃ (y2 y3 y4 y5 y6 : Option V), σ = [some (.ref a), some (.ref w), y2, y3, y4, y5, y6] ∧ Well H' w l (100 * i)) ⟨_, _, _, _, _, rfl, hW⟩ ?_ ?_⟩
  · rintro i σ H1 hi ⟨y2, y3, y4, y5, y6, rfl, hW⟩
    refine ⟨_, rfl, w, l, 100 * i, rfl, hW, (by show _ < 1000000000; omega), fun H2 p lr rt n xs acts rs k2 hW2 np nlr hp hlr hx AA AS hn1 drt ok1 ok2 => ?_⟩
    refine ⟨p, _, rfl, SqL.of hp, rfl, _, _, rfl, _, _, rfl, _, _, rfl, rfl, ?_⟩
    have hxl : xs.length ≤ 6 := by
      rw [hx.length, List.length_map]
      exact AA.few
    refine ⟨rfl, _, rfl, _, rfl, _, rfl, w, l, lr, 100 * i + 40, xs, rfl, hW2, (by show _ < 1000000000; omega), hlr, nlr, hxl, fun H3 t ys k3 hW3 ht perm => ?_⟩
    obtain ⟨acts', hy, pa⟩ := dvs_perm perm.symm (hx.kp k3)
    refine ⟨_, rfl, n, [w, l], t, ys, acts', .ref rt, restD rs, rfl, hn1, ht, hy, AA.perm pa, drt.kp k3, ok1, ok2, fun H4 p2 acts'' s4 hp2 perm2 asc st => ?_⟩
    have ea := asc_uniq AA AS asc (perm2.trans pa)
    subst ea
    have hlr3 := k3 _ _ nlr hlr
    refine ⟨_, rfl, _, rfl, _, rfl, [w, l], p2, n, lr, xs, acts'', .ref rt, rfl, st, s4 _ _ hlr3, (hx.kp k3).kp (Kp.of s4), AA, hn1, fun H5 k5 => ?_⟩
    refine ⟨_, rfl, iteF ?_⟩
    exact ⟨_, _, _, _, _, rfl, ((hW3.same s4).same k5).mono (by omega)⟩
  · rintro σ H' ⟨y2, y3, y4, y5, y6, rfl, hW⟩
    exact q H'
end
end K03
set_option Elab.async false
set_option linter.all false
set_option maxRecDepth 100000
set_option maxHeartbeats 4000000
/-! k03: the end. -/
namespace K03
open PySem PySem.Spec PyProof.Rows L2 Zg Zr Zd Zv
theorem all_mk {l : PySem.W.OpenLaw} {w : World} {K : PySem.W.Frag} {h : Heap} {mg : PySem.Str → Option Value} {fa f0 f1 f2 f3 f4 f5 f6 f7 f8 f9 f10 f11 f12 f13 f14 f15 f16 f17 f18 f19 f20 f21 f22 f23 f24 : Addr} (X : K.In h) (G : h.Ns mainGlobals mg) (hfa : mg "law" = some (.ref fa))
    {od0 an0 od1 an1 od2 an2 od3 an3 od4 an4 od5 an5 od6 an6 od7 an7 od8 an8 od9 an9 od10 an10 od11 an11 od12 an12 od13 an13 od14 an14 od15 an15 od16 an16 od17 an17 od18 an18 od19 an19 od20 an20 od21 an21 od22 an22 od23 an23 od24 an24 : Option Addr} {sl0 sl1 sl2 sl3 sl4 sl5 sl6 sl7 sl8 sl9 sl10 sl11 sl12 sl13 sl14 sl15 sl16 sl17 sl18 sl19 sl20 sl21 sl22 sl23 sl24 : Array (Option Value)} {oc0 kV0 dc0 pm0 cd0 ct0 oc1 kV1 dc1 pm1 cd1 ct1 oc2 kV2 dc2 pm2 cd2 ct2 oc3 kV3 dc3 pm3 cd3 ct3 oc4 kV4 dc4 pm4 cd4 ct4 oc5 kV5 dc5 pm5 cd5 ct5 oc6 kV6 dc6 pm6 cd6 ct6 oc7 kV7 dc7 pm7 cd7 ct7 oc8 kV8 dc8 pm8 cd8 ct8 oc9 kV9 dc9 pm9 cd9 ct9 oc10 kV10 dc10 pm10 cd10 ct10 oc11 kV11 dc11 pm11 cd11 ct11 oc12 kV12 dc12 pm12 cd12 ct12 oc13 kV13 dc13 pm13 cd13 ct13 oc14 kV14 dc14 pm14 cd14 ct14 oc15 kV15 dc15 pm15 cd15 ct15 oc16 kV16 dc16 pm16 cd16 ct16 oc17 kV17 dc17 pm17 cd17 ct17 oc18 kV18 dc18 pm18 cd18 ct18 oc19 kV19 dc19 pm19 cd19 ct19 oc20 kV20 dc20 pm20 cd20 ct20 oc21 kV21 dc21 pm21 cd21 ct21 oc22 kV22 dc22 pm22 cd22 ct22 oc23 kV23 dc23 pm23 cd23 ct23 oc24 kV24 dc24 pm24 cd24 ct24 : Value}
    (a0 : PySem.W.nsIn K mainGlobals "is_integer" = some (some (.ref f0))) (l0 : K.lookup f0 = some ⟨oc0, od0, .func (PySem.W.fnOf "is_integer" "is_integer" (defArgs s_is_integer) (defBody s_is_integer) (defScope s_is_integer) .none kV0 dc0 pm0 an0 cd0 ct0), sl0⟩) (c0 : PySem.W.codeIn K cd0 "is_integer" = true) (k0 : PySem.W.keepIn K (.ref f0) = true)
    (a1 : PySem.W.nsIn K mainGlobals "is_name" = some (some (.ref f1))) (l1 : K.lookup f1 = some ⟨oc1, od1, .func (PySem.W.fnOf "is_name" "is_name" (defArgs s_is_name) (defBody s_is_name) (defScope s_is_name) .none kV1 dc1 pm1 an1 cd1 ct1), sl1⟩) (c1 : PySem.W.codeIn K cd1 "is_name" = true) (k1 : PySem.W.keepIn K (.ref f1) = true)
    (a2 : PySem.W.nsIn K mainGlobals "are_ascending" = some (some (.ref f2))) (l2 : K.lookup f2 = some ⟨oc2, od2, .func (PySem.W.fnOf "are_ascending" "are_ascending" (defArgs s_are_ascending) (defBody s_are_ascending) (defScope s_are_ascending) .none kV2 dc2 pm2 an2 cd2 ct2), sl2⟩) (c2 : PySem.W.codeIn K cd2 "are_ascending" = true) (k2 : PySem.W.keepIn K (.ref f2) = true)
    (a3 : PySem.W.nsIn K mainGlobals "is_state" = some (some (.ref f3))) (l3 : K.lookup f3 = some ⟨oc3, od3, .func (PySem.W.fnOf "is_state" "is_state" (defArgs s_is_state) (defBody s_is_state) (defScope s_is_state) .none kV3 dc3 pm3 an3 cd3 ct3), sl3⟩) (c3 : PySem.W.codeIn K cd3 "is_state" = true) (k3 : PySem.W.keepIn K (.ref f3) = true)
    (a4 : PySem.W.nsIn K mainGlobals "are_states" = some (some (.ref f4))) (l4 : K.lookup f4 = some ⟨oc4, od4, .func (PySem.W.fnOf "are_states" "are_states" (defArgs s_are_states) (defBody s_are_states) (defScope s_are_states) .none kV4 dc4 pm4 an4 cd4 ct4), sl4⟩) (c4 : PySem.W.codeIn K cd4 "are_states" = true) (k4 : PySem.W.keepIn K (.ref f4) = true)
    (a5 : PySem.W.nsIn K mainGlobals "is_size" = some (some (.ref f5))) (l5 : K.lookup f5 = some ⟨oc5, od5, .func (PySem.W.fnOf "is_size" "is_size" (defArgs s_is_size) (defBody s_is_size) (defScope s_is_size) .none kV5 dc5 pm5 an5 cd5 ct5), sl5⟩) (c5 : PySem.W.codeIn K cd5 "is_size" = true) (k5 : PySem.W.keepIn K (.ref f5) = true)
    (a6 : PySem.W.nsIn K mainGlobals "is_action" = some (some (.ref f6))) (l6 : K.lookup f6 = some ⟨oc6, od6, .func (PySem.W.fnOf "is_action" "is_action" (defArgs s_is_action) (defBody s_is_action) (defScope s_is_action) .none kV6 dc6 pm6 an6 cd6 ct6), sl6⟩) (c6 : PySem.W.codeIn K cd6 "is_action" = true) (k6 : PySem.W.keepIn K (.ref f6) = true)
    (a7 : PySem.W.nsIn K mainGlobals "check_store" = some (some (.ref f7))) (l7 : K.lookup f7 = some ⟨oc7, od7, .func (PySem.W.fnOf "check_store" "check_store" (defArgs s_check_store) (defBody s_check_store) (defScope s_check_store) .none kV7 dc7 pm7 an7 cd7 ct7), sl7⟩) (c7 : PySem.W.codeIn K cd7 "check_store" = true) (k7 : PySem.W.keepIn K (.ref f7) = true)
    (a8 : PySem.W.nsIn K mainGlobals "ways_from" = some (some (.ref f8))) (l8 : K.lookup f8 = some ⟨oc8, od8, .func (PySem.W.fnOf "ways_from" "ways_from" (defArgs s_ways_from) (defBody s_ways_from) (defScope s_ways_from) .none kV8 dc8 pm8 an8 cd8 ct8), sl8⟩) (c8 : PySem.W.codeIn K cd8 "ways_from" = true) (k8 : PySem.W.keepIn K (.ref f8) = true)
    {aCStore : Addr} (xStore : PySem.W.nsIn K mainGlobals "Store" = some (some (.ref aCStore))) (yStore0 : PySem.W.plainGet K aCStore Str.empty = true) (yStore1 : PySem.W.hasDictIn K aCStore = true) (yStore2 : PySem.W.plainOver K aCStore = true) (yStore3 : PySem.W.findIn K (.ref aCStore) "__setattr__" = some (some (.builtin "object.__setattr__"))) (yStore4 : PySem.W.makesIn K aCStore = true) (yStore5 : PySem.W.keepIn K (.ref aCStore) = true)
    (vStoresize : PySem.W.findIn K (.ref aCStore) "size" = some none)
    (vStoreactions : PySem.W.findIn K (.ref aCStore) "actions" = some none)
    (vStoreresting : PySem.W.findIn K (.ref aCStore) "resting" = some none)
    (vStoremoves_by_name : PySem.W.findIn K (.ref aCStore) "moves_by_name" = some none)
    (vStoreways_by_state : PySem.W.findIn K (.ref aCStore) "ways_by_state" = some none)
    (rStore0 : PySem.W.readsIn K aCStore (.type "type") = true) (rStore1 : PySem.W.specialIn K (.ref aCStore) "__getattribute__" = some (some (.builtin "type.__getattribute__")))
    (a9 : PySem.W.findIn K (.ref aCStore) "__init__" = some (some (.ref f9))) (i9 : PySem.W.isFn K (.ref f9) = true)
    (l9 : K.lookup f9 = some ⟨oc9, od9, .func (PySem.W.fnOf "__init__" "Store.__init__" (defArgs s_Store_init) (defBody s_Store_init) (defScope s_Store_init) .none kV9 dc9 pm9 an9 cd9 ct9), sl9⟩) (c9 : PySem.W.codeIn K cd9 "Store.__init__" = true) (k9 : PySem.W.keepIn K (.ref f9) = true)
    {p10 : Addr} {rest10 : List Value} (a10 : PySem.W.findCls K (.ref aCStore) (.type "type") "of" = some (.get (.builtin "classmethod.__get__") (.ref p10) .none (.ref aCStore))) (u10 : PySem.W.recIn K p10 "classmethod" = some (.ref f10 :: rest10)) (i10 : PySem.W.fnIn K f10 = true)
    (l10 : K.lookup f10 = some ⟨oc10, od10, .func (PySem.W.fnOf "of" "Store.of" (defArgs s_Store_of) (defBody s_Store_of) (defScope s_Store_of) .none kV10 dc10 pm10 an10 cd10 ct10), sl10⟩) (c10 : PySem.W.codeIn K cd10 "Store.of" = true) (k10 : PySem.W.keepIn K (.ref f10) = true)
    {p11 : Addr} {rest11 : List Value} (a11 : PySem.W.findIn K (.ref aCStore) "reached" = some (some (.ref p11))) (i11 : PySem.W.specialIn K (.ref p11) "__get__" = some (some (.builtin "property.__get__"))) (t11 : PySem.W.takesIn K (.ref p11) = some true) (u11 : PySem.W.recIn K p11 "property" = some (.ref f11 :: rest11))
    (l11 : K.lookup f11 = some ⟨oc11, od11, .func (PySem.W.fnOf "reached" "Store.reached" (defArgs s_Store_reached) (defBody s_Store_reached) (defScope s_Store_reached) .none kV11 dc11 pm11 an11 cd11 ct11), sl11⟩) (c11 : PySem.W.codeIn K cd11 "Store.reached" = true) (k11 : PySem.W.keepIn K (.ref f11) = true)
    (a12 : PySem.W.findIn K (.ref aCStore) "after" = some (some (.ref f12))) (i12 : PySem.W.isFn K (.ref f12) = true)
    (l12 : K.lookup f12 = some ⟨oc12, od12, .func (PySem.W.fnOf "after" "Store.after" (defArgs s_Store_after) (defBody s_Store_after) (defScope s_Store_after) .none kV12 dc12 pm12 an12 cd12 ct12), sl12⟩) (c12 : PySem.W.codeIn K cd12 "Store.after" = true) (k12 : PySem.W.keepIn K (.ref f12) = true)
    (a13 : PySem.W.findIn K (.ref aCStore) "leads" = some (some (.ref f13))) (i13 : PySem.W.isFn K (.ref f13) = true)
    (l13 : K.lookup f13 = some ⟨oc13, od13, .func (PySem.W.fnOf "leads" "Store.leads" (defArgs s_Store_leads) (defBody s_Store_leads) (defScope s_Store_leads) .none kV13 dc13 pm13 an13 cd13 ct13), sl13⟩) (c13 : PySem.W.codeIn K cd13 "Store.leads" = true) (k13 : PySem.W.keepIn K (.ref f13) = true)
    (a14 : PySem.W.findIn K (.ref aCStore) "way" = some (some (.ref f14))) (i14 : PySem.W.isFn K (.ref f14) = true)
    (l14 : K.lookup f14 = some ⟨oc14, od14, .func (PySem.W.fnOf "way" "Store.way" (defArgs s_Store_way) (defBody s_Store_way) (defScope s_Store_way) .none kV14 dc14 pm14 an14 cd14 ct14), sl14⟩) (c14 : PySem.W.codeIn K cd14 "Store.way" = true) (k14 : PySem.W.keepIn K (.ref f14) = true)
    (a15 : PySem.W.nsIn K mainGlobals "_law_well" = some (some (.ref f15))) (l15 : K.lookup f15 = some ⟨oc15, od15, .func (PySem.W.fnOf "_law_well" "_law_well" (defArgs s_well) (defBody s_well) (defScope s_well) .none kV15 dc15 pm15 an15 cd15 ct15), sl15⟩) (c15 : PySem.W.codeIn K cd15 "_law_well" = true) (k15 : PySem.W.keepIn K (.ref f15) = true)
    (a16 : PySem.W.nsIn K mainGlobals "_law_drawn" = some (some (.ref f16))) (l16 : K.lookup f16 = some ⟨oc16, od16, .func (PySem.W.fnOf "_law_drawn" "_law_drawn" (defArgs s_drawn) (defBody s_drawn) (defScope s_drawn) .none kV16 dc16 pm16 an16 cd16 ct16), sl16⟩) (c16 : PySem.W.codeIn K cd16 "_law_drawn" = true) (k16 : PySem.W.keepIn K (.ref f16) = true)
    (a17 : PySem.W.nsIn K mainGlobals "_law_names" = some (some (.ref f17))) (l17 : K.lookup f17 = some ⟨oc17, od17, .func (PySem.W.fnOf "_law_names" "_law_names" (defArgs s_names) (defBody s_names) (defScope s_names) .none kV17 dc17 pm17 an17 cd17 ct17), sl17⟩) (c17 : PySem.W.codeIn K cd17 "_law_names" = true) (k17 : PySem.W.keepIn K (.ref f17) = true)
    (a18 : PySem.W.nsIn K mainGlobals "_law_store" = some (some (.ref f18))) (l18 : K.lookup f18 = some ⟨oc18, od18, .func (PySem.W.fnOf "_law_store" "_law_store" (defArgs s_store) (defBody s_store) (defScope s_store) .none kV18 dc18 pm18 an18 cd18 ct18), sl18⟩) (c18 : PySem.W.codeIn K cd18 "_law_store" = true) (k18 : PySem.W.keepIn K (.ref f18) = true)
    (a19 : PySem.W.nsIn K mainGlobals "_law_shuffled" = some (some (.ref f19))) (l19 : K.lookup f19 = some ⟨oc19, od19, .func (PySem.W.fnOf "_law_shuffled" "_law_shuffled" (defArgs s_shuffled) (defBody s_shuffled) (defScope s_shuffled) .none kV19 dc19 pm19 an19 cd19 ct19), sl19⟩) (c19 : PySem.W.codeIn K cd19 "_law_shuffled" = true) (k19 : PySem.W.keepIn K (.ref f19) = true)
    (a20 : PySem.W.nsIn K mainGlobals "_law_rows_of_names" = some (some (.ref f20))) (l20 : K.lookup f20 = some ⟨oc20, od20, .func (PySem.W.fnOf "_law_rows_of_names" "_law_rows_of_names" (defArgs s_rows_of_names) (defBody s_rows_of_names) (defScope s_rows_of_names) .none kV20 dc20 pm20 an20 cd20 ct20), sl20⟩) (c20 : PySem.W.codeIn K cd20 "_law_rows_of_names" = true) (k20 : PySem.W.keepIn K (.ref f20) = true)
    (a21 : PySem.W.nsIn K mainGlobals "_law_goes" = some (some (.ref f21))) (l21 : K.lookup f21 = some ⟨oc21, od21, .func (PySem.W.fnOf "_law_goes" "_law_goes" (defArgs s_goes) (defBody s_goes) (defScope s_goes) .none kV21 dc21 pm21 an21 cd21 ct21), sl21⟩) (c21 : PySem.W.codeIn K cd21 "_law_goes" = true) (k21 : PySem.W.keepIn K (.ref f21) = true)
    (a22 : PySem.W.nsIn K mainGlobals "_law_way" = some (some (.ref f22))) (l22 : K.lookup f22 = some ⟨oc22, od22, .func (PySem.W.fnOf "_law_way" "_law_way" (defArgs s_way) (defBody s_way) (defScope s_way) .none kV22 dc22 pm22 an22 cd22 ct22), sl22⟩) (c22 : PySem.W.codeIn K cd22 "_law_way" = true) (k22 : PySem.W.keepIn K (.ref f22) = true)
    (a23 : PySem.W.nsIn K mainGlobals "_law_is_right" = some (some (.ref f23))) (l23 : K.lookup f23 = some ⟨oc23, od23, .func (PySem.W.fnOf "_law_is_right" "_law_is_right" (defArgs s_is_right) (defBody s_is_right) (defScope s_is_right) .none kV23 dc23 pm23 an23 cd23 ct23), sl23⟩) (c23 : PySem.W.codeIn K cd23 "_law_is_right" = true) (k23 : PySem.W.keepIn K (.ref f23) = true)
    (a24 : PySem.W.nsIn K mainGlobals "law" = some (some (.ref f24))) (l24 : K.lookup f24 = some ⟨oc24, od24, .func (PySem.W.fnOf "law" "law" (defArgs s_law) (defBody s_law) (defScope s_law) .none kV24 dc24 pm24 an24 cd24 ct24), sl24⟩) (c24 : PySem.W.codeIn K cd24 "law" = true) (k24 : PySem.W.keepIn K (.ref f24) = true)
    (z_all : PySem.W.nsIn K mainGlobals "all" = some none)
    (z_bool : PySem.W.nsIn K mainGlobals "bool" = some none)
    (z_dict : PySem.W.nsIn K mainGlobals "dict" = some none)
    (z_int : PySem.W.nsIn K mainGlobals "int" = some none)
    (z_isinstance : PySem.W.nsIn K mainGlobals "isinstance" = some none)
    (z_len : PySem.W.nsIn K mainGlobals "len" = some none)
    (z_list : PySem.W.nsIn K mainGlobals "list" = some none)
    (z_range : PySem.W.nsIn K mainGlobals "range" = some none)
    (z_repr : PySem.W.nsIn K mainGlobals "repr" = some none)
    (z_sorted : PySem.W.nsIn K mainGlobals "sorted" = some none)
    (z_str : PySem.W.nsIn K mainGlobals "str" = some none)
    (z_tuple : PySem.W.nsIn K mainGlobals "tuple" = some none)
    (z_zip : PySem.W.nsIn K mainGlobals "zip" = some none)
    {tLETTERS : Tok} (gLETTERS : PySem.W.nsIn K mainGlobals "LETTERS" = some (some (.str "abcdefghijklmnopqrstuvwxyz" tLETTERS)))
    {tLONGEST_NAME : Tok} (gLONGEST_NAME : PySem.W.nsIn K mainGlobals "LONGEST_NAME" = some (some (.int 8 tLONGEST_NAME)))
    {tMOST_STATES : Tok} (gMOST_STATES : PySem.W.nsIn K mainGlobals "MOST_STATES" = some (some (.int 3 tMOST_STATES)))
    {tPAIR : Tok} (gPAIR : PySem.W.nsIn K mainGlobals "PAIR" = some (some (.int 2 tPAIR)))
    : ∃ fd : FuncData, (∀ (s : Shared) (v : Value), BindsTo s fd ⟨[v], []⟩ [("script", v)]) ∧ ∀ base : Heap, K.In base → base.Ns mainGlobals mg → FnG l.prog w K mg base 8 fa fd ["script"] (sp_law K) := by
  have e := hfa.symm.trans (PySem.W.mg_of X G a24)
  cases e
  have F0 := fun_mk (st := s_is_integer) l0 c0 k0
  have b0 := F0.binds (ps := P_is_integer) fun _ _ _ _ _ _ us hl => match us, hl with | [_], _ => rfl
  have F1 := fun_mk (st := s_is_name) l1 c1 k1
  have b1 := F1.binds (ps := P_is_name) fun _ _ _ _ _ _ us hl => match us, hl with | [_], _ => rfl
  have F2 := fun_mk (st := s_are_ascending) l2 c2 k2
  have b2 := F2.binds (ps := P_are_ascending) fun _ _ _ _ _ _ us hl => match us, hl with | [_], _ => rfl
  have F3 := fun_mk (st := s_is_state) l3 c3 k3
  have b3 := F3.binds (ps := P_is_state) fun _ _ _ _ _ _ us hl => match us, hl with | [_, _], _ => rfl
  have F4 := fun_mk (st := s_are_states) l4 c4 k4
  have b4 := F4.binds (ps := P_are_states) fun _ _ _ _ _ _ us hl => match us, hl with | [_, _], _ => rfl
  have F5 := fun_mk (st := s_is_size) l5 c5 k5
  have b5 := F5.binds (ps := P_is_size) fun _ _ _ _ _ _ us hl => match us, hl with | [_], _ => rfl
  have F6 := fun_mk (st := s_is_action) l6 c6 k6
  have b6 := F6.binds (ps := P_is_action) fun _ _ _ _ _ _ us hl => match us, hl with | [_, _], _ => rfl
  have F7 := fun_mk (st := s_check_store) l7 c7 k7
  have b7 := F7.binds (ps := P_check_store) fun _ _ _ _ _ _ us hl => match us, hl with | [_, _, _], _ => rfl
  have F8 := fun_mk (st := s_ways_from) l8 c8 k8
  have b8 := F8.binds (ps := P_ways_from) fun _ _ _ _ _ _ us hl => match us, hl with | [_, _], _ => rfl
  have F9 := fun_mk (st := s_Store_init) l9 c9 k9
  have F10 := fun_mk (st := s_Store_of) l10 c10 k10
  have b10 := F10.binds (ps := P_Store_of) fun _ _ _ _ _ _ us hl => match us, hl with | [_, _, _, _], _ => rfl
  have F11 := fun_mk (st := s_Store_reached) l11 c11 k11
  have b11 := F11.binds (ps := P_Store_reached) fun _ _ _ _ _ _ us hl => match us, hl with | [_], _ => rfl
  have F12 := fun_mk (st := s_Store_after) l12 c12 k12
  have b12 := F12.binds (ps := P_Store_after) fun _ _ _ _ _ _ us hl => match us, hl with | [_, _, _], _ => rfl
  have F13 := fun_mk (st := s_Store_leads) l13 c13 k13
  have b13 := F13.binds (ps := P_Store_leads) fun _ _ _ _ _ _ us hl => match us, hl with | [_, _, _], _ => rfl
  have F14 := fun_mk (st := s_Store_way) l14 c14 k14
  have b14 := F14.binds (ps := P_Store_way) fun _ _ _ _ _ _ us hl => match us, hl with | [_, _, _], _ => rfl
  have F15 := fun_mk (st := s_well) l15 c15 k15
  have b15 := F15.binds (ps := P_well) fun _ _ _ _ _ _ us hl => match us, hl with | [_], _ => rfl
  have F16 := fun_mk (st := s_drawn) l16 c16 k16
  have b16 := F16.binds (ps := P_drawn) fun _ _ _ _ _ _ us hl => match us, hl with | [_, _], _ => rfl
  have F17 := fun_mk (st := s_names) l17 c17 k17
  have b17 := F17.binds (ps := P_names) fun _ _ _ _ _ _ us hl => match us, hl with | [_, _], _ => rfl
  have F18 := fun_mk (st := s_store) l18 c18 k18
  have b18 := F18.binds (ps := P_store) fun _ _ _ _ _ _ us hl => match us, hl with | [_], _ => rfl
  have F19 := fun_mk (st := s_shuffled) l19 c19 k19
  have b19 := F19.binds (ps := P_shuffled) fun _ _ _ _ _ _ us hl => match us, hl with | [_, _], _ => rfl
  have F20 := fun_mk (st := s_rows_of_names) l20 c20 k20
  have b20 := F20.binds (ps := P_rows_of_names) fun _ _ _ _ _ _ us hl => match us, hl with | [_, _], _ => rfl
  have F21 := fun_mk (st := s_goes) l21 c21 k21
  have b21 := F21.binds (ps := P_goes) fun _ _ _ _ _ _ us hl => match us, hl with | [_, _, _], _ => rfl
  have F22 := fun_mk (st := s_way) l22 c22 k22
  have b22 := F22.binds (ps := P_way) fun _ _ _ _ _ _ us hl => match us, hl with | [_, _, _, _], _ => rfl
  have F23 := fun_mk (st := s_is_right) l23 c23 k23
  have b23 := F23.binds (ps := P_is_right) fun _ _ _ _ _ _ us hl => match us, hl with | [_, _, _], _ => rfl
  have F24 := fun_mk (st := s_law) l24 c24 k24
  have b24 := F24.binds (ps := P_law) fun _ _ _ _ _ _ us hl => match us, hl with | [_], _ => rfl
  exact ⟨_, fun s v => .of_eq rfl, fun base _ _ => ok_law { a_is_integer := f0, d_is_integer := _, F_is_integer := F0, g_is_integer := PySem.W.mg_of X G a0, b_is_integer := b0, a_is_name := f1, d_is_name := _, F_is_name := F1, g_is_name := PySem.W.mg_of X G a1, b_is_name := b1, a_are_ascending := f2, d_are_ascending := _, F_are_ascending := F2, g_are_ascending := PySem.W.mg_of X G a2, b_are_ascending := b2, a_is_state := f3, d_is_state := _, F_is_state := F3, g_is_state := PySem.W.mg_of X G a3, b_is_state := b3, a_are_states := f4, d_are_states := _, F_are_states := F4, g_are_states := PySem.W.mg_of X G a4, b_are_states := b4, a_is_size := f5, d_is_size := _, F_is_size := F5, g_is_size := PySem.W.mg_of X G a5, b_is_size := b5, a_is_action := f6, d_is_action := _, F_is_action := F6, g_is_action := PySem.W.mg_of X G a6, b_is_action := b6, a_check_store := f7, d_check_store := _, F_check_store := F7, g_check_store := PySem.W.mg_of X G a7, b_check_store := b7, a_ways_from := f8, d_ways_from := _, F_ways_from := F8, g_ways_from := PySem.W.mg_of X G a8, b_ways_from := b8, C_Store := aCStore, g_Store := PySem.W.mg_of X G xStore, cl_Store := ⟨yStore0, yStore1, yStore2, yStore3⟩, no_Store_size := vStoresize, no_Store_actions := vStoreactions, no_Store_resting := vStoreresting, no_Store_moves_by_name := vStoremoves_by_name, no_Store_ways_by_state := vStoreways_by_state, rd_Store := ⟨rStore0, rStore1⟩, a_Store_init := f9, d_Store_init := _, F_Store_init := F9, mk_Store := ⟨yStore4, a9, i9, yStore5⟩, a_Store_of := f10, d_Store_of := _, F_Store_of := F10, b_Store_of := b10, p_Store_of := p10, me_Store_of := ⟨a10, ⟨_, u10⟩, i10⟩, a_Store_reached := f11, d_Store_reached := _, F_Store_reached := F11, b_Store_reached := b11, p_Store_reached := p11, me_Store_reached := ⟨a11, i11, t11, _, u11⟩, a_Store_after := f12, d_Store_after := _, F_Store_after := F12, b_Store_after := b12, me_Store_after := ⟨a12, i12, k12⟩, a_Store_leads := f13, d_Store_leads := _, F_Store_leads := F13, b_Store_leads := b13, me_Store_leads := ⟨a13, i13, k13⟩, a_Store_way := f14, d_Store_way := _, F_Store_way := F14, b_Store_way := b14, me_Store_way := ⟨a14, i14, k14⟩, a_well := f15, d_well := _, F_well := F15, g_well := PySem.W.mg_of X G a15, b_well := b15, a_drawn := f16, d_drawn := _, F_drawn := F16, g_drawn := PySem.W.mg_of X G a16, b_drawn := b16, a_names := f17, d_names := _, F_names := F17, g_names := PySem.W.mg_of X G a17, b_names := b17, a_store := f18, d_store := _, F_store := F18, g_store := PySem.W.mg_of X G a18, b_store := b18, a_shuffled := f19, d_shuffled := _, F_shuffled := F19, g_shuffled := PySem.W.mg_of X G a19, b_shuffled := b19, a_rows_of_names := f20, d_rows_of_names := _, F_rows_of_names := F20, g_rows_of_names := PySem.W.mg_of X G a20, b_rows_of_names := b20, a_goes := f21, d_goes := _, F_goes := F21, g_goes := PySem.W.mg_of X G a21, b_goes := b21, a_way := f22, d_way := _, F_way := F22, g_way := PySem.W.mg_of X G a22, b_way := b22, a_is_right := f23, d_is_right := _, F_is_right := F23, g_is_right := PySem.W.mg_of X G a23, b_is_right := b23, a_law := fa, d_law := _, F_law := F24, g_law := PySem.W.mg_of X G a24, b_law := b24, n_all := PySem.W.mg_none_of X G z_all, n_bool := PySem.W.mg_none_of X G z_bool, n_dict := PySem.W.mg_none_of X G z_dict, n_int := PySem.W.mg_none_of X G z_int, n_isinstance := PySem.W.mg_none_of X G z_isinstance, n_len := PySem.W.mg_none_of X G z_len, n_list := PySem.W.mg_none_of X G z_list, n_range := PySem.W.mg_none_of X G z_range, n_repr := PySem.W.mg_none_of X G z_repr, n_sorted := PySem.W.mg_none_of X G z_sorted, n_str := PySem.W.mg_none_of X G z_str, n_tuple := PySem.W.mg_none_of X G z_tuple, n_zip := PySem.W.mg_none_of X G z_zip, m_LETTERS := ⟨_, PySem.W.mg_of X G gLETTERS, ⟨_, rfl⟩⟩, m_LONGEST_NAME := ⟨_, PySem.W.mg_of X G gLONGEST_NAME, ⟨_, rfl⟩⟩, m_MOST_STATES := ⟨_, PySem.W.mg_of X G gMOST_STATES, ⟨_, rfl⟩⟩, m_PAIR := ⟨_, PySem.W.mg_of X G gPAIR, ⟨_, rfl⟩⟩, kb_Store_way_r_q := Sk.kb1 F14 (fun _ _ _ _ _ _ us ws h1 h2 => match us, ws, h1, h2 with | [_], [_, _], _, _ => rfl) pmB_rel, kb_Store_leads_r_q := Sk.kb1 F13 (fun _ _ _ _ _ _ us ws h1 h2 => match us, ws, h1, h2 with | [_], [_, _], _, _ => rfl) pmB_rel, kb_Store_after_name_state := Sk.kb1 F12 (fun _ _ _ _ _ _ us ws h1 h2 => match us, ws, h1, h2 with | [_], [_, _], _, _ => rfl) pmB_rel }⟩
end K03
open PySem PySem.W PyProof.Rows
set_option maxHeartbeats 0 in
theorem PySem.Challenge.cw_plugcaller_k03_ways_leads_reached_holds : PySem.Challenge.rw_plugcaller_k03_ways_leads_reached.Holds := by
  w_on; o_law; k_head; (case hw => w_witness2)
  k_fill
  refine Zg.walkG (l := PySem.Challenge.rw_plugcaller_k03_ways_leads_reached) (n := 63) (k := 8) (x := "script") (sp := K03.sp_law) rfl (by decide) rfl ⟨rfl, by decide, by decide⟩ (fun w h Y => PySem.W.kIn_of Y) ?F (fun K H a ns hl _ hS => ⟨a, ns, rfl, hS, hl, fun _ => rfl⟩)
  case F =>
    intro w mg fa h KX G hmg
    refine' K03.all_mk KX G hmg ?a0 ?l0 ?c0 ?k0 ?a1 ?l1 ?c1 ?k1 ?a2 ?l2 ?c2 ?k2 ?a3 ?l3 ?c3 ?k3 ?a4 ?l4 ?c4 ?k4 ?a5 ?l5 ?c5 ?k5 ?a6 ?l6 ?c6 ?k6 ?a7 ?l7 ?c7 ?k7 ?a8 ?l8 ?c8 ?k8 ?xStore ?yStore0 ?yStore1 ?yStore2 ?yStore3 ?yStore4 ?yStore5 ?vStoresize ?vStoreactions ?vStoreresting ?vStoremoves_by_name ?vStoreways_by_state ?rStore0 ?rStore1 ?a9 ?i9 ?l9 ?c9 ?k9 ?a10 ?u10 ?i10 ?l10 ?c10 ?k10 ?a11 ?i11 ?t11 ?u11 ?l11 ?c11 ?k11 ?a12 ?i12 ?l12 ?c12 ?k12 ?a13 ?i13 ?l13 ?c13 ?k13 ?a14 ?i14 ?l14 ?c14 ?k14 ?a15 ?l15 ?c15 ?k15 ?a16 ?l16 ?c16 ?k16 ?a17 ?l17 ?c17 ?k17 ?a18 ?l18 ?c18 ?k18 ?a19 ?l19 ?c19 ?k19 ?a20 ?l20 ?c20 ?k20 ?a21 ?l21 ?c21 ?k21 ?a22 ?l22 ?c22 ?k22 ?a23 ?l23 ?c23 ?k23 ?a24 ?l24 ?c24 ?k24 ?z_all ?z_bool ?z_dict ?z_int ?z_isinstance ?z_len ?z_list ?z_range ?z_repr ?z_sorted ?z_str ?z_tuple ?z_zip ?gLETTERS ?gLONGEST_NAME ?gMOST_STATES ?gPAIR
    (case a0 => k_is)
    (case l0 => k_is)
    (case c0 => k_is)
    (case k0 => k_is)
    (case a1 => k_is)
    (case l1 => k_is)
    (case c1 => k_is)
    (case k1 => k_is)
    (case a2 => k_is)
    (case l2 => k_is)
    (case c2 => k_is)
    (case k2 => k_is)
    (case a3 => k_is)
    (case l3 => k_is)
    (case c3 => k_is)
    (case k3 => k_is)
    (case a4 => k_is)
    (case l4 => k_is)
    (case c4 => k_is)
    (case k4 => k_is)
    (case a5 => k_is)
    (case l5 => k_is)
    (case c5 => k_is)
    (case k5 => k_is)
    (case a6 => k_is)
    (case l6 => k_is)
    (case c6 => k_is)
    (case k6 => k_is)
    (case a7 => k_is)
    (case l7 => k_is)
    (case c7 => k_is)
    (case k7 => k_is)
    (case a8 => k_is)
    (case l8 => k_is)
    (case c8 => k_is)
    (case k8 => k_is)
    (case xStore => k_is)
    (case yStore0 => k_is)
    (case yStore1 => k_is)
    (case yStore2 => k_is)
    (case yStore3 => k_is)
    (case yStore4 => k_is)
    (case yStore5 => k_is)
    (case vStoresize => k_is)
    (case vStoreactions => k_is)
    (case vStoreresting => k_is)
    (case vStoremoves_by_name => k_is)
    (case vStoreways_by_state => k_is)
    (case rStore0 => k_is)
    (case rStore1 => k_is)
    (case a9 => k_is)
    (case i9 => k_is)
    (case l9 => k_is)
    (case c9 => k_is)
    (case k9 => k_is)
    (case a10 => k_is)
    (case u10 => k_is)
    (case i10 => k_is)
    (case l10 => k_is)
    (case c10 => k_is)
    (case k10 => k_is)
    (case a11 => k_is)
    (case i11 => k_is)
    (case t11 => k_is)
    (case u11 => k_is)
    (case l11 => k_is)
    (case c11 => k_is)
    (case k11 => k_is)
    (case a12 => k_is)
    (case i12 => k_is)
    (case l12 => k_is)
    (case c12 => k_is)
    (case k12 => k_is)
    (case a13 => k_is)
    (case i13 => k_is)
    (case l13 => k_is)
    (case c13 => k_is)
    (case k13 => k_is)
    (case a14 => k_is)
    (case i14 => k_is)
    (case l14 => k_is)
    (case c14 => k_is)
    (case k14 => k_is)
    (case a15 => k_is)
    (case l15 => k_is)
    (case c15 => k_is)
    (case k15 => k_is)
    (case a16 => k_is)
    (case l16 => k_is)
    (case c16 => k_is)
    (case k16 => k_is)
    (case a17 => k_is)
    (case l17 => k_is)
    (case c17 => k_is)
    (case k17 => k_is)
    (case a18 => k_is)
    (case l18 => k_is)
    (case c18 => k_is)
    (case k18 => k_is)
    (case a19 => k_is)
    (case l19 => k_is)
    (case c19 => k_is)
    (case k19 => k_is)
    (case a20 => k_is)
    (case l20 => k_is)
    (case c20 => k_is)
    (case k20 => k_is)
    (case a21 => k_is)
    (case l21 => k_is)
    (case c21 => k_is)
    (case k21 => k_is)
    (case a22 => k_is)
    (case l22 => k_is)
    (case c22 => k_is)
    (case k22 => k_is)
    (case a23 => k_is)
    (case l23 => k_is)
    (case c23 => k_is)
    (case k23 => k_is)
    (case a24 => k_is)
    (case l24 => k_is)
    (case c24 => k_is)
    (case k24 => k_is)
    (case z_all => k_is)
    (case z_bool => k_is)
    (case z_dict => k_is)
    (case z_int => k_is)
    (case z_isinstance => k_is)
    (case z_len => k_is)
    (case z_list => k_is)
    (case z_range => k_is)
    (case z_repr => k_is)
    (case z_sorted => k_is)
    (case z_str => k_is)
    (case z_tuple => k_is)
    (case z_zip => k_is)
    (case gLETTERS => k_is)
    (case gLONGEST_NAME => k_is)
    (case gMOST_STATES => k_is)
    (case gPAIR => k_is)
