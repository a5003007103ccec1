import PyProof.Rows.All
import Wide.All
import OpenK.AllK
import Wide.FinOn
import HandS.ForMost
import PyProof.ReprRoads
import HandS.TupMul
import HandS.TupAny
import PyProof.ReprBulk
import PyProof.FitsInt
import HandS.IsInst
import PyProof.EqAt
import PyProof.NeKinds
import HandS.Set
import HandS.SetBool
import PyProof.Rows.SortShellAny
import PyProof.Rows.SetFrom
import HandS.Strs
import PyProof.Rows.TupMore
import PyProof.EqKinds
import PyProof.TupleCall
import HandS.Base
import HandS.Call
import HandS.List
import HandS.Style
import PyProof.Rows.ReprOcc
import KE.KIntText
import PySem.Challenge.RW_plugcaller_k05_terms_and_definitions_of
import HandS.Flow
import HandS.More
import HandS.Star
import HandS.Zip
import HandS.Codes
import HandS.Text
import HandS.Walk
set_option Elab.async false
set_option linter.all false
set_option maxRecDepth 100000
set_option maxHeartbeats 4000000
/-! Zg: promises of defs that are called where no repr is under way (guards known to be none), and the end of a law over such a promise. -/
namespace Zg
open PySem PySem.Spec PyProof.Rows L2
/-- no repr is under way -/
abbrev Gd (A : Around) : Prop := A.guards = some []
/-- a def's promise, asked only where no repr is under way -/
structure FnG (P : Program) (w : World) (K : PySem.W.Frag) (mg : Str → Option Value) (base : Heap) (k : Nat) (f : Addr) (fd : FuncData) (ps : List Str) (sp : Sp) : Prop where
  len : ∀ vs H Q E, sp vs H Q E → vs.length = ps.length
  run : ∀ (A : Around) (outer : List Env) (s : Shared) (H : Hp) (args : Args) (us : List Value) (vs : List V) (Q : VK), Gd A → Room k A →
    Env0 P w K mg base A outer s H → BindsTo s fd args (ps.zip us) → Vals vs us → sp vs H Q E0 →
    codeAny (model P w) A (.call (.ref f) args) (CR CX0 outer P w H s Q E0) s
theorem FnG.of {P : Program} {w : World} {K : PySem.W.Frag} {mg : Str → Option Value} {base : Heap} {k : Nat} {f : Addr} {fd : FuncData} {ps : List Str} {sp : Sp}
    (F : FnOk P w K mg base CX0 k f fd ps sp) : FnG P w K mg base k f fd ps sp :=
  ⟨F.len, fun A outer s H args us vs Q _ hr e0 hb hv hs => F.run A outer s H args us vs Q E0 hr e0 hb hv hs⟩
section
variable {P : Program} {w : World} {K : PySem.W.Frag} {mg : Str → Option Value} {base : Heap}
theorem okG {x qual : Str} {st : Stmt} {f : Addr} {fd : FuncData} {N ps : List Str} {k : Nat} {sp : Sp} (F : Fun K x qual st f fd) (S : FnScope N ps (defScope st))
    (len : ∀ vs H Q E, sp vs H Q E → vs.length = ps.length)
    (hbody : ∀ (cdv : Value) (A : Around) (outer : List Env) (s : Shared) (H : Hp) (vs : List V) (Q : VK), Gd (A.deeper (envOfC qual (defScope st) s.heap.objs.size f cdv)) →
      Room k (A.deeper (envOfC qual (defScope st) s.heap.objs.size f cdv)) → sp vs H Q E0 →
      ∃ t, PSs (cxOf CX0 P w K mg base N qual (defScope st) f cdv A outer s H E0).nox (defBody st) t ∧ t { nx := fun _ H' => Q .non H', rt := Q } (start N vs) H) :
    FnG P w K mg base (k + 1) f fd ps sp := by
  obtain ⟨oc, od, kV, doc, pm, an, cdv, ct, osl, rfl, lk, hcd⟩ := F.ex
  refine ⟨len, fun A outer s H args us vs Q hgd hr e0 hb r hsp => ?_⟩
  have hl := len _ _ _ _ hsp
  have kept : ∀ b o, base.get? b = some o → s.heap.get? b = some o := fun b o e => (e0.bs b o e).1
  have known : ∀ y ∈ ps.zip us, (defScope st).names.lookup y.1 = some .local ∨
      ((defScope st).names.lookup y.1 = some .cell ∧ ((cellsFrom (s.heap.objs.size + 1) (defScope st).names []).lookup y.1).isSome = true) := fun ⟨n, v⟩ hy =>
    (S.par n (List.of_mem_zip hy).1).elim .inl fun q => .inr ⟨q, PySem.W.cellsFrom_some _ _ _ (.inl q)⟩
  refine codeAny_call_function hr.depth (e0.mod.kin.keeps kept _ _ lk) rfl S.co S.gen rfl (PySem.W.codeRec_of (e0.mod.kin.keeps kept) hcd) (hb _ _ _ _ ?_)
  refine wpAny_newFunctionEnv_cells S.kind known fun env he s1 x => ?_
  subst he
  refine ⟨(e0.mod.nolimit.keeps kept).keeps x.toInCall.keep, codeAny_func ?_⟩
  obtain ⟨t, ht, hq⟩ := hbody cdv A outer s H vs Q hgd (hr.deeper _) hsp
  refine wpAny_mono (ht.nox.run [] s1 (start N vs) H _ (inv_start S hr.hd e0 hl r x) hq) (fun fl s' hs => ?_) fun e s' hs => hs
  cases fl with
  | ret u =>
    obtain ⟨v, σ', H', J, rv, q⟩ := hs
    exact ⟨v, H', J.os, J.bare, J.base, J.hok, rv, q⟩
  | next =>
    obtain ⟨σ', H', J, q⟩ := hs
    exact ⟨V.non, H', J.os, J.bare, J.base, J.hok, rfl, q⟩
  | brk => exact hs.elim fun _ z => z.elim fun _ z => z.2.elim
  | cont => exact hs.elim fun _ z => z.elim fun _ z => z.2.elim
end
section
variable {X : Cx} {k : Nat} {f : Addr} {fd : FuncData} {ps ks : List Str} {sp : Sp} {dvs : List V} {ds : List Value} {x : Str} {p pos : Pos} {e : Expr} {es : List Expr} {kws : List Keyword} {t tk : TA}
/-- f(e, ..), f's promise asked where no repr is under way -/
theorem pe_callG (F : FnG X.prog X.w X.K X.mg X.base k f fd ps sp) (hgd : Gd X.A) (hr : Room k X.A) (hg : Gl X x) (hm : X.mg x = some (.ref f)) (hk : PySem.W.keepIn X.K (.ref f) = true) (hb : Binds X.K fd ps ds) (hd : Vals dvs ds)
    (ha : PA X (e :: es) t) (hdb : (x == ("__debug__" : Str)) = false := by decide) (he : starEach (e :: es) X.env = (false, eval e X.env) :: starEach es X.env := by rfl) (hpl : (backTo pos (starEach es X.env)).any (·.1) = false := by rfl) :
    PE X (.Call (.Name x p) (e :: es) [] pos) (tCall sp dvs E0 t) := by
  refine ⟨fun pins s σ H Q I h => wpAny_Call_Name_kw (ld_glob I hg hm ?_ hdb)⟩
  refine PySem.W.callWith_K (h₀ := X.base) I.ok.mod.kin hk (thn (ha.run pos pins s σ H _ I h) fun us s1 ⟨vs, H1, I1, r, q⟩ => ⟨I1.kIn, ?_⟩) he hpl
  have r2 : Vals (vs ++ dvs) (us ++ ds) := r.append hd
  have hl : (us ++ ds).length = ps.length := by rw [← r2.length]; exact F.len _ _ _ _ q
  refine wpAny_call (codeAny_mono (F.run X.A X.stack s1 H1 ⟨us, []⟩ (us ++ ds) (vs ++ dvs) Q hgd hr I1.env0 (hb s1 us I1.kIn hl) r2 q) fun r s' hq => ?_)
  cases r with
  | error e => exact hq.elim
  | ok fl =>
    cases fl with
    | ret u => exact I1.after hq
    | next => exact hq.elim
    | brk => exact hq.elim
    | cont => exact hq.elim
end
/-- how a call by keywords alone binds: g puts the keywords' values (names ks) in the parameters' order -/
structure KB0 (K : PySem.W.Frag) (fd : FuncData) (ps ks : List Str) (g : List Value → List Value) (gV : List V → List V) : Prop where
  to : ∀ (s : Shared) (ws : List Value), ws.length = ks.length → BindsTo s fd ⟨[], ks.zip ws⟩ (ps.zip (g ws))
  rel : ∀ {zs : List V} {ws : List Value}, Vals zs ws → Vals (gV zs) (g ws)
section
variable {X : Cx} {CX : CXT} {k : Nat} {f : Addr} {fd : FuncData} {ps ks : List Str} {sp : Sp} {E : XK} {x : Str} {p pos : Pos} {kws : List Keyword} {tk : TA} {g : List Value → List Value} {gV : List V → List V}
/-- f(k = v, ..): keywords alone -/
def tCallK0 (m : Nat) (sp : Sp) (gV : List V → List V) (E : XK) (tk : TA) : TE := fun σ H Q => tk σ H fun zs H2 => zs.length = m ∧ sp (gV zs) H2 Q E
theorem pe_callK0 (F : FnOk X.prog X.w X.K X.mg X.base CX k f fd ps sp) (hr : Room k X.A) (hg : Gl X x) (hm : X.mg x = some (.ref f)) (hk : PySem.W.keepIn X.K (.ref f) = true) (hb : KB0 X.K fd ps ks g gV) (hx : Passes CX X E)
    (hkw : PK X kws tk) (hall : (backToKw pos (keywordEach kws X.env)).all (·.1.isSome) = true := by rfl) (hks : (backToKw pos (keywordEach kws X.env)).filterMap (·.1) = ks := by rfl)
    (hdb : (x == ("__debug__" : Str)) = false := by decide) (hpl : ((backTo pos (starEach [] X.env)).any (·.1) || (backToKw pos (keywordEach kws X.env)).any (·.1.isNone)) = false := by rfl) :
    PE X (.Call (.Name x p) [] kws pos) (tCallK0 ks.length sp gV E tk) := by
  refine ⟨fun pins s σ H Q I h => wpAny_Call_Name_kw (ld_glob I hg hm ?_ hdb)⟩
  refine PySem.W.callWith_KW0 (h₀ := X.base) I.ok.mod.kin hk hall ?_ hpl
  refine thn (hkw.run pos pins s σ H _ I h) fun ws s2 ⟨zs, H2, I2, rz, l2, q2⟩ => ⟨I2.kIn, ?_⟩
  rw [hks, List.append_nil]
  have hw : ws.length = ks.length := by rw [← rz.length]; exact l2
  refine wpAny_call (codeAny_mono (F.run X.A X.stack s2 H2 ⟨[], ks.zip ws⟩ (g ws) (gV zs) Q E hr I2.env0 (hb.to s2 ws hw) (hb.rel rz) q2) fun r s' hq => ?_)
  cases r with
  | error e => exact hx pins σ H2 s2 e s' I2 hq
  | ok fl =>
    cases fl with
    | ret u => exact I2.after hq
    | next => exact hq.elim
    | brk => exact hq.elim
    | cont => exact hq.elim
end
/-- .. of a def of the text -/
theorem kb0 {K : PySem.W.Frag} {x qual : Str} {st : Stmt} {f : Addr} {fd : FuncData} {ps ks : List Str} {g : List Value → List Value} {gV : List V → List V} (F : Fun K x qual st f fd)
    (h : ∀ (kV doc pm : Value) (an : Option Addr) (cdv ct : Value) (ws : List Value), ws.length = ks.length → bindArgs (PySem.W.fnOf x qual (defArgs st) (defBody st) (defScope st) .none kV doc pm an cdv ct) ⟨[], ks.zip ws⟩ = pure (ps.zip (g ws)))
    (r : ∀ {zs : List V} {ws : List Value}, Vals zs ws → Vals (gV zs) (g ws)) : KB0 K fd ps ks g gV := by
  obtain ⟨oc, od, kV, doc, pm, an, cdv, ct, osl, rfl, lk, hcd⟩ := F.ex
  exact ⟨fun s ws hl => .of_eq (h kV doc pm an cdv ct ws hl), r⟩
/-! ### the end of a law over such a promise -/
section
variable {P : Program} {w : World} {K : PySem.W.Frag} {mg mb : Str → Option Value} {k : Nat} {fa a : Addr} {fd : FuncData} {x : Str} {sp : Sp} {s₁ : Shared} {vs : List Value} {ns : List Int}
/-- the call of the law, from an abstract heap that tracks the script at most -/
theorem enterG {H : Hp} (KX : K.In s₁.heap) (hns : s₁.heap.Ns mainGlobals mg) (hb : s₁.heap.Ns builtinsNs mb) (hbb : ∀ x : Str, x ≠ "__name__" → mb x = bootBuiltins x) (hlim : s₁.heap.NoLimit) (hg : s₁.gens = #[])
    (hscript : ∃ o : Obj, s₁.heap.get? a = some o ∧ ∀ es ep, o.data ≠ .dict es ep) (hr : Room k callerA)
    (F : ∀ base : Heap, K.In base → base.Ns mainGlobals mg → FnG P w K mg base k fa fd [x] sp) (hbind : ∀ (s : Shared) (u : Value), BindsTo s fd ⟨[u], []⟩ [(x, u)])
    (hsp : sp [.ref a] H (fun v _ => v = .bl true) E0) (hO : Only H) (hok : HOk P w H s₁.heap) (hA : ∀ b, H b ≠ none → b = a) (hK : H a ≠ none → K.lookup a = none) :
    codeAny (model P w) callerA (.call (.ref fa) ⟨[.ref a], []⟩) (fun r s' => r = .ok (.ret (.bool true)) ∧ OldK s₁.heap s'.heap ∧ s'.os = s₁.os ∧ AllBare s'.gens) s₁ := by
  obtain ⟨os, hs1, hs2⟩ := hscript
  have apart : ∀ b : Addr, H b ≠ none → (∀ o es ep, s₁.heap.get? b = some o → o.data = .dict es ep → False) := fun b hb o es ep e d => by
    rw [hA b hb, hs1] at e
    cases e
    exact hs2 es ep d
  have nsK : ∀ {b : Addr} {m : Str → Option Value}, s₁.heap.Ns b m → (hidT s₁.heap H).Ns b m := fun {b m} ⟨o, es, ep, e, d, r⟩ => by
    refine ⟨o, es, ep, hidT_get e ?_, d, r⟩
    cases q : H b with
    | none => rfl
    | some u => exact (apart b (by rw [q]; exact fun z => nomatch z) o es ep e d).elim
  have hKb : K.In (hidT s₁.heap H) := fun b o e => hidT_get (KX b o e) (by
    cases q : H b with
    | none => rfl
    | some u =>
      have e' : b = a := hA b (by rw [q]; exact fun z => nomatch z)
      rw [e'] at e q
      rw [hK (by rw [q]; exact fun z => nomatch z)] at e
      cases e)
  have hM : Mod K mg (hidT s₁.heap H) := ⟨hKb, nsK hns, ⟨mb, nsK hb, hbb⟩, let ⟨mc, h1, h2⟩ := hlim; ⟨mc, nsK h1, h2⟩⟩
  have e0 : Env0 P w K mg (hidT s₁.heap H) callerA [] s₁ H :=
    ⟨rfl, hM, fun b o e => of_hidT e, Nat.le_of_eq (hidT_size _ _), trivial, fun b hb => absurd hb List.not_mem_nil, hok, .of_eq hg⟩
  refine codeAny_mono ((F _ hKb (nsK hns)).run callerA [] s₁ H ⟨[.ref a], []⟩ [.ref a] [.ref a] _ rfl hr e0 (hbind s₁ (.ref a)) (.cons rfl .nil) hsp) fun r s' h => ?_
  cases r with
  | error e => exact h.elim
  | ok fl =>
    cases fl with
    | next => exact h.elim
    | brk => exact h.elim
    | cont => exact h.elim
    | ret u =>
      obtain ⟨v, H', os', bare, un, hok', r', q⟩ := h
      obtain rfl : v = .bl true := q
      obtain rfl : u = Value.bool true := r'
      refine ⟨rfl, OldK.of_keep fun b o e => ?_, os', bare⟩
      cases q : H b with
      | none => exact un.keep b o e q List.not_mem_nil List.not_mem_nil
      | some u =>
        rcases hO b with z | ⟨ob, xs, z⟩
        · rw [q] at z
          cases z
        · obtain ⟨e1, _⟩ := hok b _ z
          obtain ⟨e2, _⟩ := hok' b _ (un.frzs b ob _ z)
          rw [e] at e1
          cases e1
          exact e2
theorem callG (KX : K.In s₁.heap) (hns : s₁.heap.Ns mainGlobals mg) (hb : s₁.heap.Ns builtinsNs mb) (hbb : ∀ x : Str, x ≠ "__name__" → mb x = bootBuiltins x) (hlim : s₁.heap.NoLimit) (hg : s₁.gens = #[])
    (ha : s₁.heap.get? a = some { cls := .type "list", data := .seq vs.toArray }) (hi : IntsAre vs ns) (hl : ns.length ≤ sizeLine) (hr : Room k callerA)
    (F : ∀ base : Heap, K.In base → base.Ns mainGlobals mg → FnG P w K mg base k fa fd [x] sp) (hbind : ∀ (s : Shared) (u : Value), BindsTo s fd ⟨[u], []⟩ [(x, u)])
    (hsp : ∀ H : Hp, Only H → SqL K H a (ns.map V.int) → sp [.ref a] H (fun v _ => v = .bl true) E0) :
    codeAny (model P w) callerA (.call (.ref fa) ⟨[.ref a], []⟩) (fun r s' => r = .ok (.ret (.bool true)) ∧ OldK s₁.heap s'.heap ∧ s'.os = s₁.os ∧ AllBare s'.gens) s₁ := by
  have rv := vals_ints hi
  have hsc : ∃ o : Obj, s₁.heap.get? a = some o ∧ ∀ es ep, o.data ≠ .dict es ep := ⟨_, ha, fun _ _ z => nomatch z⟩
  cases hk : K.lookup a with
  | some o =>
    have e := KX a o hk
    rw [ha] at e
    cases e
    refine enterG (H := fun _ => none) KX hns hb hbb hlim hg hsc hr F hbind (hsp _ (fun _ => .inl rfl) (.inr ⟨_, vs.toArray, _, hk, rfl, rfl, rfl, by rw [List.size_toArray, hi.length]; exact hl, by simpa using rv⟩))
      (fun _ => .inl rfl) (fun b u z => nomatch (show (none : Option HO) = some u from z)) (fun b z => absurd rfl z) fun z => absurd rfl z
  | none =>
    have one : ∀ {b : Addr} {u : HO}, (if b = a then some (HO.frz { cls := .type "list", data := .seq vs.toArray } (.lst (ns.map V.int))) else none) = some u → b = a := fun {b u} z => by
      by_cases q : b = a
      · exact q
      · rw [if_neg q] at z
        cases z
    have hO : Only (fun b => if b = a then some (HO.frz { cls := .type "list", data := .seq vs.toArray } (.lst (ns.map V.int))) else none) := fun b => by
      by_cases q : b = a
      · exact .inr ⟨_, _, if_pos q⟩
      · exact .inl (if_neg q)
    refine enterG KX hns hb hbb hlim hg hsc hr F hbind (hsp _ hO (.inl (.inr ⟨_, if_pos rfl⟩))) hO (fun b u z => ?_) (fun b z => ?_) fun _ => hk
    · have q := one z
      subst q
      have z' := (if_pos rfl).symm.trans z
      cases z'
      exact ⟨ha, by rw [List.length_map]; exact hl, vs, _, rv, ha⟩
    · cases q : (if b = a then some (HO.frz { cls := .type "list", data := .seq vs.toArray } (.lst (ns.map V.int))) else none) with
      | none => exact absurd q z
      | some u => exact one q
end
/-- the goal that the head leaves, from the law's promise -/
theorem walkG {l : PySem.W.OpenLaw} {n k : Nat} {q : Program} {loose : List Str} {XP : (Str → Option Value) → Heap → Prop} {YP : World → Heap → Prop} {d : DefRec} {K : Params → PySem.W.Frag} {sp : PySem.W.Frag → Sp} {x : Str}
    (hn : l.most = some n) (hn2 : n ≤ sizeLine) (hdf : d.params.defaults = []) (hr : Room k callerA) (hY : ∀ (w : World) (h : Heap), YP w h → (K w.params).In h)
    (F : ∀ (w : World) (mg : Str → Option Value) (fa : Addr) (h : Heap), (K w.params).In h → h.Ns mainGlobals mg → mg d.name = some (.ref fa) →
      ∃ fd : FuncData, (∀ (s : Shared) (u : Value), BindsTo s fd ⟨[u], []⟩ [(x, u)]) ∧
        ∀ base : Heap, (K w.params).In base → base.Ns mainGlobals mg → FnG l.prog w (K w.params) mg base k fa fd [x] (sp (K w.params)))
    (hsp : ∀ (K : PySem.W.Frag) (H : Hp) (a : Addr) (ns : List Int), ns.length ≤ n → Only H → SqL K H a (ns.map V.int) → sp K [.ref a] H (fun v _ => v = .bl true) E0) :
    PySem.W.WalkO q loose XP YP l.row.toRowW d [] (fun f vs => PySem.call f vs) := by
  refine Att.attach_call hn hdf fun w s₀ s₁ mg mb fa o pm cd doc a vs ns G Y ho hd hcd hmg hobj hints hlen hg => ?_
  have KX := hY w _ Y
  obtain ⟨fd, hb, hF⟩ := F w mg fa _ KX G.T.g hmg
  exact callG KX G.T.g G.T.b G.T.builtins G.T.nolimit hg hobj hints (Nat.le_trans hlen hn2) hr hF hb fun H hO hS => hsp _ H a ns hlen hO hS
/-! ### repr of data -/
section
variable {X : Cx}
/-- repr(x), x an object that holds data -/
def rRepr (K : PySem.W.Frag) : List V → Hp → VK → Prop := fun xs H Q => ∃ (a : Addr) (d : PyData), xs = [.ref a] ∧ Dp K H (.ref a) d ∧ d.showable = true ∧ d.hasDict = false ∧ d.depth ≤ 60 ∧ d.shown.length ≤ sizeLine ∧ Q (.str d.shown) H
theorem cr_repr {k : Nat} (hgd : Gd X.A) (hr : Room k X.A) : CallR X (.builtin "repr") (rRepr X.K) := by
  intro pins s σ H xs us Q I r h
  obtain ⟨a, d, rfl, hd, hs, hn, hdp, hz, q⟩ := h
  obtain ⟨u, rfl, ru⟩ := Vals.one r
  cases ru
  obtain ⟨as, rd⟩ := Dp.reads I d _ _ hd rfl
  have hu := hr.un
  refine repr_of_reads' rd hs (fun z => by rw [hn] at z; cases z) hgd (by omega) (fun _ _ e => e) (fun h' u tk hk => ?_) hz
  exact ⟨.str d.shown, H, I.kept hk, ⟨u, rfl⟩, q⟩
end
end Zg
set_option Elab.async false
set_option linter.all false
set_option maxRecDepth 100000
set_option maxHeartbeats 4000000
/-! Zr: some rules of values: xs.extend(a tuple), t * 1. -/
namespace Zr
open PySem PySem.Spec PyProof.Rows L2
theorem extend_tup (l : Addr) (items : Array Value) (n : Nat) (b : Addr) (items2 : Array Value) (n2 : Nat) (dd : Option Addr) (sl : Array (Option Value)) (hs0 : ¬(!items.isEmpty && Builtin.List.listTooLong (items.size + items2.size)) = true) (hs1 : items.size ≤ sizeLine) (hs2 : items.size + items2.size ≤ sizeLine + 1) :
    Meets (Builtin.«list.extend» ⟨[.ref l, .ref b], []⟩) (fun _ R s => s.heap.get? l = some { cls := .type "list", dict := none, data := .seq items n, slots := #[] } ∧ s.heap.get? b = some { cls := .type "tuple", dict := dd, data := .seq items2 n2, slots := sl } ∧
      R (.ok (.ret Value.none)) { s with heap := s.heap.update l (Obj.mapSeq fun x => x ++ items2), toks := s.toks }) :=
  .of_wp fun prog w A R s h => by
    obtain ⟨hp, g, d, tk, os⟩ := s
    obtain ⟨hl, hb, h⟩ := h
    have f1 := AutoSeq1.idx_int
    have f2 := AutoSeq1.sub_tuple_tuple
    have f3 := AutoSeq1.sub_list_list
    have f4 := AutoSeq1.sub_tuple_list
    have f5 := AutoSeq1.sub_list_tuple
    have hz' : (items ++ items2).size ≤ sizeLine + 1 := by rw [Array.size_append]; exact hs2
    wp_walk using (wpAny_updateSeq hl rfl (hz := hs1) (_hz' := hz')), wpAny_loadPart' hl, wpAny_loadPart' hb
    exact ⟨_, rfl, h⟩
theorem tuple_mul1 (l : Addr) (items : Array Value) (n : Nat) (dd : Option Addr) (sl : Array (Option Value)) (u : Tok) :
    Meets (Builtin.«tuple.__mul__» ⟨[.ref l, .int 1 u], []⟩) (fun _ R s => s.heap.get? l = some { cls := .type "tuple", dict := dd, data := .seq items n, slots := sl } ∧ R (.ok (.ret (Value.ref l))) s) :=
  .of_wp fun prog w A R s h => by
    obtain ⟨hp, g, d, tk, os⟩ := s
    obtain ⟨hl, h⟩ := h
    have f1 := AutoSeq1.idx_int
    have c0 : (decide ((1 : Int) < -(2 ^ 63)) || decide ((1 : Int) ≥ 2 ^ 63)) = false := by decide
    have c1 : (items.isEmpty || (1 : Int) == 1) = true := by simp
    wp_walk using wpAny_loadPart' hl
    repeat (first
      | (refine wpAny_ite_false (decide_eq_false (by rw [c0]; exact Bool.false_ne_true)) ?_; wp_walk using wpAny_loadPart' hl)
      | (refine wpAny_ite_true (decide_eq_true c1) ?_; wp_walk using wpAny_loadPart' hl))
    exact ⟨_, rfl, h⟩
section
variable {X : Cx}
def rExtT (K : PySem.W.Frag) : V → List V → Hp → VK → Prop := fun x vs H Q => ∃ l b xs zs, x = .ref l ∧ vs = [.ref b] ∧ H l = some (.lst xs) ∧ SqT K H b zs ∧ xs.length + zs.length ≤ sizeLine ∧ Q .non (upd H l (.lst (xs ++ zs)))
theorem mt_extT : MtM X "list.extend" (rExtT X.K) := by
  intro pins s σ H x vs v us Q I rx rv h
  obtain ⟨l, b, xs, zs, rfl, rfl, hH, hB, hz, q⟩ := h
  cases rx
  obtain ⟨u, rfl, ru⟩ := rv.one
  cases ru
  obtain ⟨z, its, n, r, hl, e⟩ := I.lstM hH
  obtain ⟨its2, r2, ⟨⟨cls, dd, data, sl⟩, ho, hc, n2, hd⟩, _⟩ := I.tuple hB
  simp only at hc hd
  subst hc hd
  have hl2 := r2.length
  have hsz : its.toArray.size + its2.toArray.size ≤ sizeLine := by rw [List.size_toArray, List.size_toArray]; omega
  have hlong : ¬ (!its.toArray.isEmpty && Builtin.List.listTooLong (its.toArray.size + its2.toArray.size)) = true := by
    rw [notLongL hsz, Bool.and_false]
    exact Bool.false_ne_true
  refine call_meets F.slot_list_extend ⟨_, e, rfl⟩ F.entry_list_extend (F.args_list_extend_2 _ _)
    (extend_tup l its.toArray n b its2.toArray n2 dd sl hlong (by rw [List.size_toArray]; omega) (by omega)) ⟨e, ho, ?_⟩
  refine ⟨.non, _, I.lset (its' := its ++ its2) hH e (by simp) (r.append r2) ?_, rfl, q⟩
  rw [List.length_append]
  omega
/-- t * k, k from 1 on -/
def rRep1 (K : PySem.W.Frag) : R2 := fun x y H Q => ∃ l k xs, x = .ref l ∧ y = .int k ∧ SqT K H l xs ∧ xs ≠ [] ∧ 1 ≤ k ∧ k ≤ 1000 ∧ xs.length ≤ 1000 ∧ (k = 1 → Q (.ref l) H) ∧ (k ≠ 1 → ∀ p, H p = none → Q (.ref p) (upd H p (.tup (List.replicate k.toNat xs).flatten)))
theorem op_rep1 : OpR X (binaryOp .Mult) (rRep1 X.K) := by
  intro pins s σ H x y v u Q I rx ry h
  obtain ⟨l, k, xs, rfl, rfl, hT, hne, h1, h2, hz, q1, q2⟩ := h
  by_cases hk : k = 1
  · subst hk
    cases rx
    obtain ⟨t, rfl⟩ := ry
    obtain ⟨its, r, ⟨⟨cls, dd, data, sl⟩, ho, hc, n, hd⟩, hs⟩ := I.tuple hT
    simp only at hc hd
    subst hc hd
    refine wpAny_binaryOp_repeat_ref (T := "tuple") (U := "int") (by decide) ⟨_, ho, rfl⟩ (fun s' => typeIs_int s' 1 t) noFill_tuple_mul F.fills_int_mul F.slot_int_rmul repeat_tuple F.slot_int_index.lookup
      (call_meets F.slot_int_rmul (typeIs_int s 1 t) F.entry_int_rmul (F.args_int_rmul_2 _ _) (int_rmul_tuple 1 t l its.toArray n dd sl)
        ⟨ho, rfl, ⟨_, ho, rfl⟩, call_meets F.slot_tuple_mul ⟨_, ho, rfl⟩ F.entry_tuple_mul (F.args_tuple_mul_2 _ _) (tuple_mul1 l its.toArray n dd sl t) ⟨ho, ?_⟩⟩)
    exact ⟨.ref l, H, I, rfl, q1 rfl⟩
  · exact op_repT pins s σ H _ _ v u Q I rx ry ⟨l, k, xs, rfl, rfl, hT, hne, by omega, h2, hz, q2 hk⟩
end
end Zr
set_option Elab.async false
set_option linter.all false
set_option maxRecDepth 100000
set_option maxHeartbeats 4000000
/-! Zd: data whose leaves are small: they can be shown, compared. -/
namespace Zd
open PySem PySem.Spec PyProof.Rows L2
mutual
def okd : PyData → Bool
  | .none | .bool _ => true
  | .int i => decide (i.natAbs < 10 ^ 40)
  | .str x => PyData.strOk x
  | .list xs | .tuple xs => okAll xs
  | .dict _ => false
def okAll : List PyData → Bool
  | [] => true
  | x :: xs => okd x && okAll xs
end
theorem okAll_iff : ∀ {l : List PyData}, okAll l = true ↔ ∀ d ∈ l, okd d = true
  | [] => by simp [okAll]
  | x :: l => by
    rw [okAll, Bool.and_eq_true, okAll_iff (l := l)]
    simp
theorem int_log {i : Int} (h : i.natAbs < 10 ^ 40) : i.natAbs.log2 < 1920 :=
  Nat.lt_of_lt_of_le (PySem.Flt.log2_lt_of (n := i.natAbs) (k := 133) (by decide) (Nat.lt_trans h (by decide))) (by decide)
mutual
theorem okd_short : ∀ d : PyData, okd d = true → d.leavesShort 44 = true
  | .none, _ => rfl
  | .bool _, _ => rfl
  | .int i, h => by
    have h' : i.natAbs < 10 ^ 40 := of_decide_eq_true h
    have q := int_text_length_le10 (k := 40) (by decide) h'
    show decide ((PyData.shown (.int i)).length ≤ 44) = true
    refine decide_eq_true ?_
    show (PySem.Str.ofString (toString i)).length ≤ 44
    rw [PySem.ofString_length]
    omega
  | .str x, h => by
    have h' : x.cps.all (· < 0x110000) = true := h
    show x.cps.toList.all (fun c => decide (c < 16 ^ 8)) = true
    rw [List.all_eq_true]
    intro c hc
    rw [Array.all_eq_true'] at h'
    have q := h' c (by simpa using hc)
    have q' : c < 0x110000 := by simpa using q
    exact decide_eq_true (Nat.lt_trans q' (by decide))
  | .list xs, h => okAll_short xs h
  | .tuple xs, h => okAll_short xs h
  | .dict _, h => by cases h
theorem okAll_short : ∀ l : List PyData, okAll l = true → PyData.leavesShortAll 44 l = true
  | [], _ => rfl
  | x :: l, h => by
    rw [okAll, Bool.and_eq_true] at h
    show (PyData.leavesShort 44 x && PyData.leavesShortAll 44 l) = true
    rw [okd_short x h.1, okAll_short l h.2]
    rfl
end
mutual
theorem okd_show : ∀ d : PyData, okd d = true → d.showable = true ∧ d.canLay0 = true ∧ d.hasDict = false
  | .none, _ => ⟨rfl, rfl, rfl⟩
  | .bool _, _ => ⟨rfl, rfl, rfl⟩
  | .int i, h => ⟨decide_eq_true (int_log (of_decide_eq_true h)), rfl, rfl⟩
  | .str x, h => ⟨rfl, h, rfl⟩
  | .list xs, h => okAll_show xs h
  | .tuple xs, h => okAll_show xs h
  | .dict _, h => by cases h
theorem okAll_show : ∀ l : List PyData, okAll l = true → PyData.showableAll l = true ∧ PyData.canLayAll0 l = true ∧ PyData.hasDictAll l = false
  | [], _ => ⟨rfl, rfl, rfl⟩
  | x :: l, h => by
    rw [okAll, Bool.and_eq_true] at h
    obtain ⟨a1, a2, a3⟩ := okd_show x h.1
    obtain ⟨b1, b2, b3⟩ := okAll_show l h.2
    refine ⟨?_, ?_, ?_⟩
    · show (PyData.showable x && PyData.showableAll l) = true
      rw [a1, b1]; rfl
    · show (PyData.canLay0 x && PyData.canLayAll0 l) = true
      rw [a2, b2]; rfl
    · show (PyData.hasDict x || PyData.hasDictAll l) = false
      rw [a3, b3]; rfl
end
theorem okd_fits {d : PyData} (h : okd d = true) (hb : d.bulk ≤ 300000) : d.shown.length ≤ sizeLine := by
  have q := PyData.shown_le_bulk 44 (by decide) d (okd_short d h)
  rw [sizeLine_eq]
  omega
theorem shaped_of {d : PyData} (h : okd d = true) (hd : d.depth ≤ 60) : SeqAt.shaped d = true := by
  show (d.canLay0 && decide (d.depth ≤ 64)) = true
  rw [(okd_show d h).2.1, decide_eq_true (by omega)]
  rfl
/-- repr(x), x an object that holds small data -/
theorem repr_of {K : PySem.W.Frag} {a : Addr} {d : PyData} {H : Hp} {Q : VK} (hd : Dp K H (.ref a) d) (h : okd d = true) (hp : d.depth ≤ 60) (hb : d.bulk ≤ 300000) (q : Q (.str d.shown) H) : Zg.rRepr K [.ref a] H Q :=
  ⟨a, d, rfl, hd, (okd_show d h).1, (okd_show d h).2.2, hp, okd_fits h hb, q⟩
theorem dpAll_of {K : PySem.W.Frag} {H : Hp} {α : Type} (f : α → V) (g : α → PyData) : ∀ {l : List α}, (∀ x ∈ l, Dp K H (f x) (g x)) → DpAll K H (l.map f) (l.map g)
  | [], _ => .nil
  | x :: l, h => .cons (h x List.mem_cons_self) (dpAll_of f g fun y hy => h y (List.mem_cons_of_mem _ hy))
theorem dp_ints {K : PySem.W.Frag} {H : Hp} (ns : List Int) : DpAll K H (ns.map V.int) (ns.map PyData.int) := dpAll_of V.int PyData.int fun x _ => .int x
mutual
theorem dp_mono {K : PySem.W.Frag} {H H' : Hp} (k : ∀ a o, H a = some o → H' a = some o) : ∀ (d : PyData) (v : V), Dp K H v d → Dp K H' v d
  | _, _, .non => .non
  | _, _, .bl b => .bl b
  | _, _, .int i => .int i
  | _, _, .str x => .str x
  | _, _, .lst (xs := xs) (ds := ds) hs ha => .lst (by
      rcases hs with (h | ⟨o, h⟩) | h
      · exact .inl (.inl (k _ _ h))
      · exact .inl (.inr ⟨o, k _ _ h⟩)
      · exact .inr h) (dpAll_mono k ds xs ha)
  | _, _, .tup (xs := xs) (ds := ds) hs ha => .tup (by
      rcases hs with (h | ⟨o, h⟩) | h
      · exact .inl (.inl (k _ _ h))
      · exact .inl (.inr ⟨o, k _ _ h⟩)
      · exact .inr h) (dpAll_mono k ds xs ha)
theorem dpAll_mono {K : PySem.W.Frag} {H H' : Hp} (k : ∀ a o, H a = some o → H' a = some o) : ∀ (ds : List PyData) (vs : List V), DpAll K H vs ds → DpAll K H' vs ds
  | _, _, .nil => .nil
  | _, _, .cons h t => .cons (dp_mono k _ _ h) (dpAll_mono k _ _ t)
end
theorem depth_ints : ∀ ns : List Int, PyData.depthAll (ns.map PyData.int) = 0
  | [] => rfl
  | n :: r => by
    show max 0 (PyData.depthAll (r.map PyData.int)) = 0
    rw [depth_ints r]
    rfl
theorem lay_ints : ∀ ns : List Int, PyData.canLayAll0 (ns.map PyData.int) = true
  | [] => rfl
  | n :: r => lay_ints r
theorem shaped_ints (ns : List Int) : SeqAt.shaped (.list (ns.map PyData.int)) = true := by
  show (PyData.canLayAll0 (ns.map PyData.int) && decide (PyData.depthAll (ns.map PyData.int) + 1 ≤ 64)) = true
  rw [lay_ints, depth_ints]
  rfl
theorem eqv_empty (ns : List Int) : PyData.eqv (.list (ns.map PyData.int)) (.list []) = ns.isEmpty := by
  cases ns <;> rfl
end Zd
set_option Elab.async false
set_option linter.all false
set_option maxRecDepth 100000
set_option maxHeartbeats 4000000
/-! Zv: values of any kind: none, bools, ints, texts, lists, tuples, empty dicts, none of whose objects is one of S. -/
namespace Zv
open PySem PySem.Spec PyProof.Rows L2 Zg Zd
/-! ### the heap but for some -/
/-- all that was tracked but at the addresses of S is as it was -/
def Kp (S : List Addr) (H H' : Hp) : Prop := ∀ a o, a ∉ S → H a = some o → H' a = some o
theorem Kp.refl (S : List Addr) (H : Hp) : Kp S H H := fun _ _ _ e => e
theorem Kp.trans {S : List Addr} {H H1 H2 : Hp} (a : Kp S H H1) (b : Kp S H1 H2) : Kp S H H2 := fun x o n e => b x o n (a x o n e)
theorem Kp.new {S : List Addr} {H : Hp} {p : Addr} {o : HO} (h : H p = none) : Kp S H (upd H p o) := fun a u _ e => by
  rw [upd_ne (ne_of_none e h)]
  exact e
theorem Kp.wr {S : List Addr} {H H' : Hp} {p : Addr} {o : HO} (k : Kp S H H') (h : p ∈ S ∨ H p = none) : Kp S H (upd H' p o) := fun a u n e => by
  have q : a ≠ p := fun z => by
    subst z
    rcases h with h | h
    · exact n h
    · rw [h] at e
      cases e
  rw [upd_ne q]
  exact k a u n e
theorem Kp.of {S : List Addr} {H H' : Hp} (k : Same H H') : Kp S H H' := fun a o _ e => k a o e
theorem Kp.sub {S S' : List Addr} {H H' : Hp} (h : Kp S H H') (e : ∀ a ∈ S, a ∈ S') : Kp S' H H' := fun a o n => h a o fun m => n (e a m)
theorem Kp.free {S : List Addr} {H H' : Hp} (k : Kp S H H') {p : Addr} (n : p ∉ S) (h : H' p = none) : H p = none := by
  cases q : H p with
  | none => rfl
  | some o =>
    rw [k p o n q] at h
    cases h
theorem Kp.seq {K : PySem.W.Frag} {S : List Addr} {H H' : Hp} {a : Addr} {xs : List V} (k : Kp S H H') (n : a ∉ S) (h : SqL K H a xs) : SqL K H' a xs := by
  rcases h with (h | ⟨o, h⟩) | h
  · exact .inl (.inl (k _ _ n h))
  · exact .inl (.inr ⟨o, k _ _ n h⟩)
  · exact .inr h
theorem same_new {H : Hp} {p : Addr} {o : HO} (hp : H p = none) : Same H (upd H p o) := fun b u e => by rw [upd_ne (ne_of_none e hp)]; exact e
/-! ### the values -/
mutual
inductive Dv (S : List Addr) (H : Hp) : V → PyData → Prop
  | non : Dv S H .non .none
  | bl (b : Bool) : Dv S H (.bl b) (.bool b)
  | int (i : Int) : Dv S H (.int i) (.int i)
  | str (x : Str) : Dv S H (.str x) (.str x)
  | lst {a : Addr} {xs : List V} {ds : List PyData} : H a = some (.lst xs) → a ∉ S → DvAll S H xs ds → Dv S H (.ref a) (.list ds)
  | tup {a : Addr} {xs : List V} {ds : List PyData} : H a = some (.tup xs) → a ∉ S → DvAll S H xs ds → Dv S H (.ref a) (.tuple ds)
  | dic {a : Addr} : H a = some (.dK []) → a ∉ S → Dv S H (.ref a) (.dict [])
inductive DvAll (S : List Addr) (H : Hp) : List V → List PyData → Prop
  | nil : DvAll S H [] []
  | cons {v : V} {vs : List V} {d : PyData} {ds : List PyData} : Dv S H v d → DvAll S H vs ds → DvAll S H (v :: vs) (d :: ds)
end
mutual
theorem Dv.kp {S : List Addr} {H H' : Hp} (k : Kp S H H') : ∀ {v : V} {d : PyData}, Dv S H v d → Dv S H' v d
  | _, _, .non => .non
  | _, _, .bl b => .bl b
  | _, _, .int i => .int i
  | _, _, .str x => .str x
  | _, _, .lst h n t => .lst (k _ _ n h) n (DvAll.kp k t)
  | _, _, .tup h n t => .tup (k _ _ n h) n (DvAll.kp k t)
  | _, _, .dic h n => .dic (k _ _ n h) n
theorem DvAll.kp {S : List Addr} {H H' : Hp} (k : Kp S H H') : ∀ {vs : List V} {ds : List PyData}, DvAll S H vs ds → DvAll S H' vs ds
  | _, _, .nil => .nil
  | _, _, .cons h t => .cons (Dv.kp k h) (DvAll.kp k t)
end
mutual
theorem Dv.sub {S S' : List Addr} {H : Hp} (e : ∀ a ∈ S', a ∈ S) : ∀ {v : V} {d : PyData}, Dv S H v d → Dv S' H v d
  | _, _, .non => .non
  | _, _, .bl b => .bl b
  | _, _, .int i => .int i
  | _, _, .str x => .str x
  | _, _, .lst h n t => .lst h (fun m => n (e _ m)) (DvAll.sub e t)
  | _, _, .tup h n t => .tup h (fun m => n (e _ m)) (DvAll.sub e t)
  | _, _, .dic h n => .dic h (fun m => n (e _ m))
theorem DvAll.sub {S S' : List Addr} {H : Hp} (e : ∀ a ∈ S', a ∈ S) : ∀ {vs : List V} {ds : List PyData}, DvAll S H vs ds → DvAll S' H vs ds
  | _, _, .nil => .nil
  | _, _, .cons h t => .cons (Dv.sub e h) (DvAll.sub e t)
end
theorem DvAll.append {S : List Addr} {H : Hp} : ∀ {vs ws : List V} {ds es : List PyData}, DvAll S H vs ds → DvAll S H ws es → DvAll S H (vs ++ ws) (ds ++ es)
  | _, _, _, _, .nil, h => h
  | _, _, _, _, .cons a t, h => .cons a (DvAll.append t h)
theorem DvAll.length {S : List Addr} {H : Hp} : ∀ {vs : List V} {ds : List PyData}, DvAll S H vs ds → vs.length = ds.length
  | _, _, .nil => rfl
  | _, _, .cons _ t => by rw [List.length_cons, List.length_cons, DvAll.length t]
theorem DvAll.drop {S : List Addr} {H : Hp} : ∀ (n : Nat) {vs : List V} {ds : List PyData}, DvAll S H vs ds → DvAll S H (vs.drop n) (ds.drop n)
  | 0, _, _, h => h
  | n + 1, _, _, .nil => .nil
  | n + 1, _, _, .cons _ t => DvAll.drop n t
theorem DvAll.take {S : List Addr} {H : Hp} : ∀ (n : Nat) {vs : List V} {ds : List PyData}, DvAll S H vs ds → DvAll S H (vs.take n) (ds.take n)
  | 0, _, _, _ => .nil
  | n + 1, _, _, .nil => .nil
  | n + 1, _, _, .cons h t => .cons h (DvAll.take n t)
theorem DvAll.get {S : List Addr} {H : Hp} : ∀ {vs : List V} {ds : List PyData}, DvAll S H vs ds → ∀ {i : Nat} {v : V}, vs[i]? = some v → ∃ d, ds[i]? = some d ∧ Dv S H v d
  | _, _, .nil, i, v, e => by cases e
  | _, _, .cons (d := d) h t, 0, v, e => ⟨d, rfl, by cases e; exact h⟩
  | _, _, .cons h t, i + 1, v, e => DvAll.get t (i := i) e
section
variable {X : Cx} {pins : List (Addr × Obj)} {σ : L2.St} {H : Hp} {s : Shared} {S : List Addr}
/-- the object of an empty dict -/
theorem dic_at (I : Inv X pins σ H s) {a : Addr} (h : H a = some (.dK [])) : (a == sysModules) = false ∧ ∃ o n, s.heap.get? a = some o ∧ o.cls = .type "dict" ∧ o.data = .dict #[] n := by
  obtain ⟨_, hd, vs, kv, o, es, ep, h1, h2, h3, h4, h5, h6⟩ := dk_rd I.hok (.inl h)
  refine ⟨hd, o, ep, h1, h2.1, ?_⟩
  cases kv
  have e : es.toList = [] := by
    cases h5' : es.toList with
    | nil => rfl
    | cons x l => rw [h5'] at h5; cases h5
  have e2 : es = #[] := by
    obtain ⟨l⟩ := es
    simp only at e
    rw [e]
  rw [h3, e2]
mutual
theorem Dv.reads (I : Inv X pins σ H s) : ∀ {v : V} {d : PyData} (u : Value), Dv S H v d → RelV v u → ∃ as, Reads s.heap u d as
  | _, _, _, .non, r => by cases r; exact ⟨_, Reads.none⟩
  | _, _, _, .bl b, r => by cases r; exact ⟨_, Reads.bool b⟩
  | _, _, _, .int i, r => by obtain ⟨t, rfl⟩ := r; exact ⟨_, Reads.int i t⟩
  | _, _, _, .str x, r => by obtain ⟨t, rfl⟩ := r; exact ⟨_, Reads.str x t⟩
  | _, _, _, .lst h n t, r => by
    cases r
    obtain ⟨z, its, m, rv, _, e⟩ := I.lstM h
    obtain ⟨as, q⟩ := DvAll.reads I its t rv
    exact ⟨_, Reads.list e rfl rfl q⟩
  | _, _, _, .tup h n t, r => by
    cases r
    obtain ⟨its, rv, ⟨o, ho, hc, m, hd⟩, _⟩ := I.tuple (X := X) (SqT.of h)
    obtain ⟨as, q⟩ := DvAll.reads I its t rv
    exact ⟨_, Reads.tuple ho hc hd q⟩
  | _, _, _, .dic h n, r => by
    cases r
    obtain ⟨_, o, m, h1, h2, h3⟩ := dic_at I h
    exact ⟨_, Reads.dict h1 h2 h3 .nil .nil⟩
theorem DvAll.reads (I : Inv X pins σ H s) : ∀ {vs : List V} {ds : List PyData} (us : List Value), DvAll S H vs ds → Vals vs us → ∃ as, ReadsAll s.heap us ds as
  | _, _, _, .nil, r => by cases r; exact ⟨_, ReadsAll.nil⟩
  | _, _, _, .cons h t, r => by
    cases r with
    | cons r1 r2 =>
      obtain ⟨as, q1⟩ := Dv.reads I _ h r1
      obtain ⟨bs, q2⟩ := DvAll.reads I _ t r2
      exact ⟨_, ReadsAll.cons q1 q2⟩
end
end
/-! ### repr -/
section
variable {X : Cx} {pins : List (Addr × Obj)} {σ : L2.St} {H : Hp} {s : Shared} {S : List Addr}
mutual
/-- how such a value shows within another -/
theorem Dv.under (I : Inv X pins σ H s) : ∀ {v : V} {d : PyData} (u : Value), Dv S H v d → RelV v u → d.showable = true → d.shown.length ≤ sizeLine → ∃ bs, ReadAtMost s.heap d.depth bs ∧ ReprK X.prog X.w bs s.heap d.depth u d.shown
  | _, _, _, .non, r, _, _ => by
    cases r
    exact ⟨[], fun _ h => (nomatch h), ReprK.of_is ReprIs.none _ _ _⟩
  | _, _, _, .bl b, r, _, _ => by
    cases r
    exact ⟨[], fun _ h => (nomatch h), ReprK.of_is (ReprIs.bool b) _ _ _⟩
  | _, _, _, .int i, r, hs, _ => by
    obtain ⟨t, rfl⟩ := r
    exact ⟨[], fun _ h => (nomatch h), ReprK.of_is (ReprIs.int t (of_decide_eq_true hs)) _ _ _⟩
  | _, _, _, .str x, r, _, hz => by
    obtain ⟨t, rfl⟩ := r
    exact ⟨[], fun _ h => (nomatch h), ReprK.of_is (ReprIs.str x t hz) _ _ _⟩
  | _, _, _, .lst (a := a) (xs := xs) (ds := ds) h n t, r, hs, hz => by
    obtain ⟨as, hr⟩ := Dv.reads I _ (Dv.lst h n t) r
    cases r
    obtain ⟨_, its, m, rv, _, e⟩ := I.lstM h
    have hz' : (listText (PyData.shownAll ds)).length ≤ sizeLine := hz
    obtain ⟨bs, hb, hk⟩ := DvAll.under I its t rv hs fun x hx => Nat.le_trans (listText_mem_le hx) hz'
    have na : a ∉ bs := not_mem_of_deeper hr (Nat.lt_succ_self _) hb
    refine ⟨a :: bs, ReadAtMost.cons hr (Nat.le_succ _) hb, ?_⟩
    cases its with
    | nil =>
      cases rv
      cases t
      show ReprK X.prog X.w _ s.heap 1 (.ref a) (listText [])
      rw [listText_nil]
      exact ReprK.listEmpty e rfl rfl
    | cons y l => exact ReprK.list e rfl rfl na (by simpa using hk.length_eq) fun i z q => hk.item i z (by simpa using q)
  | _, _, _, .tup (a := a) (xs := xs) (ds := ds) h n t, r, hs, hz => by
    obtain ⟨as, hr⟩ := Dv.reads I _ (Dv.tup h n t) r
    cases r
    obtain ⟨its, rv, ⟨o, ho, hc, m, hd⟩, _⟩ := I.tuple (X := X) (SqT.of h)
    have hz' : (tupleText (PyData.shownAll ds)).length ≤ sizeLine := hz
    obtain ⟨bs, hb, hk⟩ := DvAll.under I its t rv hs fun x hx => Nat.le_trans (tupleText_mem_le hx) hz'
    have na : a ∉ bs := not_mem_of_deeper hr (Nat.lt_succ_self _) hb
    exact ⟨a :: bs, ReadAtMost.cons hr (Nat.le_succ _) hb, ReprK.tuple ho hc hd na (by simpa using hk)⟩
  | _, _, _, .dic (a := a) h n, r, hs, hz => by
    obtain ⟨as, hr⟩ := Dv.reads I _ (Dv.dic (S := S) h n) r
    cases r
    obtain ⟨lo, o, m, h1, h2, h3⟩ := dic_at I h
    refine ⟨[a], fun b hb => ?_, ReprK.dict (ps := []) h1 h2 h3 lo (fun z => nomatch z) .nil⟩
    rw [List.mem_singleton] at hb
    subst hb
    exact ⟨_, _, hr, Nat.le_refl _⟩
theorem DvAll.under (I : Inv X pins σ H s) : ∀ {vs : List V} {ds : List PyData} (us : List Value), DvAll S H vs ds → Vals vs us → PyData.showableAll ds = true → (∀ t ∈ PyData.shownAll ds, t.length ≤ sizeLine) →
    ∃ bs, ReadAtMost s.heap (PyData.depthAll ds) bs ∧ ReprAllK X.prog X.w bs s.heap (PyData.depthAll ds) us (PyData.shownAll ds)
  | _, _, _, .nil, r, _, _ => by
    cases r
    exact ⟨[], fun _ h => (nomatch h), .nil⟩
  | _, _, _, .cons (d := d) (ds := ds) h t, r, hs, hz => by
    cases r with
    | cons r1 r2 =>
      have hs' : (d.showable && PyData.showableAll ds) = true := hs
      rw [Bool.and_eq_true] at hs'
      obtain ⟨b1, q1, k1⟩ := Dv.under I _ h r1 hs'.1 (hz _ List.mem_cons_self)
      obtain ⟨b2, q2, k2⟩ := DvAll.under I _ t r2 hs'.2 fun x hx => hz x (List.mem_cons_of_mem _ hx)
      exact ⟨b1 ++ b2, (q1.mono (Nat.le_max_left _ _)).append (q2.mono (Nat.le_max_right _ _)),
        .cons ((k1.more fun b hb => List.mem_append_left _ hb).level_le (Nat.le_max_left _ _)) (k2.more_le (fun b hb => List.mem_append_right _ hb) (Nat.le_max_right _ _))⟩
end
end
section
variable {X : Cx}
/-- repr(x), x any such value -/
def rReprV (S : List Addr) : List V → Hp → VK → Prop := fun xs H Q => ∃ (v : V) (d : PyData), xs = [v] ∧ Dv S H v d ∧ d.showable = true ∧ d.depth ≤ 60 ∧ d.shown.length ≤ sizeLine ∧ Q (.str d.shown) H
theorem cr_reprV {S : List Addr} {k : Nat} (hgd : Gd X.A) (hr : Room k X.A) : CallR X (.builtin "repr") (rReprV S) := by
  intro pins s σ H xs us Q I r h
  obtain ⟨v, d, rfl, hd, hs, hdp, hz, q⟩ := h
  obtain ⟨u, rfl, ru⟩ := Vals.one r
  have hu := hr.un
  have hg1 : X.A.in1.guards = some [] := hgd
  have fin : ∀ (h' : Heap) (u : Tok) (tk : Nat), (∀ b o, s.heap.get? b = some o → h'.get? b = some o) → EP X pins σ Q (.str d.shown u) { s with heap := h', toks := tk } := fun h' u tk hk => ⟨.str d.shown, H, I.kept hk, ⟨u, rfl⟩, q⟩
  cases hd with
  | non => cases ru; exact PySem.P.repr_of_none ⟨.str _, H, I.tok _, ⟨_, rfl⟩, q⟩
  | bl b => cases ru; exact PySem.P.repr_of_bool ⟨.str _, H, I.tok _, ⟨_, rfl⟩, q⟩
  | int i => obtain ⟨t, rfl⟩ := ru; exact PySem.P.repr_of_int (of_decide_eq_true hs) ⟨.str _, H, I.tok _, ⟨_, rfl⟩, q⟩
  | str x => obtain ⟨t, rfl⟩ := ru; exact PySem.P.repr_of_str ⟨.str _, H, I.tok _, ⟨_, rfl⟩, q⟩ hz
  | @lst a xs ds h n t =>
    obtain ⟨as, hr⟩ := Dv.reads I _ (Dv.lst h n t) ru
    cases ru
    obtain ⟨_, its, m, rv, _, e⟩ := I.lstM h
    have hz' : (listText (PyData.shownAll ds)).length ≤ sizeLine := hz
    obtain ⟨bs, hb, hk⟩ := DvAll.under I its t rv hs fun x hx => Nat.le_trans (listText_mem_le hx) hz'
    have na : a ∉ bs := not_mem_of_deeper hr (Nat.lt_succ_self _) hb
    have hdp' : PyData.depthAll ds + 1 ≤ 60 := hdp
    refine call_repr_slot (by omega) (T := "list") ⟨_, e, rfl⟩ F.slot_list_repr.toG ?_
    cases its with
    | nil =>
      cases rv
      cases t
      refine call_list_repr_empty ⟨_, e, rfl⟩ e rfl ?_
      have q2 := fin s.heap s.toks (s.toks + 1) fun _ _ e => e
      have e2 : PyData.shown (.list []) = "[]" := listText_nil
      rw [e2] at q2
      exact ⟨_, _, rfl, q2⟩
    | cons y l =>
      exact call_list_reprK (h₀ := s.heap) e rfl rfl na (by simpa using hk.length_eq) (fun i z q => hk.item i z (by simpa using q)) hg1 (fun b _ => Clear.nil b) (by show X.A.units + 1 + (PyData.depthAll ds + 1) < cLine; omega) (fun _ _ e => e) (fun h' u tk hk' => ⟨_, _, rfl, fin h' u tk hk'⟩) hz'
  | @tup a xs ds h n t =>
    obtain ⟨as, hr⟩ := Dv.reads I _ (Dv.tup h n t) ru
    cases ru
    obtain ⟨its, rv, ⟨o, ho, hc, m, hdt⟩, _⟩ := I.tuple (X := X) (SqT.of h)
    have hz' : (tupleText (PyData.shownAll ds)).length ≤ sizeLine := hz
    obtain ⟨bs, hb, hk⟩ := DvAll.under I its t rv hs fun x hx => Nat.le_trans (tupleText_mem_le hx) hz'
    have na : a ∉ bs := not_mem_of_deeper hr (Nat.lt_succ_self _) hb
    have hdp' : PyData.depthAll ds + 1 ≤ 60 := hdp
    refine call_repr_slot (by omega) (T := "tuple") ⟨_, ho, hc⟩ F.slot_tuple_repr ?_
    exact call_tuple_reprK (h₀ := s.heap) ho hc hdt na (by simpa using hk) hg1 (fun b _ => Clear.nil b) (by show X.A.units + 1 + (PyData.depthAll ds + 1) < cLine; omega) (fun _ _ e => e) (fun h' u tk hk' => ⟨_, _, rfl, fin h' u tk hk'⟩) hz'
  | @dic a h n =>
    cases ru
    obtain ⟨lo, o, m, h1, h2, h3⟩ := dic_at I h
    refine call_repr_slot (by omega) (T := "dict") ⟨_, h1, h2⟩ F.slot_dict_repr ?_
    exact call_dict_reprK (as := []) (h₀ := s.heap) (d := 0) (ps := []) h1 h2 h3 lo (fun z => nomatch z) .nil hg1 (fun b _ => Clear.nil b) (by show X.A.units + 1 + (0 + 1) < cLine; omega) (fun _ _ e => e) (fun h' u tk hk' => ⟨_, _, rfl, fin h' u tk hk'⟩) hz
end
/-! ### isinstance -/
def tyD : PyData → String
  | .none => "NoneType"
  | .bool _ => "bool"
  | .int _ => "int"
  | .str _ => "str"
  | .list _ => "list"
  | .tuple _ => "tuple"
  | .dict _ => "dict"
def CLS : List String := ["tuple", "list", "str", "int", "bool", "dict"]
def TYS : List String := ["NoneType", "bool", "int", "str", "list", "tuple", "dict"]
def isB (T t : String) : Bool := t == T || (T == "int" && t == "bool")
theorem kit_all (K : PySem.W.Frag) : ∀ T ∈ CLS, ∀ t ∈ TYS, PySem.W.kitOne K (.type t) (.type T) = some (isB T t) := by
  intro T hT t ht
  simp only [CLS, TYS, List.mem_cons, List.not_mem_nil, or_false] at hT ht
  rcases hT with rfl | rfl | rfl | rfl | rfl | rfl <;> rcases ht with rfl | rfl | rfl | rfl | rfl | rfl | rfl <;> rfl
/-- of which built-in class -/
def isA (T : String) (d : PyData) : Bool := isB T (tyD d)
theorem tyD_mem (d : PyData) : tyD d ∈ TYS := by
  cases d <;> simp [tyD, TYS]
section
variable {K : PySem.W.Frag} {S : List Addr} {H : Hp}
theorem Dv.ty {v : V} {d : PyData} (h : Dv S H v d) : TyX K H v (.type (tyD d)) := by
  cases h with
  | non => exact .base .non
  | bl b => exact .base (.bl b)
  | int i => exact .base (.int i)
  | str x => exact .base (.str x)
  | lst h _ _ => exact .base (.lst h)
  | tup h _ _ => exact .base (.tup h)
  | dic h _ => exact .base (.dK h)
/-- isinstance(x, T) -/
theorem Dv.isi {v : V} {d : PyData} {T : String} {Q : VK} (h : Dv S H v d) (hT : T ∈ CLS) (q : Q (.bl (isA T d)) H) : rIsi K [v, .ty T] H Q :=
  ⟨v, .ty T, .type (tyD d), .type T, isA T d, rfl, .ty T, h.ty, kit_all K T hT _ (tyD_mem d), q⟩
theorem Dv.tuple {v : V} {d : PyData} (h : Dv S H v d) (hi : isA "tuple" d = true) : ∃ a xs ds, v = .ref a ∧ d = .tuple ds ∧ H a = some (.tup xs) ∧ a ∉ S ∧ DvAll S H xs ds := by
  cases h with
  | tup h n t => exact ⟨_, _, _, rfl, rfl, h, n, t⟩
  | non => cases hi
  | bl b => cases hi
  | int i => cases hi
  | str x => cases hi
  | lst h n t => cases hi
  | dic h n => cases hi
theorem Dv.text {v : V} {d : PyData} (h : Dv S H v d) (hi : isA "str" d = true) : ∃ x, v = .str x ∧ d = .str x := by
  cases h with
  | str x => exact ⟨x, rfl, rfl⟩
  | non => cases hi
  | bl b => cases hi
  | int i => cases hi
  | lst h n t => cases hi
  | tup h n t => cases hi
  | dic h n => cases hi
theorem Dv.number {v : V} {d : PyData} (h : Dv S H v d) (hi : isA "int" d = true) (hb : isA "bool" d = false) : ∃ x, v = .int x ∧ d = .int x := by
  cases h with
  | int x => exact ⟨x, rfl, rfl⟩
  | bl b => cases hb
  | non => cases hi
  | str x => cases hi
  | lst h n t => cases hi
  | tup h n t => cases hi
  | dic h n => cases hi
end
/-! ### == of a list or a tuple and an empty one -/
section
variable {X : Cx}
def rEqE (K : PySem.W.Frag) (neg : Bool) : R2 := fun x y H Q => ∃ a b xs, x = .ref a ∧ y = .ref b ∧ ((SqL K H a xs ∧ SqL K H b []) ∨ (SqT K H a xs ∧ SqT K H b [])) ∧ Q (.bl (if neg then !xs.isEmpty else xs.isEmpty)) H
theorem op_eqE (hu : X.A.units < cLine) : OpR X (compareOp .Eq) (rEqE X.K false) := by
  intro pins s σ H x y v u Q I rx ry h
  obtain ⟨a, b, xs, rfl, rfl, hab, q⟩ := h
  cases rx
  cases ry
  have q' : Q (.bl xs.isEmpty) H := q
  rcases hab with ⟨ha, hb⟩ | ⟨ha, hb⟩
  · obtain ⟨its, r1, p1, _⟩ := I.list ha
    obtain ⟨its2, r2, p2, _⟩ := I.list hb
    cases r2
    cases r1 with
    | nil => exact SeqAt.eq_listAt (e := fun _ => true) p1.isList p2.isList rfl hu (fun j h1 => absurd h1 (Nat.not_lt_zero _)) ⟨.bl true, H, I, rfl, q'⟩
    | cons a1 a2 => exact SeqAt.eq_list_lengthsAt p1.isList p2.isList rfl hu ⟨.bl false, H, I, rfl, q'⟩
  · obtain ⟨its, r1, p1, _⟩ := I.tuple ha
    obtain ⟨its2, r2, p2, _⟩ := I.tuple hb
    cases r2
    cases r1 with
    | nil => exact SeqAt.eq_tupleAt (e := fun _ => true) p1 p2 hu (fun j h1 => absurd h1 (Nat.not_lt_zero _)) ⟨.bl true, H, I, rfl, q'⟩
    | cons a1 a2 =>
      refine SeqAt.eq_tupleAt (e := fun _ => true) p1 p2 hu (fun j _ h2 => absurd h2 (Nat.not_lt_zero _)) ?_
      exact ⟨.bl false, H, I, by simp [L2.RelV], q'⟩
theorem op_neE (hu : X.A.units < cLine) : OpR X (compareOp .NotEq) (rEqE X.K true) := by
  intro pins s σ H x y v u Q I rx ry h
  obtain ⟨a, b, xs, rfl, rfl, hab, q⟩ := h
  cases rx
  cases ry
  have q' : Q (.bl (!xs.isEmpty)) H := q
  rcases hab with ⟨ha, hb⟩ | ⟨ha, hb⟩
  · obtain ⟨its, r1, p1, _⟩ := I.list ha
    obtain ⟨its2, r2, p2, _⟩ := I.list hb
    cases r2
    cases r1 with
    | nil => exact SeqAt.RcNeAt.lists (e := fun _ => true) p1.isList p2.isList rfl hu (fun j h1 => absurd h1 (Nat.not_lt_zero _)) _ _ _ _ ⟨.bl false, H, I, rfl, q'⟩
    | cons a1 a2 => exact SeqAt.RcNeAt.lists_lengths p1.isList p2.isList rfl hu _ _ _ _ ⟨.bl true, H, I, rfl, q'⟩
  · obtain ⟨its, r1, p1, _⟩ := I.tuple ha
    obtain ⟨its2, r2, p2, _⟩ := I.tuple hb
    cases r2
    cases r1 with
    | nil => exact SeqAt.RcNeAt.tuples (e := fun _ => true) p1 p2 hu (fun j h1 => absurd h1 (Nat.not_lt_zero _)) _ _ _ _ ⟨.bl false, H, I, rfl, q'⟩
    | cons a1 a2 =>
      refine SeqAt.RcNeAt.tuples (e := fun _ => true) p1 p2 hu (fun j _ h2 => absurd h2 (Nat.not_lt_zero _)) _ _ _ _ ?_
      exact ⟨.bl true, H, I, by simp [L2.RelV], q'⟩
end
/-! ### small values -/
mutual
/-- short texts, small numbers, no dict but empty ones -/
def okv : PyData → Bool
  | .none | .bool _ => true
  | .int i => decide (i.natAbs < 10 ^ 40)
  | .str x => PyData.strOk x && decide (x.length ≤ 1000)
  | .list xs | .tuple xs => decide (xs.length ≤ 1000) && okvAll xs
  | .dict kvs => kvs.isEmpty
def okvAll : List PyData → Bool
  | [] => true
  | x :: xs => okv x && okvAll xs
end
theorem okvAll_iff : ∀ {l : List PyData}, okvAll l = true ↔ ∀ d ∈ l, okv d = true
  | [] => by simp [okvAll]
  | x :: l => by
    rw [okvAll, Bool.and_eq_true, okvAll_iff (l := l)]
    simp
mutual
theorem okv_short : ∀ d : PyData, okv d = true → d.leavesShort 44 = true ∧ d.showable = true
  | .none, _ => ⟨rfl, rfl⟩
  | .bool _, _ => ⟨rfl, rfl⟩
  | .int i, h => by
    have h' : i.natAbs < 10 ^ 40 := of_decide_eq_true h
    have q := int_text_length_le10 (k := 40) (by decide) h'
    refine ⟨?_, decide_eq_true (int_log h')⟩
    show decide ((PyData.shown (.int i)).length ≤ 44) = true
    refine decide_eq_true ?_
    show (PySem.Str.ofString (toString i)).length ≤ 44
    rw [PySem.ofString_length]
    omega
  | .str x, h => by
    have h' : (PyData.strOk x && decide (x.length ≤ 1000)) = true := h
    rw [Bool.and_eq_true] at h'
    have h2 : x.cps.all (· < 0x110000) = true := h'.1
    refine ⟨?_, rfl⟩
    show x.cps.toList.all (fun c => decide (c < 16 ^ 8)) = true
    rw [List.all_eq_true]
    intro c hc
    rw [Array.all_eq_true'] at h2
    have q := h2 c (by simpa using hc)
    have q' : c < 0x110000 := by simpa using q
    exact decide_eq_true (Nat.lt_trans q' (by decide))
  | .list xs, h => okvAll_short xs (Bool.and_eq_true_iff.mp h).2
  | .tuple xs, h => okvAll_short xs (Bool.and_eq_true_iff.mp h).2
  | .dict kvs, h => by
    cases kvs with
    | nil => exact ⟨rfl, rfl⟩
    | cons a l => cases h
theorem okvAll_short : ∀ l : List PyData, okvAll l = true → PyData.leavesShortAll 44 l = true ∧ PyData.showableAll l = true
  | [], _ => ⟨rfl, rfl⟩
  | x :: l, h => by
    rw [okvAll, Bool.and_eq_true] at h
    obtain ⟨a1, a2⟩ := okv_short x h.1
    obtain ⟨b1, b2⟩ := okvAll_short l h.2
    refine ⟨?_, ?_⟩
    · show (PyData.leavesShort 44 x && PyData.leavesShortAll 44 l) = true
      rw [a1, b1]; rfl
    · show (PyData.showable x && PyData.showableAll l) = true
      rw [a2, b2]; rfl
end
theorem okv_fits {d : PyData} (h : okv d = true) (hb : d.bulk ≤ 300000) : d.shown.length ≤ sizeLine := by
  have q := PyData.shown_le_bulk 44 (by decide) d (okv_short d h).1
  rw [sizeLine_eq]
  omega
/-! ### t[k:] -/
theorem cut_from (xs : List V) (k : Nat) (h : k ≤ xs.length) : cutV xs (some (k : Int)) none = xs.drop k := by
  unfold cutV
  rw [HT.sIx_none, HT.sIx_nat, Nat.min_eq_left h]
  exact List.take_of_length_le (by rw [List.length_drop]; omega)
theorem cut_to (xs : List V) (k : Nat) (h : k ≤ xs.length) : cutV xs none (some (k : Int)) = xs.take k := by
  unfold cutV
  rw [HT.sIx_none, HT.sIx_nat, Nat.min_eq_left h, Nat.sub_zero, List.drop_zero]
theorem slA_from {K : PySem.W.Frag} {H : Hp} {Q : VK} {a : Addr} {xs : List V} {n : Int} {k : Nat} (hn : n = (k : Int)) (ha : H a = some (.tup xs)) (q : ∀ H' p, Same H H' → H' p = some (.tup (xs.drop k)) → (p = a ∨ H p = none) → Q (.ref p) H') : rSlA K (.ref a) (some n) none H Q := by
  subst hn
  refine ⟨a, xs, rfl, SqT.of ha, fun hw => ?_, fun hw p hp => ?_⟩
  · have h1 := hw.1
    rw [HT.sIx_nat] at h1
    refine q H a (Same.refl H) ?_ (.inl rfl)
    by_cases hk : k = 0
    · subst hk
      exact ha
    · have h0 : xs = [] := List.length_eq_zero_iff.mp (by omega)
      rw [h0] at ha ⊢
      rw [List.drop_nil]
      exact ha
  · refine q _ p (same_new hp) ?_ (.inr hp)
    rw [upd_same]
    by_cases hk : k ≤ xs.length
    · rw [cut_from xs k hk]
    · unfold cutV
      rw [HT.sIx_none, HT.sIx_nat, Nat.min_eq_right (by omega), List.drop_length, List.drop_eq_nil_of_le (by omega), List.take_nil]
/-- all of S are tracked -/
def Trk (S : List Addr) (H : Hp) : Prop := ∀ a ∈ S, H a ≠ none
theorem Trk.same {S : List Addr} {H H' : Hp} (h : Trk S H) (k : Same H H') : Trk S H' := fun a m e => by
  cases q : H a with
  | none => exact h a m q
  | some o =>
    rw [k a o q] at e
    cases e
theorem Trk.out {S : List Addr} {H : Hp} {p : Addr} (h : Trk S H) (n : H p = none) : p ∉ S := fun m => h p m n
mutual
theorem Dv.fresh {S : List Addr} {H : Hp} {p : Addr} (n : H p = none) : ∀ {v : V} {d : PyData}, Dv S H v d → Dv (p :: S) H v d
  | _, _, .non => .non
  | _, _, .bl b => .bl b
  | _, _, .int i => .int i
  | _, _, .str x => .str x
  | _, _, .lst h m t => .lst h (fun q => by
      rcases List.mem_cons.mp q with rfl | q
      · rw [n] at h; cases h
      · exact m q) (DvAll.fresh n t)
  | _, _, .tup h m t => .tup h (fun q => by
      rcases List.mem_cons.mp q with rfl | q
      · rw [n] at h; cases h
      · exact m q) (DvAll.fresh n t)
  | _, _, .dic h m => .dic h (fun q => by
      rcases List.mem_cons.mp q with rfl | q
      · rw [n] at h; cases h
      · exact m q)
theorem DvAll.fresh {S : List Addr} {H : Hp} {p : Addr} (n : H p = none) : ∀ {vs : List V} {ds : List PyData}, DvAll S H vs ds → DvAll (p :: S) H vs ds
  | _, _, .nil => .nil
  | _, _, .cons h t => .cons (Dv.fresh n h) (DvAll.fresh n t)
end
theorem okv_tup {ds : List PyData} (h : okv (.tuple ds) = true) : ds.length ≤ 1000 ∧ ∀ d ∈ ds, okv d = true := by
  obtain ⟨h1, h2⟩ := Bool.and_eq_true_iff.mp h
  exact ⟨of_decide_eq_true h1, okvAll_iff.mp h2⟩
end Zv
set_option Elab.async false
set_option linter.all false
set_option maxRecDepth 100000
set_option maxHeartbeats 4000000
/-! Zs: sets of texts: made by a comprehension, a text added, sorted. A set is told by the list of its members (in some order, none twice). -/
namespace Zs
open PySem PySem.Spec PyProof.Rows L2
/-- the text of a row of a set's table -/
def kS (e : Int × Value) : Str := match e.2 with
  | .str x _ => x
  | _ => Str.empty
def GS (w : World) (e : Int × Value) : Prop := ∃ x t, e.2 = Value.str x t ∧ e.1 = hashStr w x
/-- the set of texts at a, its members -/
structure SS (w : World) (h : Heap) (a : Addr) (L : List Str) : Prop where
  nd : L.Nodup
  sm : L.length < scanBound
  ex : ∃ o es ep t, h.get? a = some o ∧ o.ExactSet ∧ o.data = .set es ep t ∧ (∀ e ∈ es.toList, GS w e) ∧ (es.toList.map kS).Perm L ∧ t.fits es.size = true ∧ Ris t.place.toList ∧ (w.params.followText "set-order" = true ∨ t.led = true)
/-- a member more -/
def ins (x : Str) (L : List Str) : List Str := if x ∈ L then L else L ++ [x]
theorem mem_ins {x y : Str} {L : List Str} : y ∈ ins x L ↔ y ∈ L ∨ y = x := by
  unfold ins
  split
  · rename_i h
    exact ⟨.inl, fun z => z.elim id fun e => e ▸ h⟩
  · rw [List.mem_append, List.mem_singleton]
theorem ins_nodup {x : Str} {L : List Str} (h : L.Nodup) : (ins x L).Nodup := by
  unfold ins
  split
  · exact h
  · rename_i q
    exact List.nodup_append.mpr ⟨h, List.nodup_cons.mpr ⟨List.not_mem_nil, List.nodup_nil⟩, fun a ha b hb e => by
      rw [List.mem_singleton] at hb
      exact q (by rw [← hb, ← e]; exact ha)⟩
theorem ins_len (x : Str) (L : List Str) : (ins x L).length ≤ L.length + 1 := by
  unfold ins
  split
  · exact Nat.le_succ _
  · rw [List.length_append, List.length_singleton]
    exact Nat.le_refl _
section
variable {P : Program} {w : World} {h h' : Heap} {a : Addr} {L : List Str}
theorem SS.at (R : SS w h a L) (k : ∀ o, h.get? a = some o → h'.get? a = some o) : SS w h' a L := by
  obtain ⟨o, es, ep, t, ho, r⟩ := R.ex
  exact ⟨R.nd, R.sm, o, es, ep, t, k o ho, r⟩
theorem gs_elems {l : List (Int × Value)} (g : ∀ e ∈ l, GS w e) : ElemsOf (PySem.strKind P w) l := fun e he => by
  obtain ⟨x, t, h1, h2⟩ := g e he
  exact ⟨⟨x, by rw [h1]; exact strKind_is P w x t, h2⟩, by rw [h1]; rfl⟩
theorem gs_is {e : Int × Value} (g : GS w e) (x : Str) : (PySem.strKind P w).is x e.2 = true ↔ kS e = x := by
  obtain ⟨y, t, h1, _⟩ := g
  unfold kS
  rw [h1]
  show (Value.isStrOf x (.str y t) = true) ↔ y = x
  constructor
  · intro q
    obtain ⟨u, hu⟩ := Value.isStrOf_shape q
    injection hu
  · intro q
    rw [q]
    exact strKind_is P w x t
theorem SS.size {o : Obj} {es : Array (Int × Value)} (p : (es.toList.map kS).Perm L) : es.size = L.length := by
  have q := p.length_eq
  rw [List.length_map, Array.length_toList] at q
  exact q
theorem SS.setOf (R : SS w h a L) : h.SetOf (PySem.strKind P w) a (fun x => decide (x ∈ L)) L.length := by
  obtain ⟨o, es, ep, t, ho, hx, hd, g, p, hf, _⟩ := R.ex
  have hz := SS.size (o := o) p
  refine ⟨o, es, ep, t, ho, hx, hd, gs_elems g, fun x => ?_, by rw [hz]; exact R.sm, hf, hz⟩
  rw [decide_eq_true_eq, ← p.mem_iff, List.mem_map]
  exact ⟨fun ⟨e, he, q⟩ => ⟨e, he, (gs_is (g e he) x).2 q⟩, fun ⟨e, he, q⟩ => ⟨e, he, (gs_is (g e he) x).1 q⟩⟩
end
section
variable {P : Program} {w : World} {A : Around} {E : Value → Shared → Prop} {s : Shared} {a : Addr} {L : List Str}
/-- the rows es1 are stored with the table t2, and laid anew where it is too full -/
theorem stored {g : Bool → Sem Unit} (hg : ∀ (b : Bool) (s₁ : Shared) (Q' : Unit → Shared → Prop), Q' () s₁ → wpAny (model P w) A (g b) Q' E s₁)
    {o : Obj} {es : Array (Int × Value)} {ep : Nat} {t : SetTable} (ho : s.heap.get? a = some o) (hex : o.ExactSet) (hd : o.data = .set es ep t)
    {es1 : Array (Int × Value)} {t2 : SetTable} (g1 : ∀ e ∈ es1.toList, GS w e) (p1 : (es1.toList.map kS).Perm L) (nd : L.Nodup) (sm : L.length < scanBound)
    (hf2 : t2.fits es1.size = true) (hr : Ris t2.place.toList) (hl : w.params.followText "set-order" = true ∨ t2.led = true) {was : Bool} {R : Option Bool → Shared → Prop}
    (hR : ∀ h', Heap.SameBut a s.heap h' → SS w h' a L → R (some true) { s with heap := h' }) :
    wpAny (model P w) A (do
        storeSet a es1 t2
        if (!was && t2.tooFull) = true then do
            g (relayAll t2 es1 (SetTable.grown es1.size)).2.2
            storeSet a (relayAll t2 es1 (SetTable.grown es1.size)).1 (relayAll t2 es1 (SetTable.grown es1.size)).2.1
            pure (some true)
          else pure (some true)) R E s := by
  have hb1 : es1.size < scanBound := by rw [SS.size (o := o) p1]; exact sm
  have at1 := store_at (es' := es1) (t' := t2) ho hd
  have same1 := Heap.SameBut.update s.heap a (Obj.putSet es1 t2)
  refine wpAny_bind (wpAny_storeSet_of ho hd ?_ (fits_of_scanBound hb1))
  by_cases full : (!was && t2.tooFull) = true
  · rw [if_pos full]
    have pm := relayAll_perm t2 es1 (SetTable.grown es1.size)
    have hf3 := relayAll_fits t2 es1 (SetTable.grown es1.size)
    have hr3 := relayAll_ris t2 es1 (SetTable.grown es1.size)
    have hl3 := relayAll_led t2 es1 (SetTable.grown es1.size)
    generalize relayAll t2 es1 (SetTable.grown es1.size) = Z at pm hf3 hr3 hl3 ⊢
    obtain ⟨es2, t3, gave⟩ := Z
    dsimp only at pm hf3 hr3 hl3 ⊢
    have p2 : (es2.toList.map kS).Perm L := (pm.map kS).trans p1
    have hb2 : es2.size < scanBound := by rw [SS.size (o := o) p2]; exact sm
    refine wpAny_bind (hg _ _ _ (wpAny_bind (wpAny_storeSet_of at1 rfl ?_ (fits_of_scanBound hb2))))
    refine wpAny_pure (hR _ (same1.trans (Heap.SameBut.update _ a _)) ⟨nd, sm, _, es2, _, t3, store_at (es' := es2) (t' := t3) at1 rfl, hex, rfl, fun e he => g1 e (pm.mem_iff.mp he), p2, ?_, hr3, hl.imp id fun z => by rw [hl3]; exact z⟩)
    exact hf3
  · rw [if_neg full]
    exact wpAny_pure (hR _ same1 ⟨nd, sm, _, es1, _, t2, at1, hex, rfl, g1, p1, hf2, hr, hl⟩)
theorem add_hashed {x : Str} {tk : Tok} {Q : Bool → Shared → Prop} (R : SS w s.heap a L) (room : L.length + 1 < scanBound)
    (hQ : ∀ b h', Heap.SameBut a s.heap h' → SS w h' a (ins x L) → Q b { s with heap := h' }) :
    wpAny (model P w) A (setAddHashed a (.str x tk) ((PySem.strKind P w).hash x)) Q E s := by
  obtain ⟨nd, sm, o, es, ep, t, ho, hex, hd, g, p, hf, hr, hl⟩ := R
  have hz := SS.size (o := o) p
  have hkey : (PySem.strKind P w).is x (.str x tk) = true := strKind_is P w x tk
  have hsc : (Value.str x tk).scannable = true := rfl
  have hel : ElemsOf (PySem.strKind P w) es.toList := gs_elems g
  have hb : es.size < scanBound := by rw [hz]; exact sm
  unfold setAddHashed setAddHashedIn
  refine wpAny_holding (wpAny_bind (wpAny_setState_of ho hd hf ?_))
  dsimp only
  rw [byScan_of hsc hb hel]
  simp only [↓reduceIte]
  unfold setAddByScan
  refine wpAny_bind (wpAny_bind (wpAny_rule (wpAny_bind (wpAny_setScan_of hkey ho hd hf hel ?_))))
  cases hfi : List.findIdx? (fun e => (PySem.strKind P w).is x e.2) es.toList with
  | some j =>
    dsimp only
    obtain ⟨hj, pj, _⟩ := List.findIdx?_eq_some_iff_getElem.mp hfi
    have hx : x ∈ L := p.mem_iff.mp (List.mem_map.mpr ⟨es.toList[j], List.getElem_mem hj, (gs_is (g _ (List.getElem_mem hj)) x).1 pj⟩)
    refine wpAny_pure (wpAny_pure (hQ _ s.heap (Heap.SameBut.refl a s.heap) ?_))
    have e : ins x L = L := if_pos hx
    rw [e]
    exact ⟨nd, sm, o, es, ep, t, ho, hex, hd, g, p, hf, hr, hl⟩
  | none =>
    dsimp only
    have hx : x ∉ L := fun z => by
      obtain ⟨e, he, q⟩ := List.mem_map.mp (p.mem_iff.mpr z)
      have c := List.findIdx?_eq_none_iff.mp hfi e he
      rw [(gs_is (P := P) (g e he) x).2 q] at c
      cases c
    have eL : ins x L = L ++ [x] := if_neg hx
    have hgw : ∀ (b : Bool) {s₁ : Shared} {Q' : Unit → Shared → Prop}, Q' () s₁ → wpAny (model P w) A (match b with | true => rule "set.scan.the-table-gave-way" | false => pure ()) Q' E s₁ :=
      fun b s₁ Q' q => by cases b <;> first | exact wpAny_pure q | exact wpAny_rule q
    have pm := layNew_perm t es ((PySem.strKind P w).hash x) (.str x tk)
    have hf1 := layNew_fits t es ((PySem.strKind P w).hash x) (.str x tk)
    have hr1 := layNew_ris t es ((PySem.strKind P w).hash x) (.str x tk) hr
    have hl1 := layNew_led t es ((PySem.strKind P w).hash x) (.str x tk)
    generalize layNew t es ((PySem.strKind P w).hash x) (.str x tk) = Z at pm hf1 hr1 hl1 ⊢
    obtain ⟨es1, t1, was, gave⟩ := Z
    dsimp only at pm hf1 hr1 hl1 ⊢
    rw [Array.toList_push] at pm
    have p1 : (es1.toList.map kS).Perm (L ++ [x]) := by
      have q := pm.map kS
      rw [List.map_append] at q
      exact q.trans (p.append_right [x])
    have g1 : ∀ e ∈ es1.toList, GS w e := fun e he => by
      rcases List.mem_append.mp (pm.mem_iff.mp he) with z | z
      · exact g e z
      · rw [List.mem_singleton] at z
        rw [z]
        exact ⟨x, tk, rfl, rfl⟩
    have nd1 : (L ++ [x]).Nodup := by rw [← eL]; exact ins_nodup nd
    have sm1 : (L ++ [x]).length < scanBound := by rw [List.length_append, List.length_singleton]; exact room
    have hled : w.params.followText "set-order" = true ∨ t1.led = true := hl.imp id fun z => by rw [hl1]; exact z
    have fin : ∀ h', Heap.SameBut a s.heap h' → SS w h' a (L ++ [x]) → Q true { s with heap := h' } := fun h' sb r => hQ true h' sb (by rw [eL]; exact r)
    refine wpAny_bind (hgw _ ?_)
    split
    · refine wpAny_bind ?_
      rw [hashByValue_scannable 8 hsc]
      refine wpAny_pure ?_
      refine stored ?_ ho hex hd g1 p1 nd1 sm1 ?_ ?_ ?_ ?_
      · intro b s₁ Q' q; cases b <;> first | exact wpAny_pure q | exact wpAny_rule q
      · first | (split <;> first | exact hf1 | exact SetTable.fits_plain_off hf1) | exact hf1
      · first | (split <;> exact hr1) | exact hr1
      · first | (split <;> exact hled) | exact hled
      · intro h' sb r; dsimp only; exact wpAny_pure (fin h' sb r)
    · refine wpAny_bind (wpAny_pure ?_)
      simp only [↓reduceIte]
      refine stored ?_ ho hex hd g1 p1 nd1 sm1 hf1 hr1 hled ?_
      · intro b s₁ Q' q; cases b <;> first | exact wpAny_pure q | exact wpAny_rule q
      · intro h' sb r; dsimp only; exact wpAny_pure (fin h' sb r)
theorem add_ok {x : Str} {tk : Tok} {Q : Value → Shared → Prop} (R : SS w s.heap a L) (room : L.length + 1 < scanBound)
    (hQ : ∀ h', Heap.SameBut a s.heap h' → SS w h' a (ins x L) → Q .none { s with heap := h', toks := s.toks + 1 }) :
    wpAny (model P w) A (call (.builtin "set.add") [.ref a, .str x tk]) Q E s := by
  have hS : s.heap.SetOf (PySem.strKind P w) a _ _ := R.setOf
  refine wpAny_call_entry F.slot_set_add hS.typeIs F.entry_set_add ?_ (F.args_set_add_2 _ _)
  unfold Builtin.«set.add» Builtin.Frozenset.oneOther
  simp only [List.isEmpty_nil, bind_assoc]
  unfold Builtin.Frozenset.addrOf setAdd
  refine wpAny_bind (wpAny_pure ?_)
  try dsimp only
  refine wpAny_bind (wpAny_pure ?_)
  try dsimp only
  refine wpAny_bind (wpAny_holding (wpAny_bind ((PySem.strKind P w).pyHash (strKind_is P w x tk) ?_)))
  refine add_hashed (s := { s with toks := s.toks + 1 }) R room fun b h' sb r => ?_
  show wpAny _ _ (ret Value.none) _ _ _
  exact wpAny_pure ⟨_, rfl, hQ h' sb r⟩
theorem fresh {h : Heap} (w : World) : SS w (h.push { cls := .type "set", dict := none, data := .set #[] 0 (.fresh 0 0 (!w.params.followText "set-order")) }) h.objs.size [] :=
  ⟨List.nodup_nil, by decide, _, #[], 0, _, Heap.get?_push_size _ rfl, ⟨rfl, rfl, rfl⟩, rfl, (fun e he => by simp at he), List.Perm.refl _, by rfl, List.Pairwise.nil, by
    show _ ∨ (!w.params.followText "set-order") = true
    cases w.params.followText "set-order"
    · exact .inr rfl
    · exact .inl rfl⟩
theorem strsAre_of : ∀ (vs : List Value), (∀ v ∈ vs, ∃ x t, v = Value.str x t) → StrsAre vs (vs.map fun v => kS (0, v))
  | [], _ => .nil
  | v :: l, h => by
    obtain ⟨x, t, rfl⟩ := h v List.mem_cons_self
    exact .cons x t (strsAre_of l fun u hu => h u (List.mem_cons_of_mem _ hu))
theorem sorted_ok {Q : Value → Shared → Prop} (R : SS w s.heap a L) (hh : A.handled = none) (h64 : L.length < 64)
    (hQ : ∀ s' p (out : Array Value) (c : Nat) (ys : List Str), (∀ b o, s.heap.get? b = some o → s'.heap.get? b = some o) → s'.gens = s.gens → s'.os = s.os → s.heap.objs.size ≤ p →
      s'.heap.get? p = some (seqObj "list" out c) → StrsAre out.toList ys → ys.Perm L → sortedS ys = true → Q (.ref p) s') :
    wpAny (model P w) A (call (.builtin "sorted") [.ref a]) Q E s := by
  obtain ⟨nd, sm, o, es, ep, t, ho, hex, hd, g, pL, hf, hr, hl⟩ := R
  have hz := SS.size (o := o) pL
  have hb : es.size < scanBound := by rw [hz]; exact sm
  refine Calls.call_function_entry kind_sorted plain_sorted entry_sorted (args_sorted1 _) ?_
  unfold Builtin.«sorted»
  refine wpAny_bind (m := checkCount "sorted" 1 1 _) (wpAny_pure ?_)
  refine wpAny_bind (collect_set (A := A.in1) hh ⟨o, ho, hex.1, hd⟩ hf hb hr hl fun s1 vs k1 hz1 g1 o1 pm => ?_)
  have hvl : vs.length = L.length := by rw [pm.length_eq, List.length_map, Array.length_toList]; exact hz
  have hS : StrsAre vs (vs.map fun v => kS (0, v)) := strsAre_of vs fun v hv => by
    obtain ⟨e, he, q⟩ := List.mem_map.mp (pm.mem_iff.mp hv)
    obtain ⟨x, tk, h1, _⟩ := g e he
    exact ⟨x, tk, by rw [← q]; exact h1⟩
  have pk : (vs.map fun v => kS (0, v)).Perm L := by
    have q := pm.map fun v => kS (0, v)
    rw [List.map_map] at q
    exact q.trans pL
  refine wpAny_bind (wpAny_newList ?_ (by rw [hvl, sizeLine_eq]; omega))
  have hoL : (s1.heap.push (seqObj "list" vs.toArray 0)).get? s1.heap.objs.size = some (seqObj "list" vs.toArray 0) := Heap.get?_push_size _ rfl
  refine wpAny_bind (wpAny_holding (wpAny_call_entry slot_list_sort ⟨_, hoL, rfl⟩ entry_list_sort
    (list_sort_treeK strKind_oneLt hoL hS.keysOf (fun v₁ v₂ rest e => keyKind_strs (by rw [← e]; exact hS)) (by rw [hvl]; exact h64) fun st' hp hs => ⟨_, rfl, ?_⟩) (args_list_sort _)))
  obtain ⟨ys, a1, a2, a3⟩ := sorted_out_str hS hp hs
  obtain ⟨c, hc⟩ := sortedHeap_at (vs := vs) (out := (arrOf st').map (·.2)) hoL
  refine wpAny_pure ⟨_, rfl, hQ _ s1.heap.objs.size _ c ys (fun b u e => ?_) g1 o1 hz1 hc a1 (a2.trans pk) a3⟩
  have q := k1 b u e
  have hlt := Heap.lt_size q
  show (sortedHeap (s1.heap.push (seqObj "list" vs.toArray 0)) s1.heap.objs.size vs _).get? b = some u
  rw [sortedHeap_old (Nat.ne_of_lt hlt) (by rw [size_push']; exact Nat.lt_succ_of_lt hlt)]
  exact Heap.get?_push_of_some _ q
end
/-! ### over the layer -/
/-- the set of texts at a -/
def SSO (w : World) (a : Addr) (L : List Str) : HO := .ext fun h => SS w h a L
theorem sso_new {w : World} {P : Program} {H : Hp} {h : Heap} {a : Addr} {L : List Str} (R : SS w h a L) : ObjOk P w H h a (SSO w a L) := by
  obtain ⟨o, es, ep, t, ho, _⟩ := R.ex
  exact ⟨R, ⟨o, ho⟩, fun h1 h2 p k => SS.at p k⟩
section
variable {X : Cx}
theorem sso_get {pins : List (Addr × Obj)} {σ : L2.St} {H : Hp} {s : Shared} {a : Addr} {L : List Str} (I : Inv X pins σ H s) (ha : H a = some (SSO X.w a L)) : SS X.w s.heap a L := (I.hok a _ ha).1
theorem addS {pins : List (Addr × Obj)} {σ : L2.St} {H : Hp} {s : Shared} {E : Value → Shared → Prop} {D : Addr} {L : List Str} {x : Str} {tk : Tok} {Q : Value → Shared → Prop} (I : Inv X pins σ H s) (hD : H D = some (SSO X.w D L)) (room : L.length + 1 < scanBound)
    (h : ∀ s', Inv X pins σ (upd H D (SSO X.w D (ins x L))) s' → Q .none s') : wpAny (model X.prog X.w) X.A (call (.builtin "set.add") [.ref D, .str x tk]) Q E s := by
  refine add_ok (sso_get I hD) room fun h' sb new => ?_
  have he : ∃ u, h'.get? D = some u := by
    obtain ⟨o, es, ep, t, ho, _⟩ := new.ex
    exact ⟨o, ho⟩
  exact h _ (I.write (e := D) (t' := s.toks + 1) (by rw [hD]; trivial) (.inl rfl) (fun b u hb hu => (sb.2 b hb).trans hu) he (sso_new new))
/-- sorted(a set of texts), fewer than 64 -/
def rSortedSS (w : World) : List V → Hp → VK → Prop := fun vs H Q => ∃ (a : Addr) (L : List Str), vs = [V.ref a] ∧ H a = some (SSO w a L) ∧ L.length < 64 ∧
  ∀ (ys : List Str) (p : Addr), ys.Perm L → sortedS ys = true → H p = none → Q (.ref p) (upd H p (.lst (ys.map V.str)))
theorem cr_sortedSS (hc : X.calm = true) : CallR X (.builtin "sorted") (rSortedSS X.w) := by
  intro pins s σ H vs us Q I r h
  obtain ⟨a, L, rfl, ha, h64, q⟩ := h
  rw [Vals.ref1 r]
  refine sorted_ok (sso_get I ha) (I.ok.hd hc) h64 fun s' p out c ys k g o hp hg hi pm hs => ?_
  have hlen : (ys.map V.str).length ≤ sizeLine := by rw [List.length_map, pm.length_eq]; exact small64 h64
  have hn : H p = none := I.hok.fresh hp
  have J : Inv X pins σ (upd H p (.lst (ys.map V.str))) { s with heap := s'.heap, gens := s'.gens, drawn := s'.drawn, toks := s'.toks } :=
    I.call (ch := []) (Un.laid k hp hn) (I.hok.laid k hp ⟨hlen, out.toList, c, vals_of_strs hi, hg⟩) (by rw [g]; exact I.bare) (fun _ z => nomatch z)
  have e : s' = { s with heap := s'.heap, gens := s'.gens, drawn := s'.drawn, toks := s'.toks } := by
    cases s'
    cases s
    cases o
    rfl
  rw [e]
  exact ⟨.ref p, _, J, rfl, q ys p pm hs hn⟩
end
section
variable {X : Cx}
/-- {elt for target in iter if ..}, elt a text: D the new set -/
def tSS (w : World) (wi : TI) (g : TG) (tt : TT) (te : TE) (vs : List Nat) : TE := fun σ H Q => wi σ H fun J H1 => ∀ D, H1 D = none → ∃ W : Nat → Nat → Hp → Prop, (∃ m, W 0 m (upd H1 D (SSO w D []))) ∧ ∀ i m H, W i m H →
  (J.stop i H ∧ Q (.ref D) H) ∨ (J.go i H ∧ ∃ Nx : Hp → Prop, (∀ H', Nx H' → ∃ m', m' < m ∧ W (i + 1) m' H') ∧ ∀ x H', J.yld i H x H' → g x (wipe σ vs) H' fun σ2 H2 => wipe σ2 vs = wipe σ vs ∧ tt σ2 H2 fun b H3 =>
    if b = true then te σ2 H3 fun y H4 => ∃ (c : Str) (L : List Str), y = .str c ∧ H4 D = some (SSO w D L) ∧ L.length + 1 < scanBound ∧ Nx (upd H4 D (SSO w D (ins c L))) else Nx H3)
theorem pe_ss {elt tg iter : Expr} {ifs : List Expr} {scope : Scope} {own : List (PySem.Str × Nat)} {pos : Pos} {wi : TI} {g : TG} {tt : TT} {te : TE} (hc : X.calm = true) (hN : X.N.Nodup) (hi : PI X tg iter wi) (ok : BlkOk X.N X.env.scope scope own)
    (hg : ∀ (s : Shared) (H : Hp) (C : Addr) (cl : List (PySem.Str × Addr)) (fp : List Addr), PG (X.blk s H scope (compEnvC scope cl C X.env) fp) tg g) (ht : ∀ (s : Shared) (H : Hp) (C : Addr) (cl : List (PySem.Str × Addr)) (fp : List Addr), PTs (X.blk s H scope (compEnvC scope cl C X.env) fp) ifs tt)
    (he : ∀ (s : Shared) (H : Hp) (C : Addr) (cl : List (PySem.Str × Addr)) (fp : List Addr), PE (X.blk s H scope (compEnvC scope cl C X.env) fp) elt te) (hs : ∀ x, foldedSetIterable iter X.env x = pure x := by intro _; rfl) :
    PE X (.SetComp elt [⟨tg, iter, ifs, 0⟩] scope pos) (tSS X.w wi g tt te (own.map (·.2))) := by
  refine ⟨fun pins s σ H Q I h => ?_⟩
  rw [PpSet.eval_SetComp]
  have known : ∀ y ∈ scope.names, y.2 = .free → ∃ c, X.env.cells.lookup y.1 = some c := fun y hy e => (ok.free y hy e).elim (fun k => I.ok.has _ (.inl k)) fun k => I.ok.has _ (.inr k)
  refine wpAny_comprehension_free (use := none) rfl hs (closure_ok known) ok.kind (fun y hy e => by rw [ok.uniq y hy, e])
    (thn (hi.run pins s σ H _ I h) fun xv s1 hx => thn hx fun itv s2 h2 => ?_)
  obtain ⟨it, fp, tn, J, H2, e, I2, T, st2, f2, q⟩ := h2
  subst e
  refine PpSet.newSet_ok (newEnv_comp ?_)
  generalize hD : s2.heap.objs.size = D
  obtain ⟨W, ⟨m0, w0⟩, turn⟩ := q D (I2.hok.fresh (Nat.le_of_eq hD))
  generalize hs3 : ({ s2 with heap := s2.heap.push { cls := .type "set", dict := none, data := .set #[] 0 (.fresh 0 0 (!X.w.params.followText "set-order")) } } : Shared) = s3
  have h3 : s3.heap = s2.heap.push { cls := .type "set", dict := none, data := .set #[] 0 (.fresh 0 0 (!X.w.params.followText "set-order")) } := by rw [← hs3]
  have I3 : Inv X pins σ (upd H2 D (SSO X.w D [])) s3 := by
    rw [← hs3]
    refine I2.laid (t' := s2.toks) (fun b o e => Heap.get?_push_of_some _ e) (Nat.le_of_eq hD) ?_
    rw [← hD]
    exact sso_new (fresh X.w)
  have older : ∀ b ∈ fp, b < s2.heap.objs.size := fun b hb => by
    obtain ⟨o, e, _⟩ := T.obj _ _ st2 b hb
    exact Heap.lt_size e
  have f3 : ∀ b ∈ fp, FpOk X pins (upd H2 D (SSO X.w D [])) b ∧ b < s3.heap.objs.size := fun b hb => by
    have hlt := older b hb
    refine ⟨⟨?_, (f2 b hb).2⟩, by rw [h3, Heap.size_push]; exact Nat.lt_succ_of_lt hlt⟩
    rw [upd_ne (by rw [← hD]; exact Nat.ne_of_lt hlt)]
    exact (f2 b hb).1
  have st3 : tn 0 s3.heap := T.keep _ _ _ st2 fun b _ o e => by rw [h3]; exact Heap.get?_push_of_some _ e
  have I4 := block_start I3 ok hN f3
  have pg := hg s3 (upd H2 D (SSO X.w D [])) s3.heap.objs.size (cellsFrom (s3.heap.objs.size + 1) scope.names (cloFrom X.env.cells scope.names [])) fp
  have pt := ht s3 (upd H2 D (SSO X.w D [])) s3.heap.objs.size (cellsFrom (s3.heap.objs.size + 1) scope.names (cloFrom X.env.cells scope.names [])) fp
  have pe := he s3 (upd H2 D (SSO X.w D [])) s3.heap.objs.size (cellsFrom (s3.heap.objs.size + 1) scope.names (cloFrom X.env.cells scope.names [])) fp
  have nfp : ∀ b ∈ fp, (upd H2 D (SSO X.w D [])) b = none := fun b hb => (f3 b hb).1.1
  show codeAny _ _ (.compStart (.SetComp elt [⟨tg, iter, ifs, 0⟩] scope pos) 0 (.ref it) (.ref D) (compEnvC scope (cellsFrom (s3.heap.objs.size + 1) scope.names (cloFrom X.env.cells scope.names [])) s3.heap.objs.size X.env)) (compPost (model X.prog X.w) X.A X.xe none _ (.ref D) s3.heap.objs.size) { s3 with heap := pushCells (s3.heap.push { cls := .type "dict", data := .dict #[] }) scope.names }
  generalize hce : compEnvC scope (cellsFrom (s3.heap.objs.size + 1) scope.names (cloFrom X.env.cells scope.names [])) s3.heap.objs.size X.env = ce at I4 pg pt pe ⊢
  have cL : ce.locals = s3.heap.objs.size := by subst hce; rfl
  generalize hH3 : upd H2 D (SSO X.w D []) = H3 at I3 I4 pg pt pe w0 nfp f3
  generalize hs4 : ({ s3 with heap := pushCells (s3.heap.push { cls := .type "dict", data := .dict #[] }) scope.names } : Shared) = s4 at I4 ⊢
  have st4 : tn 0 s4.heap := T.keep _ _ _ st3 fun b _ o e => by rw [← hs4]; exact pushCells_keeps _ _ _ _ (Heap.get?_push_of_some _ e)
  have stat : ∀ {σ' : L2.St} {H' : Hp} {s' : Shared}, Inv (X.blk s3 H3 scope ce fp) [] σ' H' s' → (∀ b ∈ fp, H' b = none) → ∀ b ∈ fp, FpOk (X.blk s3 H3 scope ce fp) [] H' b := fun {σ' H' s'} I' hn b hb =>
    ⟨hn b hb, (I'.ok.exf b hb).1, I'.ok.exfs b hb, .inl hb, fun x c e => (I'.ok.exf b hb).2 x c e, fun p hp => absurd (show p ∈ ([] : List (Addr × Obj)) ++ [] from hp) (by simp)⟩
  have loop : codeAny (model X.prog X.w) X.A (.compLoop (.SetComp elt [⟨tg, iter, ifs, 0⟩] scope pos) 0 (.ref it) (.ref D) ce) (compPost (model X.prog X.w) X.A X.xe none (EP X pins σ Q) (.ref D) s3.heap.objs.size) s4 := by
    refine PpSet.compLoopS_any (fun n s' => ∃ i H', Inv (X.blk s3 H3 scope ce fp) [] (wipe σ (own.map (·.2))) H' s' ∧ tn i s'.heap ∧ (∀ b ∈ fp, H' b = none) ∧ W i n H') ?_ m0 ⟨0, H3, I4, st4, nfp, w0⟩
    rintro n s5 ⟨i, H5, I5, st5, n5, w5⟩
    rcases turn i n H5 w5 with ⟨stop, qq⟩ | ⟨go, Nx, hNx, step⟩
    · refine thnF (T.done (X.blk s3 H3 scope ce fp) rfl rfl rfl hc i [] s5 _ H5 (fun _ _ => False) I5 (stat I5 n5) st5 stop) fun r s6 ⟨hr, I6⟩ => ?_
      subst hr
      have I7 : Inv X pins σ H5 s6 := I3.call' (ch := fp) I6.os I6.base I6.hok I6.bare fun b hb => ⟨(f3 b hb).1.2.2.2.1, (f3 b hb).1.2.1, (f3 b hb).1.2.2.2.2.1, (f3 b hb).1.2.2.2.2.2⟩
      have nC : H5 s3.heap.objs.size = none := by
        have z : H5 ce.locals = none := I6.free
        rw [cL] at z
        exact z
      obtain ⟨m, hn, _⟩ := I6.loc
      have hn : s6.heap.Ns ce.locals m := hn
      rw [cL] at hn
      refine ⟨m, hn, fun h'' sb => ?_⟩
      obtain ⟨u0, u1, u2, u3, u4, u5⟩ := I3.fpOk (Nat.le_refl _) nC
      exact ⟨.ref D, H5, I7.turned (t' := s6.toks) (fun b o hb e => (sb.2 b hb).trans e) u0 u1 u3 u4 u5, rfl, qq⟩
    · refine thnF (T.item (X.blk s3 H3 scope ce fp) rfl rfl rfl hc i [] s5 _ H5 (fun _ _ => False) I5 (stat I5 n5) st5 go) fun r s6 ⟨u, hr, h6⟩ => ?_
      subst hr
      refine thnF h6 fun _ s7 ⟨x, H7, I7, r7, y7, st7, n7⟩ => ?_
      refine thnF (pg.run _ s7 _ H7 x u _ (I7.pinned (stat I7 n7) (T.obj _ _ st7)) r7 (step x H7 y7)) fun _ s8 ⟨σ8, H8, I8, hw8, q8⟩ => ?_
      refine thnF (pt.run _ s8 σ8 H8 _ I8 q8) fun b s9 ⟨H9, I9, q9⟩ => ?_
      have fin : ∀ {s' : Shared} {H' : Hp}, Inv (X.blk s3 H3 scope ce fp) ([] ++ pinsAt fp s7.heap) σ8 H' s' → Nx H' → ∃ m, m < n ∧ ∃ i H', Inv (X.blk s3 H3 scope ce fp) [] (wipe σ (own.map (·.2))) H' s' ∧ tn i s'.heap ∧ (∀ b ∈ fp, H' b = none) ∧ W i m H' := fun {s' H'} I' nx => by
        obtain ⟨m', hm, w'⟩ := hNx H' nx
        have held : ∀ b ∈ fp, ∀ o, s7.heap.get? b = some o → s'.heap.get? b = some o ∧ H' b = none := fun b hb o e =>
          let z := I'.pin (b, o) (List.mem_append_right _ (List.mem_append_right _ (mem_pinsAt hb e)))
          ⟨z.1, z.2.1⟩
        have hl : (wipe σ (own.map (·.2))).length = σ8.length := by rw [← hw8, wipe_length]
        refine ⟨m', hm, i + 1, H', (I'.unpinned (pins := [])).weak hl (fun j v e => ?_), T.keep _ _ _ st7 fun b hb o e => (held b hb o e).1, fun b hb => ?_, w'⟩
        · rw [← hw8] at e
          exact (wipe_some e).1
        · obtain ⟨o, e, _⟩ := T.obj _ _ st7 b hb
          exact (held b hb o e).2
      cases b with
      | false =>
        simp only [Bool.false_eq_true, if_false] at q9 ⊢
        exact fin I9 q9
      | true =>
        simp only [if_true] at q9 ⊢
        refine thnF (pe.run _ s9 σ8 H9 _ I9 q9) fun z s10 ⟨yv, H10, I10, r10, cb, S0, ey, hD10, hz10, nx⟩ => ?_
        subst ey
        obtain ⟨tk, rfl⟩ := (show ∃ t, z = Value.str cb t from r10)
        exact addS (X := X.blk s3 H3 scope ce fp) I10 hD10 hz10 fun s11 I11 => fin I11 nx
  exact PpSet.codeAny_compStart_set loop (T.self X.A 0 _ _ _ st4 loop)
end
/-- over a list that the block leaves as it is -/
theorem ss_list {K : PySem.W.Frag} {w : World} {a : Addr} {xs : List V} {g : TG} {tt : TT} {te : TE} {vs : List Nat} {σ : L2.St} {H1 : Hp} {D : Addr} {Qd : Hp → Prop} (Pv : Nat → Hp → Prop) (h0 : Pv 0 (upd H1 D (SSO w D []))) (hl : ∀ i H, i ≤ xs.length → Pv i H → SqL K H a xs)
    (hs : ∀ i x H, xs[i]? = some x → Pv i H → g x (wipe σ vs) H fun σ2 H2 => wipe σ2 vs = wipe σ vs ∧ tt σ2 H2 fun b H3 =>
      if b = true then te σ2 H3 fun y H4 => ∃ (c : Str) (L : List Str), y = .str c ∧ H4 D = some (SSO w D L) ∧ L.length + 1 < scanBound ∧ Pv (i + 1) (upd H4 D (SSO w D (ins c L))) else Pv (i + 1) H3) (hd : ∀ H, Pv xs.length H → Qd H) :
    ∃ W : Nat → Nat → Hp → Prop, (∃ m, W 0 m (upd H1 D (SSO w D []))) ∧ ∀ i m H, W i m H →
      ((Itl K a).stop i H ∧ Qd H) ∨ ((Itl K a).go i H ∧ ∃ Nx : Hp → Prop, (∀ H', Nx H' → ∃ m', m' < m ∧ W (i + 1) m' H') ∧ ∀ x H', (Itl K a).yld i H x H' → g x (wipe σ vs) H' fun σ2 H2 => wipe σ2 vs = wipe σ vs ∧ tt σ2 H2 fun b H3 =>
        if b = true then te σ2 H3 fun y H4 => ∃ (c : Str) (L : List Str), y = .str c ∧ H4 D = some (SSO w D L) ∧ L.length + 1 < scanBound ∧ Nx (upd H4 D (SSO w D (ins c L))) else Nx H3) := by
  refine ⟨fun i m H => m = xs.length - i ∧ i ≤ xs.length ∧ Pv i H, ⟨xs.length, by simp, Nat.zero_le _, h0⟩, ?_⟩
  rintro i m H ⟨rfl, hi, p⟩
  have q := hl i H hi p
  by_cases hlt : i < xs.length
  · refine .inr ⟨⟨xs, xs[i], q, by simp [hlt]⟩, Pv (i + 1), fun H' p' => ⟨xs.length - (i + 1), by omega, rfl, hlt, p'⟩, fun x H' y => ?_⟩
    obtain ⟨e, y⟩ := y
    subst e
    exact hs i x _ (y xs q) p
  · have e : i = xs.length := by omega
    subst e
    exact .inl ⟨⟨xs, q, Nat.le_refl _⟩, hd H p⟩
end Zs
set_option Elab.async false
set_option linter.all false
set_option maxRecDepth 100000
set_option maxHeartbeats 4000000
/-! Zq: len(set(a list of texts)), of any number of texts. -/
namespace Zq
open PySem PySem.Spec PyProof.Rows L2 Zs
/-- the texts as they come, each once -/
def insAll (xs : List Str) : List Str := xs.foldl (fun L x => ins x L) []
theorem insAll_snoc (xs : List Str) (x : Str) : insAll (xs ++ [x]) = ins x (insAll xs) := by
  unfold insAll
  rw [List.foldl_append]
  rfl
theorem fold_len : ∀ (xs L : List Str), (xs.foldl (fun L x => ins x L) L).length ≤ L.length + xs.length
  | [], _ => Nat.le_refl _
  | x :: xs, L => by
    have h1 := fold_len xs (ins x L)
    have h2 := ins_len x L
    rw [List.foldl_cons, List.length_cons]
    omega
theorem insAll_len (xs : List Str) : (insAll xs).length ≤ xs.length := by
  have := fold_len xs []
  unfold insAll
  simpa using this
theorem fold_mem : ∀ (xs L : List Str) (y : Str), y ∈ xs.foldl (fun L x => ins x L) L ↔ y ∈ L ∨ y ∈ xs
  | [], L, y => by simp
  | x :: xs, L, y => by
    rw [List.foldl_cons, fold_mem xs (ins x L) y, mem_ins, List.mem_cons]
    constructor
    · rintro ((h | h) | h)
      · exact .inl h
      · exact .inr (.inl h)
      · exact .inr (.inr h)
    · rintro (h | h | h)
      · exact .inl (.inl h)
      · exact .inl (.inr h)
      · exact .inr h
theorem fold_nodup : ∀ (xs L : List Str), L.Nodup → (xs.foldl (fun L x => ins x L) L).Nodup
  | [], _, h => h
  | x :: xs, L, h => fold_nodup xs (ins x L) (ins_nodup h)
/-- as many as there are: none stands twice -/
theorem fold_all : ∀ (xs L : List Str), L.Nodup → ((xs.foldl (fun L x => ins x L) L).length = L.length + xs.length ↔ (L ++ xs).Nodup)
  | [], L, h => by simpa using h
  | x :: xs, L, h => by
    rw [List.foldl_cons, List.length_cons]
    by_cases hx : x ∈ L
    · have e : ins x L = L := if_pos hx
      rw [e]
      have h1 := fold_len xs L
      constructor
      · intro q; omega
      · intro q
        exact absurd rfl ((List.nodup_append.mp q).2.2 x hx x List.mem_cons_self)
    · have e : ins x L = L ++ [x] := if_neg hx
      rw [e]
      have hn : (L ++ [x]).Nodup := by rw [← e]; exact ins_nodup h
      have q := fold_all xs (L ++ [x]) hn
      rw [List.length_append, List.length_singleton, List.append_assoc] at q
      rw [show L.length + (xs.length + 1) = L.length + 1 + xs.length by omega]
      exact q
theorem insAll_all (xs : List Str) : (insAll xs).length = xs.length ↔ xs.Nodup := by
  have q := fold_all xs [] List.nodup_nil
  unfold insAll
  simpa using q
theorem strAt : ∀ {us : List Value} {xs : List Str}, StrsAre us xs → ∀ (i : Nat) (v : Value), us[i]? = some v → ∃ x t, xs[i]? = some x ∧ v = .str x t
  | _, _, .nil, i, v, h => by cases h
  | _, _, .cons n t hr, 0, v, h => ⟨n, t, rfl, by cases h; rfl⟩
  | _, _, .cons n t hr, i + 1, v, h => strAt hr i v h
/-- a set of just these texts -/
def Has (P : Program) (w : World) (h : Heap) (a : Addr) (L : List Str) : Prop := h.SetOf (PySem.strKind P w) a (fun k => decide (k ∈ L)) L.length
theorem Has.at {P : Program} {w : World} {h h' : Heap} {a : Addr} {L : List Str} (x : Has P w h a L) (k : ∀ o, h.get? a = some o → h'.get? a = some o) : Has P w h' a L := by
  obtain ⟨o, es, ep, t, ho, r⟩ := x
  exact ⟨o, es, ep, t, k o ho, r⟩
section
variable {P : Program} {w : World} {A : Around} {R : Result → Shared → Prop} {I : Addr} {fp wr : List Addr} {G : Array GenState → Array GenState → Prop} {n : Nat} {PV : Nat → Value → Prop} {St : Nat → Shared → Prop}
/-- the loop that fills the set at S -/
theorem fill (W : WalksS P w A.in1 I fp wr G n PV St) (S : Addr) (hS : S ∉ fp) (xs : List Str) (hn : xs.length = n) (hb : n + 1 < scanBound) (hv : ∀ i v, PV i v → ∃ x t, xs[i]? = some x ∧ v = .str x t) :
    ∀ (m i : Nat) (s : Shared), n - i = m → i ≤ n → St i s → Has P w s.heap S (insAll (xs.take i)) →
      (∀ s', Moved (S :: wr) G s s' → Has P w s'.heap S (insAll xs) → R (.ok (.ret .none)) s') →
      codeAny (model P w) A (.builtin "set.update.loop" ⟨[.ref S, .ref I], []⟩) R s := by
  have nw : S ∉ wr := fun q => hS (W.sub _ q)
  have up : ∀ b ∈ wr, b ∈ S :: wr := fun b q => List.mem_cons_of_mem _ q
  intro m
  induction m with
  | zero =>
    intro i s e hi st x q
    obtain rfl : i = n := by omega
    refine codeAny_builtin PyProof.Rows.F.entry_set_update_loop ?_
    rw [Around.under_plainId PyProof.Rows.F.plain_set_update_loop _]
    refine wpAny_bind (m := pyNext (.ref I)) (W.done s _ _ st fun s' mv => ?_)
    refine wpAny_pure (q s' (mv.mono up) ?_)
    rw [← hn, List.take_length] at x
    exact x.at fun o => mv.heap S o nw
  | succ m ih =>
    intro i s e hi st x q
    have lt : i < n := by omega
    refine codeAny_builtin PyProof.Rows.F.entry_set_update_loop ?_
    rw [Around.under_plainId PyProof.Rows.F.plain_set_update_loop _]
    refine wpAny_bind (m := pyNext (.ref I)) (W.item i s _ _ lt st fun v s' pv st' mv => ?_)
    obtain ⟨y, t, hy, rfl⟩ := hv i v pv
    have x' : Has P w s'.heap S (insAll (xs.take i)) := x.at fun o => mv.heap S o nw
    have few : (insAll (xs.take i)).length ≤ i := Nat.le_trans (insAll_len _) (by rw [List.length_take]; omega)
    refine wpAny_bind (m := holding [Value.str y t] (setAdd S (.str y t))) (wpAny_holding ?_)
    unfold setAdd
    refine wpAny_holding (wpAny_bind ((PySem.strKind P w).pyHash (k := y) (strKind_is _ _ _ _) ?_))
    refine wpAny_setAddHashed_of (knd := PySem.strKind P w) (s := { s' with toks := s'.toks + 1 }) (strKind_is _ _ _ _) rfl x' (by omega) fun h' sb x2 => ?_
    have x3 : Has P w h' S (insAll (xs.take (i + 1))) := by
      rw [List.take_succ, hy]
      show Has P w h' S (insAll (xs.take i ++ [y]))
      rw [insAll_snoc]
      refine PyProof.Rows.SetOf_congr x2 (fun k => ?_) ?_
      · rw [← Bool.decide_or]
        exact decide_eq_decide.mpr mem_ins.symm
      · unfold ins
        by_cases hm : y ∈ insAll (xs.take i)
        · rw [if_pos hm, if_pos (decide_eq_true hm)]
        · rw [if_neg hm, if_neg (fun z => hm (of_decide_eq_true z)), List.length_append, List.length_singleton]
    refine wpAny_pure ⟨plainId_quiet PyProof.Rows.F.plain_set_update_loop _, ih (i + 1) _ (by omega) lt (W.frame _ s' _ _ st' (Nat.le_succ _) fun b hb o eo => ?_) x3 fun s2 mv2 x4 => ?_⟩
    · rw [sb.2 b fun z => hS (by rw [← z]; exact hb)]
      exact eo
    · refine q s2 (Moved.trans W.gtrans ((mv.mono up).then_heap (Nat.le_succ _) fun b o hb eo => ?_) mv2) x4
      rw [sb.2 b fun z => hb (by rw [z]; exact List.mem_cons_self)]
      exact eo
end
section
variable {P : Program} {w : World} {A : Around} {E : Value → Shared → Prop} {s : Shared}
/-- a new, empty set behind a heap -/
def nu (h : Heap) (led : Bool) : Heap := h.push { cls := .type "set", dict := none, data := .set #[] 0 (.fresh 0 0 led) }
theorem nu_at (h : Heap) (led : Bool) : (nu h led).get? h.objs.size = some { cls := .type "set", dict := none, data := .set #[] 0 (.fresh 0 0 led) } := Heap.get?_push_size _ rfl
theorem nu_old {h : Heap} {led : Bool} {b : Addr} {o : Obj} (e : h.get? b = some o) : (nu h led).get? b = some o := Heap.get?_push_of_some _ e
theorem nu_size (h : Heap) (led : Bool) : (nu h led).objs.size = h.objs.size + 1 := Heap.size_push ..
theorem nu_has (P : Program) (w : World) {h h' : Heap} {led : Bool} (k : ∀ o, (nu h led).get? h.objs.size = some o → h'.get? h.objs.size = some o) : Has P w h' h.objs.size [] :=
  PyProof.Rows.SetOf_congr ((PyProof.Rows.setObjOf_fresh (knd := PySem.strKind P w) led).setOf (k _ (nu_at h led)) (by unfold scanBound; omega)) (fun _ => rfl) rfl
/-- what is known of the set that was made -/
def Made (P : Program) (w : World) (s : Shared) (xs : List Str) (h' : Heap) : Prop := Has P w h' s.heap.objs.size (insAll xs) ∧ ∀ b o, b < s.heap.objs.size → s.heap.get? b = some o → h'.get? b = some o
/-- set.__init__ of the new set, a list of texts given -/
theorem init_strs {l : Addr} {items : Array Value} {xs : List Str} (hh : A.handled = none) (hl : s.heap.IsList l items) (hi : StrsAre items.toList xs) (hb : xs.length + 1 < scanBound) (led : Bool) :
    codeAny (model P w) A (.call (.builtin "set.__init__") ⟨[.ref s.heap.objs.size, .ref l], []⟩) (wants (fun r s₂ => r = .none ∧ ∃ h' tk, s₂ = { s with heap := h', toks := tk } ∧ Made P w s xs h') E) { s with heap := nu s.heap led } := by
  have hT : Shared.TypeIs { s with heap := nu s.heap led } (.ref s.heap.objs.size) "set" := ⟨_, nu_at s.heap led, rfl⟩
  refine codeAny_call_builtin PySem.F.called_set.init.plain PySem.F.entry_set_init (check_set_init_1 hT ?_)
  have lS : l < s.heap.objs.size := by
    obtain ⟨o, ho, _⟩ := hl
    exact Heap.lt_size ho
  have hl1 : (nu s.heap led).IsList l items := hl.push _
  obtain ⟨⟨oc, od, odt, osl⟩, ho, hc, nl, hd⟩ := id hl1
  simp only at hc hd
  subst hc
  subst hd
  have hS := nu_at s.heap led
  have f1 := PySem.F.sub_list_set
  have f2 := PySem.F.sub_list_frozenset
  have f3 : (Value.type "list" == Value.type "dict") = false := by decide
  unfold Builtin.«set.__init__» noKeywords Builtin.Frozenset.updateFrom
  generalize hPI : pyIter = PI
  wp_walk
  subst hPI
  refine wpAny_pyIter_list (s := { s with heap := nu s.heap led }) hl1 ?_
  refine wpAny_bind (wpAny_runValue ?_)
  have nI : l ≠ (nu s.heap led).objs.size := by rw [nu_size]; exact Nat.ne_of_lt (Nat.lt_succ_of_lt lS)
  have nS : s.heap.objs.size ∉ [(nu s.heap led).objs.size, l] := by
    rw [nu_size]
    simp only [List.mem_cons, List.not_mem_nil, or_false, not_or]
    exact ⟨Nat.ne_of_lt (Nat.lt_succ_self _), Nat.ne_of_gt lS⟩
  have hn : xs.length = items.size := by rw [← StrsAre.len_eq hi, Array.length_toList]
  refine fill ((Walks.list (by simp [hh]) _ l nI items).toS) s.heap.objs.size nS xs hn (by omega) (fun i v hv => strAt hi i v (by rw [Array.getElem?_toList]; exact hv)) (items.size - 0) 0 _ (by omega) (Nat.zero_le _)
    ⟨⟨_, Heap.get?_push_size _ rfl, rfl, rfl⟩, (hl1.push _)⟩ ?_ ?_
  · exact nu_has P w fun o e => Heap.get?_push_of_some _ e
  · intro s' mv x
    obtain ⟨h', g', d', tk', os'⟩ := s'
    have eg : g' = s.gens := mv.gens
    have ed : d' = s.drawn := mv.drawn
    have eo : os' = s.os := mv.os
    subst eg
    subst ed
    subst eo
    refine wpAny_pure (wpAny_pure ⟨rfl, h', tk', rfl, x, fun b o lb e => ?_⟩)
    refine mv.heap b o ?_ (Heap.get?_push_of_some _ (nu_old e))
    simp only [List.mem_cons, List.not_mem_nil, or_false, not_or]
    rw [nu_size]
    exact ⟨Nat.ne_of_lt lb, Nat.ne_of_lt (Nat.lt_succ_of_lt lb)⟩
/-- set(a list of texts) -/
theorem set_strs {l : Addr} {items : Array Value} {xs : List Str} {Q : Value → Shared → Prop} (hh : A.handled = none) (hl : s.heap.IsList l items) (hi : StrsAre items.toList xs) (hb : xs.length + 1 < scanBound)
    (q : ∀ (h' : Heap) (tk : Nat), Made P w s xs h' → Q (.ref s.heap.objs.size) { s with heap := h', toks := tk }) : wpAny (model P w) A (call (.type "set") [.ref l]) Q E s := by
  obtain ⟨c, tl, hmro⟩ := PySem.F.called_set.mro
  have g1 := PySem.F.called_set.made
  have g2 := PySem.F.called_set.sub
  have g3 := PySem.F.called_set.notType
  have g4 := PySem.F.called_set.canCreate
  have g5 := PySem.F.typeCall_set_1 (.ref l)
  refine wpAny_call (codeAny_of_tree ?_)
  show wpAny _ _ (callAny (.type "set") _) _ _ _
  refine wpAny_pure ⟨Code.quiet_builtin _ (by decide +kernel), codeAny_builtin PySem.F.entry_type_call ?_⟩
  rw [Around.under_plain (weight_type_call_type "set" [.ref l] []) rfl]
  repeat (any_goals (first | assumption | wp_step))
  refine codeAny_mono (code_set_new_1 (.ref l) (E := E) (Q₁ := fun x s₁ => ∃ led, x = .ref s.heap.objs.size ∧ s₁ = { s with heap := nu s.heap led }) fun led => ⟨led, rfl, rfl⟩) fun r s₁ hr => ?_
  cases r with
  | error e => exact hr
  | ok fl =>
    cases fl with
    | ret x =>
      obtain ⟨led, rfl, rfl⟩ := hr
      have hT : Shared.TypeIs { s with heap := nu s.heap led } (.ref s.heap.objs.size) "set" := ⟨_, nu_at s.heap led, rfl⟩
      have g6 := PySem.F.called_set.init.lookup
      have g7 := PySem.F.called_set.init.bind (.ref s.heap.objs.size)
      repeat (any_goals (first | assumption | wp_step))
      refine codeAny_mono (init_strs (E := E) (by simp [hh]) hl hi hb led) fun r₂ s₂ h₂ => ?_
      cases r₂ with
      | error e => exact h₂
      | ok fl₂ =>
        cases fl₂ with
        | ret z =>
          obtain ⟨rfl, h', tk, rfl, m⟩ := h₂
          repeat (any_goals (first | assumption | wp_step))
          exact q h' tk m
        | _ => exact h₂.elim
    | _ => exact hr.elim
end
section
variable {X : Cx}
/-- len(set(xs)), xs a list of texts -/
def tLenSetN (K : PySem.W.Frag) (ta : TE) : TE := fun σ H Q => ta σ H fun x H1 => ∃ (l : Addr) (xs : List Str), x = .ref l ∧ SqL K H1 l (xs.map V.str) ∧ xs.length ≤ 3000 ∧ Q (.int ((insAll xs).length : Nat)) H1
theorem pe_lenSetN {a : Expr} {ta : TE} {p p2 q pos : Pos} (hc : X.calm = true) (hg : Gl X "len") (hm : X.mg "len" = none) (hg2 : Gl X "set") (hm2 : X.mg "set" = none) (ha : PE X a ta)
    (na : starEach [a] X.env = (false, eval a X.env) :: starEach [] X.env := by rfl) : PE X (.Call (.Name "len" p) [.Call (.Name "set" p2) [a] [] q] [] pos) (tLenSetN X.K ta) := by
  refine ⟨fun pins s σ H Q I h => ?_⟩
  refine Call_ (ld_blt I hg hm boot_len ?_)
  refine PyProof.Rows.callWith_builtin1 (PyProof.Rows.args_cons ?_ rfl) rfl rfl
  refine Call_ (ld_blt I hg2 hm2 boot_set ?_)
  refine PyProof.Rows.callWith_type1 (PyProof.Rows.args_cons (thn (ha.run pins s σ H _ I h) fun v s1 ⟨x, H1, I1, r1, q1⟩ => PyProof.Rows.args_nil ?_) na) na rfl
  obtain ⟨l, xs, rfl, hq, h1, q1⟩ := q1
  cases r1
  obtain ⟨its, r, pl, hz⟩ := I1.list hq
  have hb : (insAll xs).length ≤ 3000 := Nat.le_trans (insAll_len xs) h1
  refine set_strs (xs := xs) (I1.ok.hd hc) pl.isList (by simpa using L2.strsAre_of r) (by unfold scanBound; omega) fun h' tk ⟨hS, hk⟩ => PyProof.Rows.args_nil ?_
  obtain ⟨o, es, ep, t, ho, hex, hd, _, _, _, hf, hn⟩ := hS
  have I2 : Inv X pins σ H1 { s1 with heap := h', toks := tk } := I1.kept fun b o e => hk b o (Heap.lt_size e) e
  exact call_len_set ho hex hd hf (by rw [hn]; omega) ⟨.int ((insAll xs).length : Nat), H1, I2.tok _, ⟨_, by rw [hn]⟩, q1⟩
end
end Zq
set_option Elab.async false
set_option linter.all false
set_option maxRecDepth 100000
set_option maxHeartbeats 4000000
/-! Zw: t[::-1] of a tuple. -/
namespace Zw
open PySem PySem.Spec PyProof.Rows L2 HT
section
variable {prog : Program} {w : World} {A : Around} {E : Value → Shared → Prop} {s : Shared}
theorem adjust_back (n : Nat) : Builtin.Slice.sliceAdjust none none (-1) (n : Int) = ((n : Int) - 1, -1) := by
  unfold Builtin.Slice.sliceAdjust
  have h1 : (-1 : Int) < 0 := by omega
  simp only [h1, if_true]
theorem places_back (n : Nat) : Builtin.Slice.slicePlaces ((n : Int) - 1) (-1) (-1) = n := by
  unfold Builtin.Slice.slicePlaces
  have h1 : ¬ ((-1 : Int) > 0) := by omega
  have h2 : -(-1 : Int) = 1 := by omega
  simp only [h1, if_false, h2, Int.ediv_one]
  split <;> omega
theorem sliceApplied_back {sl : Addr} {n : Nat} {u : Tok} {Q : Int × Int × Nat → Shared → Prop} (hs : s.heap.IsSliceOf sl .none .none (.int (-1) u)) (h : Q ((n : Int) - 1, -1, n) s) :
    wpAny (model prog w) A (Builtin.Slice.sliceApplied (.ref sl) (pure (n : Int))) Q E s := by
  obtain ⟨os, hos, hcs, hds⟩ := id hs
  unfold Builtin.Slice.sliceApplied Builtin.Slice.sliceFields
  refine wpAny_bind (wpAny_bind (wpAny_field hos hds (x := .none) rfl (wpAny_bind (wpAny_field hos hds (x := .none) rfl (wpAny_bind (wpAny_field hos hds (x := .int (-1) u) rfl (wpAny_pure ?_)))))))
  refine wpAny_bind (slicePart_int ?_)
  show wpAny _ _ (if ((-1 : Int) == 0) = true then _ else _) _ _ s
  rw [if_neg (by decide)]
  refine wpAny_bind (slicePart_none (wpAny_bind (slicePart_none (wpAny_bind (wpAny_pure ?_)))))
  show wpAny _ _ (match Builtin.Slice.sliceAdjust none none (-1) (n : Int) with | (lo, hi) => pure (lo, (-1 : Int), Builtin.Slice.slicePlaces lo hi (-1))) _ _ s
  rw [adjust_back n]
  show wpAny _ _ (pure ((n : Int) - 1, (-1 : Int), Builtin.Slice.slicePlaces ((n : Int) - 1) (-1) (-1))) _ _ s
  rw [places_back n]
  exact wpAny_pure h
theorem fm_map {α β : Type} {f : α → Option β} {g : α → β} : ∀ l : List α, (∀ k ∈ l, f k = some (g k)) → l.filterMap f = l.map g
  | [], _ => rfl
  | a :: l, h => by
    rw [List.filterMap_cons_some (h a List.mem_cons_self), List.map_cons, fm_map l fun k m => h k (List.mem_cons_of_mem _ m)]
theorem pick_back (xs : Array Value) : ((List.range xs.size).filterMap fun (k : Nat) => xs[((xs.size : Int) - 1 + (k : Int) * (-1)).toNat]?).toArray = xs.toList.reverse.toArray := by
  congr 1
  rw [fm_map (g := fun k => (xs[xs.size - 1 - k]?).getD .none) _ fun k m => by
    have hk := List.mem_range.mp m
    have e : ((xs.size : Int) - 1 + (k : Int) * (-1)).toNat = xs.size - 1 - k := by omega
    rw [e]
    have h2 : xs.size - 1 - k < xs.size := by omega
    rw [Array.getElem?_eq_getElem h2]
    rfl]
  refine List.ext_getElem (by simp) fun i h1 h2 => ?_
  rw [List.getElem_map, List.getElem_range, List.getElem_reverse]
  have hi : i < xs.size := by simpa using h1
  have h3 : xs.size - 1 - i < xs.size := by omega
  rw [Array.getElem?_eq_getElem h3]
  simp
theorem getItem_tuple_back {t sl : Addr} {items : Array Value} {u : Tok} {Q : Value → Shared → Prop} (ht : IsTup s.heap t items) (hs : s.heap.IsSliceOf sl .none .none (.int (-1) u))
    (h : Q (.ref s.heap.objs.size) { s with heap := s.heap.push { cls := .type "tuple", data := .seq items.toList.reverse.toArray } })
    (hsz : items.size ≤ sizeLine) : wpAny (model prog w) A (getItem (.ref t) (.ref sl)) Q E s := by
  have hrev : sizeOk (.seq items.toList.reverse.toArray) := by
    show items.toList.reverse.toArray.size ≤ sizeLine
    rw [List.size_toArray, List.length_reverse, Array.length_toList]
    exact hsz
  obtain ⟨os, hos, hcs, hds⟩ := id hs
  have hTs : s.TypeIs (.ref sl) "slice" := ⟨os, hos, hcs⟩
  unfold getItem
  try with_reducible refine wpAny_holding ?_
  first | refine wpAny_bind (wpAny_pure ?_) | skip
  refine wpAny_bind (wpAny_sequenceKey ht.typeIs (by decide) ?_)
  refine wpAny_bind (wpAny_callSpecial?_slot (name := Str.ofString "__getitem__") ht.typeIs PyProof.Rows.slot_tuple_getitem
    (wpAny_call_entry PyProof.Rows.slot_tuple_getitem ht.typeIs PyProof.Rows.entry_tuple_getitem ?_ (PyProof.Rows.args_tuple_getitem _ _)))
  show wpAny _ _ (Builtin.Tuple.tupleItemsOf (.ref t) >>= _) _ _ s
  refine wpAny_bind (tupleItemsOf_ ht ?_)
  refine wpAny_bind (wpAny_typeOf hTs ?_)
  rw [if_pos (by decide)]
  refine wpAny_bind (sliceApplied_back hs ?_)
  have hno : ¬ ((((items.size : Int) - 1) == 0 && (-1 : Int) == 1 && items.size == items.size) = true) := by
    rw [show ((-1 : Int) == 1) = false from rfl, Bool.and_false]
    exact Bool.false_ne_true
  show wpAny _ _ (if (((items.size : Int) - 1) == 0 && (-1 : Int) == 1 && items.size == items.size) = true then _ else _) _ _ s
  rw [if_neg hno, pick_back items]
  first
    | exact wpAny_bind (m := Builtin.Tuple.tupleExact _) (wpAny_newObj_type (wpAny_pure ⟨_, rfl, wpAny_pure h⟩) hrev)
    | exact wpAny_bind (m := Builtin.Tuple.tupleExact _) (wpAny_newObj_type (wpAny_bind (wpAny_pure (wpAny_pure ⟨_, rfl, wpAny_pure h⟩))) hrev)
    | exact wpAny_bind (wpAny_bind (m := Builtin.Tuple.tupleExact _) (wpAny_newObj_type (wpAny_pure (wpAny_pure ⟨_, rfl, wpAny_pure h⟩)) hrev))
    | exact wpAny_bind (wpAny_bind (m := Builtin.Tuple.tupleExact _) (wpAny_newObj_type (wpAny_pure ⟨_, rfl, wpAny_pure h⟩) hrev))
end
def tRevT (K : PySem.W.Frag) (te : TE) : TE := fun σ H Q => te σ H fun x H1 => ∃ a xs, x = .ref a ∧ SqT K H1 a xs ∧ ∀ p, H1 p = none → Q (.ref p) (upd H1 p (.tup xs.reverse))
theorem pe_revT {X : Cx} {e : Expr} {te : TE} {k : Nat} {p1 p2 p3 pos : Pos} (he : PE X e te) : PE X (.Subscript e (.Slice none none (some (.UnaryOp .USub (.Constant (.int 1) k p1) p2)) p3) pos) (tRevT X.K te) := by
  refine ⟨fun pins s σ H Q I h => ?_⟩
  refine Subscript_ (thn (he.run pins s σ H _ I h) fun v s1 ⟨x, H1, I1, r1, q1⟩ => ?_)
  obtain ⟨a, xs, ex, hx, q⟩ := q1
  subst ex
  cases r1
  have hst : PO X (some (.UnaryOp .USub (.Constant (.int 1) k p1) p2)) (tPart (tUn (rU fun i => .int (-i)) (tC (.int 1)))) := po_some (pe_un un_neg pe_int)
  refine wpAny_Slice (thn (po_none.run pins s1 σ H1 (fun o H2 => o = none ∧ H2 = H1) I1 ⟨rfl, rfl⟩) fun vl s2 ⟨l, H2, I2, pl, el, e2⟩ => ?_)
  subst el e2
  refine thn (po_none.run pins s2 σ H2 (fun o H3 => o = none ∧ H3 = H2) I2 ⟨rfl, rfl⟩) fun vu s3 ⟨u, H3, I3, pu, eu, e3⟩ => ?_
  subst eu e3
  refine thn (hst.run pins s3 σ H3 (fun o H4 => o = some (-1) ∧ H4 = H3) I3 ⟨1, rfl, -1, rfl, rfl, rfl⟩) fun vs s4 ⟨o, H4, I4, ps, eo, e4⟩ => ?_
  subst eo e4
  cases pl
  cases pu
  obtain ⟨u, eu⟩ : ∃ u, vs = .int (-1) u := by cases ps; exact ⟨_, rfl⟩
  subst eu
  have I5 : L2.Inv X pins σ H4 { s4 with heap := s4.heap.push { cls := .type "slice", data := .fields #[.none, .none, .int (-1) u] } } := I4.kept (t' := s4.toks) fun b ob q => Heap.get?_push_of_some _ q
  obtain ⟨its, r, ht, hz⟩ := I5.tuple hx
  have hlen := r.length
  show wpAny (model X.prog X.w) X.A (subscriptTail e (.Slice none none (some (.UnaryOp .USub (.Constant (.int 1) k p1) p2)) p3) (.ref a) (.ref s4.heap.objs.size)) (EP X pins σ Q) X.xe { s4 with heap := s4.heap.push { cls := .type "slice", data := .fields #[.none, .none, .int (-1) u] } }
  refine tail_any (ops := [.ref a, .ref s4.heap.objs.size]) ht.typeIs PyProof.Rows.slot_tuple_getitem.lookup ?_ (by with_unfolding_all rfl)
  refine getItem_tuple_back ht (Heap.IsSliceOf.new _ .none .none (.int (-1) u)) ?_ (by rw [List.size_toArray]; omega)
  refine ⟨.ref _, _, I5.laid (t' := s4.toks) (o := .tup xs.reverse) (fun b ob q => Heap.get?_push_of_some _ q) (Nat.le_refl _) ?_, rfl, q _ (I5.hok.fresh (Nat.le_refl _))⟩
  exact ⟨by rw [List.length_reverse]; omega, _, r.reverse, ⟨_, Heap.get?_push_size _ rfl, rfl, _, rfl⟩⟩
end Zw
set_option Elab.async false
set_option linter.all false
set_option maxRecDepth 100000
set_option maxHeartbeats 1000000
/-! Zx: a tuple that shows as a tuple of figures is one; a value that shows as a figure is one. -/
namespace Zx
open PySem PySem.Spec PySem.NumText PyProof.Rows
def ch (x : Str) : List Nat := x.cps.toList
theorem ch_app (a b : Str) : ch (a ++ b) = ch a ++ ch b := cps_toList_append a b
def tl : List (List Nat) → List Nat
  | [] => [41]
  | x :: xs => 44 :: 32 :: (x ++ tl xs)
def chT : List (List Nat) → List Nat
  | [] => [40, 41]
  | [x] => 40 :: (x ++ [44, 41])
  | x :: y :: r => 40 :: (x ++ tl (y :: r))
theorem join_ch : ∀ (x : Str) (ts : List Str), ch (Str.join ", " (x :: ts)) ++ [41] = ch x ++ tl (ts.map ch)
  | x, [] => by rw [join_one]; rfl
  | x, y :: r => by
    rw [join_cons_cons, ch_app, ch_app, List.append_assoc, join_ch y r, List.append_assoc]
    rfl
theorem ch_open : ch ("(" : Str) = [40] := by decide +kernel
theorem ch_close : ch (Str.ofString ")") = [41] := by decide +kernel
theorem ch_close1 : ch (Str.ofString ",)") = [44, 41] := by decide +kernel
theorem tuple_ch : ∀ ts : List Str, ch (tupleText ts) = chT (ts.map ch)
  | [] => by decide +kernel
  | [x] => by
    show ch (("(" : Str) ++ Str.join ", " [x] ++ (Str.ofString ",)")) = _
    rw [ch_app, ch_app, join_one, ch_open, ch_close1]
    rfl
  | x :: y :: r => by
    show ch (("(" : Str) ++ Str.join ", " (x :: y :: r) ++ (Str.ofString ")")) = _
    rw [ch_app, ch_app, ch_open, ch_close, List.append_assoc, join_ch x (y :: r)]
    rfl
theorem fold_head {f : Nat → Array Nat} : ∀ (l : List Nat) (acc : Array Nat), ∃ t, l.foldl (fun out c => out ++ f c) acc = acc ++ t
  | [], acc => ⟨#[], by simp⟩
  | c :: l, acc => by
    obtain ⟨t, e⟩ := fold_head (f := f) l (acc ++ f c)
    exact ⟨f c ++ t, by rw [List.foldl_cons, e, Array.append_assoc]⟩
theorem str_head (x : Str) : ∃ cs, ch (reprText x) = reprQuote x :: cs := by
  obtain ⟨t, e⟩ := fold_head (f := fun c => (PySem.Builtin.Str.reprChar (reprQuote x) c).toArray) x.cps.toList #[reprQuote x]
  refine ⟨t.toList ++ [reprQuote x], ?_⟩
  unfold ch reprText
  rw [Array.foldl_toList] at e
  rw [e]
  simp
theorem quote_is (x : Str) : reprQuote x = 34 ∨ reprQuote x = 39 := by
  unfold reprQuote
  split
  · exact .inl rfl
  · exact .inr rfl
theorem int_ne (i : Int) : ch (PyData.shown (.int i)) ≠ [] := by
  have key : ∀ m : Nat, (Str.ofString (toString ((m : Nat) : Int))).cps.toList ≠ [] := fun m e => by
    rw [PySem.W.KIN.signs_num] at e
    have h := toDigits_len_ge 10 m
    rw [List.map_eq_nil_iff.mp e] at h
    exact absurd h (by decide)
  cases i with
  | ofNat m => exact key m
  | negSucc m =>
    intro e
    have e2 : (Str.ofString (toString (Int.negSucc m))).cps.toList = [] := e
    rw [signs_ofString] at e2
    have e3 := List.map_eq_nil_iff.mp e2
    have e4 : (toString (Int.negSucc m)).toList = ("-" ++ Nat.repr (m + 1)).toList := rfl
    rw [e4, String.toList_append] at e3
    have e5 := (List.append_eq_nil_iff.mp e3).1
    exact absurd e5 (by decide)
theorem int_one {i : Int} {n : Nat} (hn : n < 10) (h : ch (PyData.shown (.int i)) = [48 + n]) : i = n := by
  cases i with
  | ofNat m =>
    have e : (Str.ofString (toString ((m : Nat) : Int))).cps.toList = [48 + n] := h
    rw [PySem.W.KIN.signs_num] at e
    have v := PySem.W.KIN.val_back m
    rw [e] at v
    have v2 : 0 * 10 + (48 + n - 48) = m := v
    show (m : Int) = n
    omega
  | negSucc m =>
    have e : (Str.ofString (toString (Int.negSucc m))).cps.toList = [48 + n] := h
    rw [signs_ofString] at e
    have e4 : (toString (Int.negSucc m)).toList = ("-" ++ Nat.repr (m + 1)).toList := rfl
    rw [e4, String.toList_append, List.map_append] at e
    have e5 : ("-" : String).toList.map Char.toNat = [45] := by decide
    rw [e5] at e
    injection e with e6 e7
    omega
/-- the first sign of a text -/
theorem head : ∀ d : PyData, ∃ c cs, ch d.shown = c :: cs ∧ (48 ≤ c → c ≤ 57 → ∃ i, d = .int i) ∧ c ≠ 41 ∧ c ≠ 44
  | .none => ⟨78, _, (by decide +kernel : ch (Str.ofString "None") = 78 :: [111, 110, 101]), by omega, by omega, by omega⟩
  | .bool true => ⟨84, _, (by decide +kernel : ch (Str.ofString "True") = 84 :: [114, 117, 101]), by omega, by omega, by omega⟩
  | .bool false => ⟨70, _, (by decide +kernel : ch (Str.ofString "False") = 70 :: [97, 108, 115, 101]), by omega, by omega, by omega⟩
  | .int i => by
    cases e : ch (PyData.shown (.int i)) with
    | nil => exact absurd e (int_ne i)
    | cons c cs =>
      have h1 : 41 ∉ ch (PyData.shown (.int i)) := shown_int_free' (by omega) i
      have h2 : 44 ∉ ch (PyData.shown (.int i)) := shown_int_free' (by omega) i
      rw [e] at h1 h2
      exact ⟨c, cs, rfl, fun _ _ => ⟨i, rfl⟩, fun z => h1 (z ▸ List.mem_cons_self), fun z => h2 (z ▸ List.mem_cons_self)⟩
  | .str x => by
    obtain ⟨cs, e⟩ := str_head x
    have q := quote_is x
    exact ⟨_, cs, e, by omega, by omega, by omega⟩
  | .list xs => by
    refine ⟨91, ch (Str.join ", " (PyData.shownAll xs)) ++ [93], ?_, by omega, by omega, by omega⟩
    · show ch (listText _) = _
      rw [listText_eq_join, ch_app, ch_app]
      rfl
  | .tuple xs => by
    have e : ch (PyData.shown (.tuple xs)) = chT ((PyData.shownAll xs).map ch) := tuple_ch _
    have k : ∀ l, ∃ cs, chT l = 40 :: cs
      | [] => ⟨_, rfl⟩
      | [_] => ⟨_, rfl⟩
      | _ :: _ :: _ => ⟨_, rfl⟩
    obtain ⟨cs, k⟩ := k ((PyData.shownAll xs).map ch)
    exact ⟨40, cs, e.trans k, by omega, by omega, by omega⟩
  | .dict kvs => by
    refine ⟨123, ch (Str.join ", " (PyData.shownKv kvs)) ++ [125], ?_, by omega, by omega, by omega⟩
    · show ch (dictText _) = _
      unfold dictText
      rw [ch_app, ch_app]
      rfl
theorem int_free (i : Int) : 41 ∉ ch (PyData.shown (.int i)) ∧ 44 ∉ ch (PyData.shown (.int i)) := ⟨shown_int_free' (by omega) i, shown_int_free' (by omega) i⟩
/-- a value that shows as a figure -/
theorem figure {d : PyData} {n : Nat} (hn : n < 10) (h : ch d.shown = [48 + n]) : d = .int n := by
  obtain ⟨c, cs, e, hi, _⟩ := head d
  have e' := e
  rw [h] at e'
  injection e' with e1 e2
  obtain ⟨i, rfl⟩ := hi (by omega) (by omega)
  exact congrArg PyData.int (int_one hn h)
/-- a figure, and what is no part of it -/
theorem cut {d : PyData} {n : Nat} {r s : List Nat} (hn : n < 10) (hr : r.head? = some 41 ∨ r.head? = some 44) (hs : s.head? = some 41 ∨ s.head? = some 44) (h : ch d.shown ++ r = [48 + n] ++ s) : d = .int n ∧ r = s := by
  obtain ⟨c, cs, e, hi, _⟩ := head d
  have h' := h
  rw [e] at h'
  injection h' with h1 h2
  obtain ⟨i, rfl⟩ := hi (by omega) (by omega)
  have hf := int_free i
  rw [e] at hf
  cases cs with
  | nil =>
    refine ⟨?_, h2⟩
    exact congrArg PyData.int (int_one hn (by rw [e, h1]))
  | cons c2 cs =>
    have h3 : (c2 :: (cs ++ r)) = s := h2
    rw [← h3] at hs
    rcases hs with hs | hs
    · injection hs with hs
      exact absurd (List.mem_cons_of_mem _ (hs ▸ List.mem_cons_self)) hf.1
    · injection hs with hs
      exact absurd (List.mem_cons_of_mem _ (hs ▸ List.mem_cons_self)) hf.2
def fig (ns : List Nat) : List PyData := ns.map fun n => .int (n : Nat)
theorem fig_ch {n : Nat} (h : n < 10) : ch (PyData.shown (.int (n : Nat))) = [48 + n] := by
  have e : ∀ n < 10, ch (PyData.shown (.int ((n : Nat) : Int))) = [48 + n] := by decide +kernel
  exact e n h
theorem tl_head : ∀ l, (tl l).head? = some 41 ∨ (tl l).head? = some 44
  | [] => .inl rfl
  | _ :: _ => .inr rfl
def chs (ds : List PyData) : List (List Nat) := (PyData.shownAll ds).map ch
theorem tl_inj : ∀ (ds : List PyData) (ns : List Nat), (∀ n ∈ ns, n < 10) → tl (chs ds) = tl (chs (fig ns)) → ds = fig ns
  | [], [], _, _ => rfl
  | [], _ :: _, _, h => by cases h
  | _ :: _, [], _, h => by cases h
  | d :: ds, n :: ns, hn, h => by
    have h' : 44 :: 32 :: (ch d.shown ++ tl (chs ds)) = 44 :: 32 :: (ch (PyData.shown (.int (n : Nat))) ++ tl (chs (fig ns))) := h
    injection h' with _ h'
    injection h' with _ h'
    have hn0 := hn n List.mem_cons_self
    rw [fig_ch hn0] at h'
    obtain ⟨rfl, h2⟩ := cut hn0 (tl_head _) (tl_head _) h'
    rw [tl_inj ds ns (fun m hm => hn m (List.mem_cons_of_mem _ hm)) h2]
    rfl
/-- a tuple that shows as a tuple of figures is one -/
theorem tup_inj : ∀ (ds : List PyData) (ns : List Nat), (∀ n ∈ ns, n < 10) → PyData.shown (.tuple ds) = PyData.shown (.tuple (fig ns)) → ds = fig ns := by
  intro ds ns hn h
  have h : chT (chs ds) = chT (chs (fig ns)) := by
    have e1 : ch (PyData.shown (.tuple ds)) = chT (chs ds) := tuple_ch _
    have e2 : ch (PyData.shown (.tuple (fig ns))) = chT (chs (fig ns)) := tuple_ch _
    rw [← e1, ← e2, h]
  match ds, ns, hn, h with
  | [], [], _, _ => rfl
  | [], [n], hn, h =>
    have h' : [40, 41] = 40 :: (ch (PyData.shown (.int (n : Nat))) ++ [44, 41]) := h
    rw [fig_ch (hn n List.mem_cons_self)] at h'
    injection h' with _ h'
    injection h' with h' _
    omega
  | [], n :: m :: r, hn, h =>
    have h' : [40, 41] = 40 :: (ch (PyData.shown (.int (n : Nat))) ++ tl (chs (fig (m :: r)))) := h
    rw [fig_ch (hn n List.mem_cons_self)] at h'
    injection h' with _ h'
    injection h' with h' _
    omega
  | [d], [], _, h =>
    have h' : 40 :: (ch d.shown ++ [44, 41]) = [40, 41] := h
    injection h' with _ h'
    have := congrArg List.length h'
    simp at this
  | d :: e :: r, [], _, h =>
    have h' : 40 :: (ch d.shown ++ 44 :: 32 :: (ch e.shown ++ tl (chs r))) = [40, 41] := h
    injection h' with _ h'
    have := congrArg List.length h'
    simp at this
    omega
  | [d], [n], hn, h =>
    have h' : 40 :: (ch d.shown ++ [44, 41]) = 40 :: (ch (PyData.shown (.int (n : Nat))) ++ [44, 41]) := h
    injection h' with _ h'
    have hn0 := hn n List.mem_cons_self
    rw [fig_ch hn0] at h'
    obtain ⟨rfl, _⟩ := cut hn0 (.inr rfl) (.inr rfl) h'
    rfl
  | [d], n :: m :: r, hn, h =>
    have h' : 40 :: (ch d.shown ++ [44, 41]) = 40 :: (ch (PyData.shown (.int (n : Nat))) ++ tl (chs (fig (m :: r)))) := h
    injection h' with _ h'
    have hn0 := hn n List.mem_cons_self
    rw [fig_ch hn0] at h'
    obtain ⟨rfl, h2⟩ := cut hn0 (.inr rfl) (.inr rfl) h'
    cases h2
  | d :: e :: r, [n], hn, h =>
    have h' : 40 :: (ch d.shown ++ tl (chs (e :: r))) = 40 :: (ch (PyData.shown (.int (n : Nat))) ++ [44, 41]) := h
    injection h' with _ h'
    have hn0 := hn n List.mem_cons_self
    rw [fig_ch hn0] at h'
    obtain ⟨rfl, h2⟩ := cut hn0 (.inr rfl) (.inr rfl) h'
    cases h2
  | d :: e :: r, n :: m :: s, hn, h =>
    have h' : 40 :: (ch d.shown ++ tl (chs (e :: r))) = 40 :: (ch (PyData.shown (.int (n : Nat))) ++ tl (chs (fig (m :: s)))) := h
    injection h' with _ h'
    have hn0 := hn n List.mem_cons_self
    rw [fig_ch hn0] at h'
    obtain ⟨rfl, h2⟩ := cut hn0 (.inr rfl) (.inr rfl) h'
    rw [tl_inj (e :: r) (m :: s) (fun x hx => hn x (List.mem_cons_of_mem _ hx)) h2]
    rfl
end Zx
set_option Elab.async false
set_option linter.all false
set_option maxRecDepth 100000
set_option maxHeartbeats 4000000
/-! k05: the text, the draws. -/
namespace K05
open PySem PySem.Spec PyProof.Rows L2 Zg Zr Zd Zv
/-! ### the orders of keywords -/
def pm0 {α : Type} (l : List α) : List α := l
theorem pm0_rel {zs : List V} {ws : List Value} (r : Vals zs ws) : Vals (pm0 zs) (pm0 ws) := r
/-! ### the text -/
def topS (i : Nat) : Stmt := PySem.Challenge.pw_plugcaller_k05_terms_and_definitions_of.main.body.getD i (.Pass ⟨0, 0, 0, 0⟩)
abbrev s_is_integer : Stmt := topS 5
abbrev N_is_integer : List PySem.Str := ["thing"]
abbrev P_is_integer : List PySem.Str := ["thing"]
theorem sc_is_integer : FnScope N_is_integer P_is_integer (defScope s_is_integer) := ⟨rfl, rfl, rfl, by decide +kernel, rfl, by decide +kernel, by decide +kernel⟩
abbrev s_is_name : Stmt := topS 6
abbrev N_is_name : List PySem.Str := ["thing", "letter"]
abbrev P_is_name : List PySem.Str := ["thing"]
theorem sc_is_name : FnScope N_is_name P_is_name (defScope s_is_name) := ⟨rfl, rfl, rfl, by decide +kernel, rfl, by decide +kernel, by decide +kernel⟩
abbrev s_are_ascending : Stmt := topS 7
abbrev N_are_ascending : List PySem.Str := ["thing", "one", "other"]
abbrev P_are_ascending : List PySem.Str := ["thing"]
theorem sc_are_ascending : FnScope N_are_ascending P_are_ascending (defScope s_are_ascending) := ⟨rfl, rfl, rfl, by decide +kernel, rfl, by decide +kernel, by decide +kernel⟩
abbrev s_is_state : Stmt := topS 8
abbrev N_is_state : List PySem.Str := ["size", "thing"]
abbrev P_is_state : List PySem.Str := ["size", "thing"]
theorem sc_is_state : FnScope N_is_state P_is_state (defScope s_is_state) := ⟨rfl, rfl, rfl, by decide +kernel, rfl, by decide +kernel, by decide +kernel⟩
abbrev s_are_states : Stmt := topS 9
abbrev N_are_states : List PySem.Str := ["size", "thing", "one"]
abbrev P_are_states : List PySem.Str := ["size", "thing"]
theorem sc_are_states : FnScope N_are_states P_are_states (defScope s_are_states) := ⟨rfl, rfl, rfl, by decide +kernel, rfl, by decide +kernel, by decide +kernel⟩
abbrev s_call_parts : Stmt := topS 18
abbrev N_call_parts : List PySem.Str := ["term", "word", "name", "functions", "tasks", "part"]
abbrev P_call_parts : List PySem.Str := ["term"]
theorem sc_call_parts : FnScope N_call_parts P_call_parts (defScope s_call_parts) := ⟨rfl, rfl, rfl, by decide +kernel, rfl, by decide +kernel, by decide +kernel⟩
abbrev s_function_parts : Stmt := topS 19
abbrev N_function_parts : List PySem.Str := ["term"]
abbrev P_function_parts : List PySem.Str := ["term"]
theorem sc_function_parts : FnScope N_function_parts P_function_parts (defScope s_function_parts) := ⟨rfl, rfl, rfl, by decide +kernel, rfl, by decide +kernel, by decide +kernel⟩
abbrev s_action_parts : Stmt := topS 20
abbrev N_action_parts : List PySem.Str := ["term"]
abbrev P_action_parts : List PySem.Str := ["term"]
theorem sc_action_parts : FnScope N_action_parts P_action_parts (defScope s_action_parts) := ⟨rfl, rfl, rfl, by decide +kernel, rfl, by decide +kernel, by decide +kernel⟩
abbrev s_test_parts : Stmt := topS 21
abbrev N_test_parts : List PySem.Str := ["term", "part"]
abbrev P_test_parts : List PySem.Str := ["term"]
theorem sc_test_parts : FnScope N_test_parts P_test_parts (defScope s_test_parts) := ⟨rfl, rfl, rfl, by decide +kernel, rfl, by decide +kernel, by decide +kernel⟩
abbrev s_task_parts : Stmt := topS 22
abbrev N_task_parts : List PySem.Str := ["term", "word", "part"]
abbrev P_task_parts : List PySem.Str := ["term"]
theorem sc_task_parts : FnScope N_task_parts P_task_parts (defScope s_task_parts) := ⟨rfl, rfl, rfl, by decide +kernel, rfl, by decide +kernel, by decide +kernel⟩
abbrev s_has_form : Stmt := topS 23
abbrev N_has_form : List PySem.Str := ["is_function_wanted", "thing", "waiting", "is_wanted", "term", "parts"]
abbrev P_has_form : List PySem.Str := ["is_function_wanted", "thing"]
theorem sc_has_form : FnScope N_has_form P_has_form (defScope s_has_form) := ⟨rfl, rfl, rfl, by decide +kernel, rfl, by decide +kernel, by decide +kernel⟩
abbrev s_is_task : Stmt := topS 24
abbrev N_is_task : List PySem.Str := ["thing"]
abbrev P_is_task : List PySem.Str := ["thing"]
theorem sc_is_task : FnScope N_is_task P_is_task (defScope s_is_task) := ⟨rfl, rfl, rfl, by decide +kernel, rfl, by decide +kernel, by decide +kernel⟩
abbrev s_is_function : Stmt := topS 25
abbrev N_is_function : List PySem.Str := ["thing"]
abbrev P_is_function : List PySem.Str := ["thing"]
theorem sc_is_function : FnScope N_is_function P_is_function (defScope s_is_function) := ⟨rfl, rfl, rfl, by decide +kernel, rfl, by decide +kernel, by decide +kernel⟩
abbrev s_is_arity : Stmt := topS 26
abbrev N_is_arity : List PySem.Str := ["thing"]
abbrev P_is_arity : List PySem.Str := ["thing"]
theorem sc_is_arity : FnScope N_is_arity P_is_arity (defScope s_is_arity) := ⟨rfl, rfl, rfl, by decide +kernel, rfl, by decide +kernel, by decide +kernel⟩
abbrev s_is_function_parameter : Stmt := topS 27
abbrev N_is_function_parameter : List PySem.Str := ["thing"]
abbrev P_is_function_parameter : List PySem.Str := ["thing"]
theorem sc_is_function_parameter : FnScope N_is_function_parameter P_is_function_parameter (defScope s_is_function_parameter) := ⟨rfl, rfl, rfl, by decide +kernel, rfl, by decide +kernel, by decide +kernel⟩
abbrev s_is_definition : Stmt := topS 28
abbrev N_is_definition : List PySem.Str := ["thing", "functions", "tasks", "body", "part", "name", "names", "arity"]
abbrev P_is_definition : List PySem.Str := ["thing"]
theorem sc_is_definition : FnScope N_is_definition P_is_definition (defScope s_is_definition) := ⟨rfl, rfl, rfl, by decide +kernel, rfl, by decide +kernel, by decide +kernel⟩
abbrev s_well : Stmt := topS 30
abbrev N_well : List PySem.Str := ["script", "told", "blend", "number"]
abbrev P_well : List PySem.Str := ["script"]
theorem sc_well : FnScope N_well P_well (defScope s_well) := ⟨rfl, rfl, rfl, by decide +kernel, rfl, by decide +kernel, by decide +kernel⟩
abbrev s_drawn : Stmt := topS 31
abbrev N_drawn : List PySem.Str := ["well", "many", "seed", "number"]
abbrev P_drawn : List PySem.Str := ["well", "many"]
theorem sc_drawn : FnScope N_drawn P_drawn (defScope s_drawn) := ⟨rfl, rfl, rfl, by decide +kernel, rfl, by decide +kernel, by decide +kernel⟩
abbrev s_one_of : Stmt := topS 32
abbrev N_one_of : List PySem.Str := ["well", "some"]
abbrev P_one_of : List PySem.Str := ["well", "some"]
theorem sc_one_of : FnScope N_one_of P_one_of (defScope s_one_of) := ⟨rfl, rfl, rfl, by decide +kernel, rfl, by decide +kernel, by decide +kernel⟩
abbrev s_name : Stmt := topS 33
abbrev N_name : List PySem.Str := ["well", "k"]
abbrev P_name : List PySem.Str := ["well"]
theorem sc_name : FnScope N_name P_name (defScope s_name) := ⟨rfl, rfl, rfl, by decide +kernel, rfl, by decide +kernel, by decide +kernel⟩
abbrev s_parts : Stmt := topS 34
abbrev N_parts : List PySem.Str := ["well", "room", "deep", "wants", "many", "found", "k"]
abbrev P_parts : List PySem.Str := ["well", "room", "deep", "wants", "many"]
theorem sc_parts : FnScope N_parts P_parts (defScope s_parts) := ⟨rfl, rfl, rfl, by decide +kernel, rfl, by decide +kernel, by decide +kernel⟩
abbrev s_call : Stmt := topS 35
abbrev N_call : List PySem.Str := ["well", "room", "deep", "word", "functions"]
abbrev P_call : List PySem.Str := ["well", "room", "deep", "word"]
theorem sc_call : FnScope N_call P_call (defScope s_call) := ⟨rfl, rfl, rfl, by decide +kernel, rfl, by decide +kernel, by decide +kernel⟩
abbrev s_function : Stmt := topS 36
abbrev N_function : List PySem.Str := ["well", "room", "deep"]
abbrev P_function : List PySem.Str := ["well", "room", "deep"]
theorem sc_function : FnScope N_function P_function (defScope s_function) := ⟨rfl, rfl, rfl, by decide +kernel, rfl, by decide +kernel, by decide +kernel⟩
abbrev s_task : Stmt := topS 37
abbrev N_task : List PySem.Str := ["well", "room", "deep", "way", "states", "state", "some", "k"]
abbrev P_task : List PySem.Str := ["well", "room", "deep"]
theorem sc_task : FnScope N_task P_task (defScope s_task) := ⟨rfl, rfl, rfl, by decide +kernel, rfl, by decide +kernel, by decide +kernel⟩
abbrev s_term : Stmt := topS 38
abbrev N_term : List PySem.Str := ["well", "room", "deep"]
abbrev P_term : List PySem.Str := ["well"]
theorem sc_term : FnScope N_term P_term (defScope s_term) := ⟨rfl, rfl, rfl, by decide +kernel, rfl, by decide +kernel, by decide +kernel⟩
abbrev s_chain : Stmt := topS 39
abbrev N_chain : List PySem.Str := ["well", "end", "way", "k"]
abbrev P_chain : List PySem.Str := ["well", "end"]
theorem sc_chain : FnScope N_chain P_chain (defScope s_chain) := ⟨rfl, rfl, rfl, by decide +kernel, rfl, by decide +kernel, by decide +kernel⟩
abbrev s_odd : Stmt := topS 40
abbrev N_odd : List PySem.Str := ["well", "some"]
abbrev P_odd : List PySem.Str := ["well"]
theorem sc_odd : FnScope N_odd P_odd (defScope s_odd) := ⟨rfl, rfl, rfl, by decide +kernel, rfl, by decide +kernel, by decide +kernel⟩
abbrev s_bent : Stmt := topS 41
abbrev N_bent : List PySem.Str := ["well", "item", "deep", "at", "way", "words"]
abbrev P_bent : List PySem.Str := ["well", "item", "deep"]
theorem sc_bent : FnScope N_bent P_bent (defScope s_bent) := ⟨rfl, rfl, rfl, by decide +kernel, rfl, by decide +kernel, by decide +kernel⟩
abbrev s_w_is_name : Stmt := topS 42
abbrev N_w_is_name : List PySem.Str := ["item", "sign"]
abbrev P_w_is_name : List PySem.Str := ["item"]
theorem sc_w_is_name : FnScope N_w_is_name P_w_is_name (defScope s_w_is_name) := ⟨rfl, rfl, rfl, by decide +kernel, rfl, by decide +kernel, by decide +kernel⟩
abbrev s_w_are_states : Stmt := topS 43
abbrev N_w_are_states : List PySem.Str := ["item", "some", "one"]
abbrev P_w_are_states : List PySem.Str := ["item"]
theorem sc_w_are_states : FnScope N_w_are_states P_w_are_states (defScope s_w_are_states) := ⟨rfl, rfl, rfl, by decide +kernel, rfl, by decide +kernel, by decide +kernel⟩
abbrev s_are_all : Stmt := topS 44
abbrev N_are_all : List PySem.Str := ["things", "wants", "one"]
abbrev P_are_all : List PySem.Str := ["things", "wants"]
theorem sc_are_all : FnScope N_are_all P_are_all (defScope s_are_all) := ⟨rfl, rfl, rfl, by decide +kernel, rfl, by decide +kernel, by decide +kernel⟩
abbrev s_is_term : Stmt := topS 45
abbrev N_is_term : List PySem.Str := ["item", "wants", "word", "many"]
abbrev P_is_term : List PySem.Str := ["item", "wants"]
theorem sc_is_term : FnScope N_is_term P_is_term (defScope s_is_term) := ⟨rfl, rfl, rfl, by decide +kernel, rfl, by decide +kernel, by decide +kernel⟩
abbrev s_definition : Stmt := topS 46
abbrev N_definition : List PySem.Str := ["well", "body", "letters", "first", "lead", "many", "more", "names", "k", "functions", "name"]
abbrev P_definition : List PySem.Str := ["well", "body"]
theorem sc_definition : FnScope N_definition P_definition (defScope s_definition) := ⟨rfl, rfl, rfl, by decide +kernel, rfl, by decide +kernel, by decide +kernel⟩
abbrev s_named_twice : Stmt := topS 47
abbrev N_named_twice : List PySem.Str := ["well", "item", "functions", "tasks", "body", "names", "name", "arity", "at"]
abbrev P_named_twice : List PySem.Str := ["well", "item"]
theorem sc_named_twice : FnScope N_named_twice P_named_twice (defScope s_named_twice) := ⟨rfl, rfl, rfl, by decide +kernel, rfl, by decide +kernel, by decide +kernel⟩
abbrev s_w_is_definition : Stmt := topS 48
abbrev N_w_is_definition : List PySem.Str := ["item", "names", "part", "name"]
abbrev P_w_is_definition : List PySem.Str := ["item"]
theorem sc_w_is_definition : FnScope N_w_is_definition P_w_is_definition (defScope s_w_is_definition) := ⟨rfl, rfl, rfl, by decide +kernel, rfl, by decide +kernel, by decide +kernel⟩
abbrev s_is_right : Stmt := topS 49
abbrev N_is_right : List PySem.Str := ["item", "was", "due", "told", "more"]
abbrev P_is_right : List PySem.Str := ["item"]
theorem sc_is_right : FnScope N_is_right P_is_right (defScope s_is_right) := ⟨rfl, rfl, rfl, by decide +kernel, rfl, by decide +kernel, by decide +kernel⟩
abbrev s_law : Stmt := topS 50
abbrev N_law : List PySem.Str := ["script", "well", "nest", "k", "call", "some", "turn", "term", "ends", "whole", "again", "bent", "item"]
abbrev P_law : List PySem.Str := ["script"]
theorem sc_law : FnScope N_law P_law (defScope s_law) := ⟨rfl, rfl, rfl, by decide +kernel, rfl, by decide +kernel, by decide +kernel⟩
structure Txt (K : PySem.W.Frag) (mg : PySem.Str → Option Value) : Type where
  a_is_integer : Addr
  d_is_integer : FuncData
  F_is_integer : Fun K "is_integer" "is_integer" s_is_integer a_is_integer d_is_integer
  g_is_integer : mg "is_integer" = some (.ref a_is_integer)
  b_is_integer : Binds K d_is_integer P_is_integer []
  a_is_name : Addr
  d_is_name : FuncData
  F_is_name : Fun K "is_name" "is_name" s_is_name a_is_name d_is_name
  g_is_name : mg "is_name" = some (.ref a_is_name)
  b_is_name : Binds K d_is_name P_is_name []
  a_are_ascending : Addr
  d_are_ascending : FuncData
  F_are_ascending : Fun K "are_ascending" "are_ascending" s_are_ascending a_are_ascending d_are_ascending
  g_are_ascending : mg "are_ascending" = some (.ref a_are_ascending)
  b_are_ascending : Binds K d_are_ascending P_are_ascending []
  a_is_state : Addr
  d_is_state : FuncData
  F_is_state : Fun K "is_state" "is_state" s_is_state a_is_state d_is_state
  g_is_state : mg "is_state" = some (.ref a_is_state)
  b_is_state : Binds K d_is_state P_is_state []
  a_are_states : Addr
  d_are_states : FuncData
  F_are_states : Fun K "are_states" "are_states" s_are_states a_are_states d_are_states
  g_are_states : mg "are_states" = some (.ref a_are_states)
  b_are_states : Binds K d_are_states P_are_states []
  a_call_parts : Addr
  d_call_parts : FuncData
  F_call_parts : Fun K "call_parts" "call_parts" s_call_parts a_call_parts d_call_parts
  g_call_parts : mg "call_parts" = some (.ref a_call_parts)
  b_call_parts : Binds K d_call_parts P_call_parts []
  a_function_parts : Addr
  d_function_parts : FuncData
  F_function_parts : Fun K "function_parts" "function_parts" s_function_parts a_function_parts d_function_parts
  g_function_parts : mg "function_parts" = some (.ref a_function_parts)
  b_function_parts : Binds K d_function_parts P_function_parts []
  a_action_parts : Addr
  d_action_parts : FuncData
  F_action_parts : Fun K "action_parts" "action_parts" s_action_parts a_action_parts d_action_parts
  g_action_parts : mg "action_parts" = some (.ref a_action_parts)
  b_action_parts : Binds K d_action_parts P_action_parts []
  a_test_parts : Addr
  d_test_parts : FuncData
  F_test_parts : Fun K "test_parts" "test_parts" s_test_parts a_test_parts d_test_parts
  g_test_parts : mg "test_parts" = some (.ref a_test_parts)
  b_test_parts : Binds K d_test_parts P_test_parts []
  a_task_parts : Addr
  d_task_parts : FuncData
  F_task_parts : Fun K "task_parts" "task_parts" s_task_parts a_task_parts d_task_parts
  g_task_parts : mg "task_parts" = some (.ref a_task_parts)
  b_task_parts : Binds K d_task_parts P_task_parts []
  a_has_form : Addr
  d_has_form : FuncData
  F_has_form : Fun K "has_form" "has_form" s_has_form a_has_form d_has_form
  g_has_form : mg "has_form" = some (.ref a_has_form)
  b_has_form : Binds K d_has_form P_has_form []
  a_is_task : Addr
  d_is_task : FuncData
  F_is_task : Fun K "is_task" "is_task" s_is_task a_is_task d_is_task
  g_is_task : mg "is_task" = some (.ref a_is_task)
  b_is_task : Binds K d_is_task P_is_task []
  a_is_function : Addr
  d_is_function : FuncData
  F_is_function : Fun K "is_function" "is_function" s_is_function a_is_function d_is_function
  g_is_function : mg "is_function" = some (.ref a_is_function)
  b_is_function : Binds K d_is_function P_is_function []
  a_is_arity : Addr
  d_is_arity : FuncData
  F_is_arity : Fun K "is_arity" "is_arity" s_is_arity a_is_arity d_is_arity
  g_is_arity : mg "is_arity" = some (.ref a_is_arity)
  b_is_arity : Binds K d_is_arity P_is_arity []
  a_is_function_parameter : Addr
  d_is_function_parameter : FuncData
  F_is_function_parameter : Fun K "is_function_parameter" "is_function_parameter" s_is_function_parameter a_is_function_parameter d_is_function_parameter
  g_is_function_parameter : mg "is_function_parameter" = some (.ref a_is_function_parameter)
  b_is_function_parameter : Binds K d_is_function_parameter P_is_function_parameter []
  a_is_definition : Addr
  d_is_definition : FuncData
  F_is_definition : Fun K "is_definition" "is_definition" s_is_definition a_is_definition d_is_definition
  g_is_definition : mg "is_definition" = some (.ref a_is_definition)
  b_is_definition : Binds K d_is_definition P_is_definition []
  a_well : Addr
  d_well : FuncData
  F_well : Fun K "_law_well" "_law_well" s_well a_well d_well
  g_well : mg "_law_well" = some (.ref a_well)
  b_well : Binds K d_well P_well []
  a_drawn : Addr
  d_drawn : FuncData
  F_drawn : Fun K "_law_drawn" "_law_drawn" s_drawn a_drawn d_drawn
  g_drawn : mg "_law_drawn" = some (.ref a_drawn)
  b_drawn : Binds K d_drawn P_drawn []
  a_one_of : Addr
  d_one_of : FuncData
  F_one_of : Fun K "_law_one_of" "_law_one_of" s_one_of a_one_of d_one_of
  g_one_of : mg "_law_one_of" = some (.ref a_one_of)
  b_one_of : Binds K d_one_of P_one_of []
  a_name : Addr
  d_name : FuncData
  F_name : Fun K "_law_name" "_law_name" s_name a_name d_name
  g_name : mg "_law_name" = some (.ref a_name)
  b_name : Binds K d_name P_name []
  a_parts : Addr
  d_parts : FuncData
  F_parts : Fun K "_law_parts" "_law_parts" s_parts a_parts d_parts
  g_parts : mg "_law_parts" = some (.ref a_parts)
  b_parts : Binds K d_parts P_parts []
  a_call : Addr
  d_call : FuncData
  F_call : Fun K "_law_call" "_law_call" s_call a_call d_call
  g_call : mg "_law_call" = some (.ref a_call)
  b_call : Binds K d_call P_call []
  a_function : Addr
  d_function : FuncData
  F_function : Fun K "_law_function" "_law_function" s_function a_function d_function
  g_function : mg "_law_function" = some (.ref a_function)
  b_function : Binds K d_function P_function []
  a_task : Addr
  d_task : FuncData
  F_task : Fun K "_law_task" "_law_task" s_task a_task d_task
  g_task : mg "_law_task" = some (.ref a_task)
  b_task : Binds K d_task P_task []
  a_term : Addr
  d_term : FuncData
  F_term : Fun K "_law_term" "_law_term" s_term a_term d_term
  g_term : mg "_law_term" = some (.ref a_term)
  b_term : Binds K d_term P_term []
  a_chain : Addr
  d_chain : FuncData
  F_chain : Fun K "_law_chain" "_law_chain" s_chain a_chain d_chain
  g_chain : mg "_law_chain" = some (.ref a_chain)
  b_chain : Binds K d_chain P_chain []
  a_odd : Addr
  d_odd : FuncData
  F_odd : Fun K "_law_odd" "_law_odd" s_odd a_odd d_odd
  g_odd : mg "_law_odd" = some (.ref a_odd)
  b_odd : Binds K d_odd P_odd []
  a_bent : Addr
  d_bent : FuncData
  F_bent : Fun K "_law_bent" "_law_bent" s_bent a_bent d_bent
  g_bent : mg "_law_bent" = some (.ref a_bent)
  b_bent : Binds K d_bent P_bent []
  a_w_is_name : Addr
  d_w_is_name : FuncData
  F_w_is_name : Fun K "_law_is_name" "_law_is_name" s_w_is_name a_w_is_name d_w_is_name
  g_w_is_name : mg "_law_is_name" = some (.ref a_w_is_name)
  b_w_is_name : Binds K d_w_is_name P_w_is_name []
  a_w_are_states : Addr
  d_w_are_states : FuncData
  F_w_are_states : Fun K "_law_are_states" "_law_are_states" s_w_are_states a_w_are_states d_w_are_states
  g_w_are_states : mg "_law_are_states" = some (.ref a_w_are_states)
  b_w_are_states : Binds K d_w_are_states P_w_are_states []
  a_are_all : Addr
  d_are_all : FuncData
  F_are_all : Fun K "_law_are_all" "_law_are_all" s_are_all a_are_all d_are_all
  g_are_all : mg "_law_are_all" = some (.ref a_are_all)
  b_are_all : Binds K d_are_all P_are_all []
  a_is_term : Addr
  d_is_term : FuncData
  F_is_term : Fun K "_law_is_term" "_law_is_term" s_is_term a_is_term d_is_term
  g_is_term : mg "_law_is_term" = some (.ref a_is_term)
  b_is_term : Binds K d_is_term P_is_term []
  a_definition : Addr
  d_definition : FuncData
  F_definition : Fun K "_law_definition" "_law_definition" s_definition a_definition d_definition
  g_definition : mg "_law_definition" = some (.ref a_definition)
  b_definition : Binds K d_definition P_definition []
  a_named_twice : Addr
  d_named_twice : FuncData
  F_named_twice : Fun K "_law_named_twice" "_law_named_twice" s_named_twice a_named_twice d_named_twice
  g_named_twice : mg "_law_named_twice" = some (.ref a_named_twice)
  b_named_twice : Binds K d_named_twice P_named_twice []
  a_w_is_definition : Addr
  d_w_is_definition : FuncData
  F_w_is_definition : Fun K "_law_is_definition" "_law_is_definition" s_w_is_definition a_w_is_definition d_w_is_definition
  g_w_is_definition : mg "_law_is_definition" = some (.ref a_w_is_definition)
  b_w_is_definition : Binds K d_w_is_definition P_w_is_definition []
  a_is_right : Addr
  d_is_right : FuncData
  F_is_right : Fun K "_law_is_right" "_law_is_right" s_is_right a_is_right d_is_right
  g_is_right : mg "_law_is_right" = some (.ref a_is_right)
  b_is_right : Binds K d_is_right P_is_right []
  a_law : Addr
  d_law : FuncData
  F_law : Fun K "law" "law" s_law a_law d_law
  g_law : mg "law" = some (.ref a_law)
  b_law : Binds K d_law P_law []
  kb_is_task_thing : KB0 K d_is_task P_is_task ["thing"] pm0 pm0
  kb_is_function_thing : KB0 K d_is_function P_is_function ["thing"] pm0 pm0
  kb_is_definition_thing : KB0 K d_is_definition P_is_definition ["thing"] pm0 pm0
  n_all : mg "all" = none
  n_bool : mg "bool" = none
  n_int : mg "int" = none
  n_isinstance : mg "isinstance" = none
  n_len : mg "len" = none
  n_list : mg "list" = none
  n_range : mg "range" = none
  n_repr : mg "repr" = none
  n_set : mg "set" = none
  n_str : mg "str" = none
  n_tuple : mg "tuple" = none
  n_zip : mg "zip" = none
  m_LETTERS : ∃ u, mg "LETTERS" = some u ∧ RelV (.str "abcdefghijklmnopqrstuvwxyz") u
  m_LONGEST_NAME : ∃ u, mg "LONGEST_NAME" = some u ∧ RelV (.int 8) u
  m_MOST_STATES : ∃ u, mg "MOST_STATES" = some u ∧ RelV (.int 3) u
  m_PAIR : ∃ u, mg "PAIR" = some u ∧ RelV (.int 2) u
  a_SINGLE_WORDS : Addr
  m_SINGLE_WORDS : ∃ u, mg "SINGLE_WORDS" = some u ∧ RelV (.ref a_SINGLE_WORDS) u
  q_SINGLE_WORDS : ∀ H : Hp, SqT K H a_SINGLE_WORDS [.str "end", .str "wait", .str "fail"]
  m_ACTION_PARTS : ∃ u, mg "ACTION_PARTS" = some u ∧ RelV (.int 3) u
  m_TEST_PARTS : ∃ u, mg "TEST_PARTS" = some u ∧ RelV (.int 4) u
  m_CALL_PARTS : ∃ u, mg "CALL_PARTS" = some u ∧ RelV (.int 4) u
  m_MOST_PICKED : ∃ u, mg "MOST_PICKED" = some u ∧ RelV (.int 4) u
  a_ARITIES : Addr
  m_ARITIES : ∃ u, mg "ARITIES" = some u ∧ RelV (.ref a_ARITIES) u
  q_ARITIES : ∀ H : Hp, SqT K H a_ARITIES [.int 1, .int 2]
  m_DEFINITION_PARTS : ∃ u, mg "DEFINITION_PARTS" = some u ∧ RelV (.int 3) u
/-! ### the well -/
/-- a dict of the well -/
def WK (l : Addr) (b c : Int) : List (Key × V) := [(.inr "told", .ref l), (.inr "blend", .int b), (.inr "count", .int c)]
theorem wk_told (l : Addr) (b c : Int) : valV (WK l b c) (.inr "told") = some (.ref l) := by rfl
theorem wk_blend (l : Addr) (b c : Int) : valV (WK l b c) (.inr "blend") = some (.int b) := by rfl
theorem wk_count (l : Addr) (b c : Int) : valV (WK l b c) (.inr "count") = some (.int c) := by rfl
theorem wk_put (l : Addr) (b c d : Int) : putK (WK l b c) (.inr "count") (.int d) = WK l b d := by rfl
/-- a well stands at w, its numbers in the list at l; so many draws at most were made -/
def Well (H : Hp) (w l : Addr) (C : Nat) : Prop := w ≠ l ∧ ∃ (b c : Int) (ns : List Int), H w = some (.dK (WK l b c)) ∧ H l = some (.lst (ns.map V.int)) ∧ 0 ≤ b ∧ b < 2147483587 ∧ 0 ≤ c ∧ c ≤ (C : Int) ∧ ns.length ≤ 63
theorem Well.mono {H : Hp} {w l : Addr} {C C' : Nat} (h : Well H w l C) (q : C ≤ C') : Well H w l C' := by
  obtain ⟨n, b, c, ns, h1, h2, h3, h4, h5, h6, h7⟩ := h
  exact ⟨n, b, c, ns, h1, h2, h3, h4, h5, by omega, h7⟩
theorem Well.same {H H' : Hp} {w l : Addr} {C : Nat} (h : Well H w l C) (k : Same H H') : Well H' w l C := by
  obtain ⟨n, b, c, ns, h1, h2, r⟩ := h
  exact ⟨n, b, c, ns, k _ _ h1, k _ _ h2, r⟩
abbrev LIM : Nat := 1000000000
section
variable {P : Program} {w : World} {K : PySem.W.Frag} {mg : PySem.Str → Option Value} {base : Heap}
def sp_well (K : PySem.W.Frag) : Sp := fun vs H Q _ => ∃ (a : Addr) (ns : List Int), vs = [.ref a] ∧ SqL K H a (ns.map V.int) ∧ ns.length ≤ 63 ∧
  ∀ (H' : Hp) (w l : Addr), Same H H' → H w = none → H l = none → Well H' w l 0 → Q (.ref w) H'
def sp_drawn : Sp := fun vs H Q _ => ∃ (w l : Addr) (m : Int) (C : Nat), vs = [.ref w, .int m] ∧ Well H w l C ∧ C < LIM ∧ 0 < m ∧ m < 1073741824 ∧
  ∀ (H' : Hp) (r : Int), Kp [w, l] H H' → Well H' w l (C + 1) → 0 ≤ r → r < m → Q (.int r) H'
theorem cut63 {ns : List Int} (h : ns.length ≤ 63) : cutV (ns.map V.int) none (some 63) = ns.map V.int := by
  unfold cutV
  rw [HT.sIx_none, show HT.sIx (ns.map V.int).length (ns.map V.int).length (some 63) = min 63 (ns.map V.int).length from HT.sIx_nat _ _ 63, List.length_map]
  rw [show min 63 ns.length = ns.length by omega]
  show List.take (ns.length - 0) (ns.map V.int) = _
  exact List.take_of_length_le (by rw [List.length_map]; omega)
theorem mod_in {a m : Int} (h : 0 < m) : 0 ≤ a % m ∧ a % m < m := ⟨Int.emod_nonneg _ (by omega), Int.emod_lt_of_pos _ h⟩
theorem cmul_mod {x m j : Int} (h : 0 < m) (h2 : m ≤ 2 ^ 64) : CMul (x % m) j := .inl ⟨by have := (mod_in (a := x) h).1; omega, by have := (mod_in (a := x) h).2; omega⟩
theorem ok_well (T : Txt K mg) : FnOk P w K mg base CX0 1 T.a_well T.d_well P_well (sp_well K) := by
  refine T.F_well.ok sc_well (fun vs H Q E h => by obtain ⟨a, ns, rfl, _⟩ := h; rfl) (fun cdv A outer s H vs Q E hr h => ?_)
  refine ⟨_, (pss_cons (ps_par (i := 1) (j := 2) (by rfl) sc_well.nd rfl rfl (by decide) rfl rfl (pa_cons (pe_callTy call_list_of (by rfl) T.n_list (by decide +kernel) (pa_cons (pe_slice sl_list (pv 0) po_none (po_some pe_int)) pa_nil)) (pa_cons pe_int pa_nil)) (by rfl))
    (pss_cons (ps_for PassesOwn.never rfl (pi_list (pv 1)) (pg_name (i := 3) sc_well.nd rfl (Or.inl rfl)) (pss_one (ps_set (i := 2) sc_well.nd rfl (Or.inl rfl) (pe_op op_mod (pe_callTy call_int1 (by rfl) T.n_int (by decide +kernel) (pa_cons (pe_op op_add (pe_op op_add (pe_op op_mul (pv 2) pe_int) (pe_op op_mod (pe_callTy call_int1 (by rfl) T.n_int (by decide +kernel) (pa_cons (pv 3) pa_nil)) pe_int)) pe_int) pa_nil)) pe_int))))
    (pss_one (ps_ret (pe_disp (pps_cons pe_str (pe_revL (pv 1)) (pps_cons pe_str (pv 2) (pps_cons pe_str pe_int pps_nil))) (by rfl) (by rfl) (fun z => by cases z) (by decide)))))), ?_⟩
  obtain ⟨a, ns, rfl, hS, hl, q⟩ := h
  refine ⟨_, rfl, 63, rfl, a, ns.map V.int, rfl, hS, fun p hp => ?_⟩
  rw [cut63 hl]
  refine ⟨p, _, rfl, .inl (SqL.of upd_same), fun l hl2 => ?_⟩
  refine ⟨_, _, rfl, ?_⟩
  have pl : l ≠ p := fun e => by
    rw [e, upd_same] at hl2
    cases hl2
  have hl0 : H l = none := by rw [upd_ne pl] at hl2; exact hl2
  have s1 : Same H (upd (upd H p (.lst (ns.map V.int))) l (.lst (ns.map V.int))) := fun b o e => by
    rw [upd_ne (ne_of_none e hl0), upd_ne (ne_of_none e hp)]
    exact e
  generalize hH : upd (upd H p (.lst (ns.map V.int))) l (.lst (ns.map V.int)) = H2 at s1 ⊢
  have hL : H2 l = some (.lst (ns.map V.int)) := by rw [← hH]; exact upd_same
  refine ⟨_, rfl, l, rfl, ⟨_, SqL.of hL⟩, for_list (K := K) (a := l) (xs := ns.map V.int) (fun i σ H' => ∃ (b : Int) (y : Option V), σ = [some (.ref a), some (.ref l), some (.int b), y] ∧ H' = H2 ∧ 0 ≤ b ∧ b < 2147483587)
    ⟨52387, none, rfl, rfl, by decide, by decide⟩ (fun i σ H' _ ⟨_, _, _, e, _⟩ => by rw [e]; exact SqL.of hL) ?_ ?_⟩
  · rintro i x σ H' hi ⟨b, y, rfl, rfl, hb0, hb1⟩
    obtain ⟨z, rfl⟩ : ∃ z, x = V.int z := by
      rw [List.getElem?_map] at hi
      cases e : ns[i]? with
      | none => rw [e] at hi; cases hi
      | some z => rw [e] at hi; exact ⟨z, (Option.some.inj hi).symm⟩
    refine ⟨_, rfl, _, _, rfl, rfl, .inr ⟨by decide, by decide⟩, _, rfl, .inl ⟨_, rfl, _, _, rfl, rfl, (by decide : (0 : Int) < 2147483629), _, _, rfl, rfl, _, _, rfl, rfl, .inl ⟨_, rfl, _, _, rfl, rfl, (by decide : (0 : Int) < 2147483587), ?_⟩⟩⟩
    exact ⟨_, _, rfl, rfl, (mod_in (by decide)).1, (mod_in (by decide)).2⟩
  · rintro σ H' ⟨b, y, rfl, rfl, hb0, hb1⟩
    refine fun d hd => ?_
    have dl : d ≠ l := fun e => by
      rw [e, hL] at hd
      cases hd
    refine ⟨_, rfl, l, ns.map V.int, rfl, SqL.of (by rw [upd_ne dl.symm]; exact hL), fun r hr2 => ?_⟩
    have rd : r ≠ d := fun e => by
      rw [e, upd_same] at hr2
      cases hr2
    have hr0 : H' r = none := by rw [upd_ne rd] at hr2; exact hr2
    refine ⟨_, rfl, ?_⟩
    refine ⟨by rw [upd_ne rd.symm]; exact upd_same, WK r b 0, rfl, (by show 3 ≤ 15; decide), ?_⟩
    refine q _ d r (fun x o e => ?_) (s1.free hd) (s1.free hr0) ⟨rd.symm, b, 0, ns.reverse, ?_, ?_, hb0, hb1, by decide, by decide, by rw [List.length_reverse]; exact hl⟩
    · have e2 := s1 x o e
      rw [upd_ne (ne_of_none e2 hd), upd_ne (ne_of_none e2 hr0), upd_ne (ne_of_none e2 hd)]
      exact e2
    · exact upd_same
    · rw [upd_ne rd, upd_same, List.map_reverse]

theorem ok_drawn (T : Txt K mg) : FnOk P w K mg base CX0 1 T.a_drawn T.d_drawn P_drawn sp_drawn := by
  refine T.F_drawn.ok sc_drawn (fun vs H Q E h => by obtain ⟨w, l, m, C, rfl, _⟩ := h; rfl) (fun cdv A outer s H vs Q E hr h => ?_)
  refine ⟨_, (pss_cons (ps_dput (hu_of hr) (pv 0) pe_str (pe_op op_add (pe_dget (hu_of hr) (pv 0) pe_str (fun _ _ => rfl)) pe_int) rfl)
    (pss_cons (ps_set (i := 2) sc_drawn.nd rfl (Or.inl rfl) (pe_op op_add (pe_dget (hu_of hr) (pv 0) pe_str (fun _ _ => rfl)) (pe_op op_mul (pe_op op_mul pe_int (pe_dget (hu_of hr) (pv 0) pe_str (fun _ _ => rfl))) (pe_dget (hu_of hr) (pv 0) pe_str (fun _ _ => rfl)))))
    (pss_cons (ps_if (pt_cmpR (op_neD hr.units) (pe_dget (hu_of hr) (pv 0) pe_str (fun _ _ => rfl)) (pe_lst pa_nil) (nomark _)) (pss_cons (ps_set (i := 3) sc_drawn.nd rfl (Or.inl rfl) (pe_bm0 PySem.F.plainAttrs_list PySem.F.slot_list_pop PySem.F.type_list_pop mt_pop (pe_dget (hu_of hr) (pv 0) pe_str (fun _ _ => rfl))))
    (pss_cons (ps_if (pt_cmpR op_ge (pv 3) (pe_op op_pow pe_int pe_int) (nomark _)) (pss_cons (ps_expr (pe_bm PySem.F.plainAttrs_list PySem.F.slot_list_append PySem.F.type_list_append mt_append (pe_dget (hu_of hr) (pv 0) pe_str (fun _ _ => rfl)) (pa_cons (pe_op op_fdiv (pv 3) (pv 1)) pa_nil)))
    (pss_one (ps_ret (pe_op op_mod (pe_callTy call_int1 (by rfl) T.n_int (by decide +kernel) (pa_cons (pv 3) pa_nil)) (pv 1))))) pss_nil)
    (pss_one (ps_set (i := 2) sc_drawn.nd rfl (Or.inl rfl) (pe_op op_add (pv 2) (pv 3)))))) pss_nil)
    (pss_cons (ps_set (i := 2) sc_drawn.nd rfl (Or.inl rfl) (pe_op op_mod (pe_callTy call_int1 (by rfl) T.n_int (by decide +kernel) (pa_cons (pe_op op_mul (pe_op op_mod (pe_callTy call_int1 (by rfl) T.n_int (by decide +kernel) (pa_cons (pv 2) pa_nil)) pe_int) pe_int) pa_nil)) pe_int))
    (pss_cons (ps_set (i := 2) sc_drawn.nd rfl (Or.inl rfl) (pe_op op_mod (pe_callTy call_int1 (by rfl) T.n_int (by decide +kernel) (pa_cons (pe_op op_add (pe_op op_add (pe_op op_mul (pv 2) (pv 2)) (pe_op op_mul pe_int (pv 2))) pe_int) pa_nil)) pe_int))
    (pss_one (ps_ret (pe_op op_mod (pe_callTy call_int1 (by rfl) T.n_int (by decide +kernel) (pa_cons (pe_op op_fdiv (pe_op op_mod (pe_callTy call_int1 (by rfl) T.n_int (by decide +kernel) (pa_cons (pe_op op_mul (pv 2) pe_int) pa_nil)) pe_int) pe_int) pa_nil)) (pv 1))))))))), ?_⟩
  obtain ⟨w, l, m, C, rfl, ⟨wl, b, c, ns, hw, hl, b0, b1, c0, c1, n63⟩, hC, m0, m1, q⟩ := h
  refine ⟨_, rfl, w, _, rfl, DGet.k (k := .inr "count") hw, _, _, rfl, rfl, _, rfl, w, _, rfl, DPut.k (k := .inr "count") hw (by show 3 < sizeLine; decide), ?_⟩
  rw [wk_put]
  -- the heap with one draw more
  have k1 : Kp [w, l] H (upd H w (.dK (WK l b (c + 1)))) := (Kp.refl _ H).wr (.inl List.mem_cons_self)
  have hw1 : (upd H w (.dK (WK l b (c + 1)))) w = some (.dK (WK l b (c + 1))) := upd_same
  have hl1 : (upd H w (.dK (WK l b (c + 1)))) l = some (.lst (ns.map V.int)) := by rw [upd_ne wl.symm]; exact hl
  generalize upd H w (.dK (WK l b (c + 1))) = H1 at k1 hw1 hl1 ⊢
  have hC' : (C : Int) < 1000000000 := Int.ofNat_lt.mpr hC
  -- seed
  refine ⟨_, rfl, w, _, rfl, DGet.k (k := .inr "blend") hw1, _, rfl, w, _, rfl, DGet.k (k := .inr "count") hw1, _, _, rfl, rfl, .inl ⟨by decide, by decide⟩, _, rfl, w, _, rfl, DGet.k (k := .inr "count") hw1, _, _, rfl, rfl, .inr ⟨by omega, by omega⟩, _, _, rfl, rfl, ?_⟩
  show tSeq _ _ _ _ _
  generalize b + 60331 * (c + 1) * (c + 1) = seed
  -- if well['told'] != []
  refine ⟨_, rfl, w, _, rfl, DGet.k (k := .inr "told") hw1, Nat.zero_le _, fun p hp => ?_⟩
  have pw : p ≠ w := fun e => by
    rw [e, hw1] at hp
    cases hp
  have pl : p ≠ l := fun e => by
    rw [e, hl1] at hp
    cases hp
  have k2 : Kp [w, l] H (upd H1 p (.lst [])) := k1.trans (Kp.new hp)
  have hw2 : (upd H1 p (.lst [])) w = some (.dK (WK l b (c + 1))) := by rw [upd_ne pw.symm]; exact hw1
  have hl2 : (upd H1 p (.lst [])) l = some (.lst (ns.map V.int)) := by rw [upd_ne pl.symm]; exact hl1
  refine ⟨.list (ns.map .int), .list [], .lst (SqL.of hl2) (dp_ints ns), .lst (SqL.of upd_same) .nil, shaped_ints ns, rfl, _, rfl, ?_⟩
  generalize upd H1 p (.lst []) = H2 at k2 hw2 hl2 ⊢
  rw [eqv_empty]
  have hW2 : ∀ ns' : List Int, ns'.length ≤ 63 → ∀ H3 : Hp, H3 w = some (.dK (WK l b (c + 1))) → H3 l = some (.lst (ns'.map V.int)) → Well H3 w l (C + 1) := fun ns' h63 H3 e1 e2 =>
    ⟨wl, b, c + 1, ns', e1, e2, b0, b1, by omega, by omega, h63⟩
  -- what is left to do, the seed in its slot
  cases ns with
  | nil =>
    refine iteF ?_
    refine ⟨_, rfl, .inl ⟨_, rfl, _, _, rfl, rfl, (by decide : (0 : Int) < 2147483629), _, _, rfl, rfl, cmul_mod (by decide) (by decide), .inl ⟨_, rfl, _, _, rfl, rfl, (by decide : (0 : Int) < 2147483647), ?_⟩⟩⟩
    refine ⟨_, rfl, _, rfl, _, _, rfl, rfl, cmul_mod (by decide) (by decide), _, rfl, _, _, rfl, rfl, .inl ⟨by decide, by decide⟩, _, _, rfl, rfl, _, _, rfl, rfl, .inl ⟨_, rfl, _, _, rfl, rfl, (by decide : (0 : Int) < 2147483563), ?_⟩⟩
    refine ⟨_, rfl, _, _, rfl, rfl, cmul_mod (by decide) (by decide), .inl ⟨_, rfl, _, _, rfl, rfl, (by decide : (0 : Int) < 2147483587), _, _, rfl, rfl, ⟨by decide, by decide⟩, .inl ⟨_, rfl, _, rfl, _, _, rfl, rfl, m0, ?_⟩⟩⟩
    exact q _ _ k2 (hW2 [] (by decide) _ hw2 hl2) (mod_in m0).1 (mod_in m0).2
  | cons z r =>
    refine iteT ?_
    -- number = well['told'].pop()
    have hlast : ((z :: r).map V.int)[((z :: r).map V.int).length - 1]? = some (V.int ((z :: r).getLast (List.cons_ne_nil z r))) := by
      rw [List.length_map, List.getElem?_map, ← List.getLast?_eq_getElem?, List.getLast?_eq_getLast (List.cons_ne_nil z r)]
      rfl
    have hdrop : ((z :: r).map V.int).dropLast = (z :: r).dropLast.map V.int := by rw [List.map_dropLast]
    have hlen : ((z :: r).dropLast).length ≤ 62 := by
      rw [List.length_dropLast]
      omega
    refine ⟨_, rfl, w, _, rfl, DGet.k (k := .inr "told") hw2, .inl ⟨rfl, _, SqL.of hl2⟩, l, _, _, rfl, rfl, hl2, hlast, ?_⟩
    generalize (z :: r).getLast (List.cons_ne_nil z r) = number
    rw [hdrop]
    generalize (z :: r).dropLast = more at hlen
    have hw3 : (upd H2 l (.lst (more.map V.int))) w = some (.dK (WK l b (c + 1))) := by rw [upd_ne wl]; exact hw2
    have hl3 : (upd H2 l (.lst (more.map V.int))) l = some (.lst (more.map V.int)) := upd_same
    have k3 : Kp [w, l] H (upd H2 l (.lst (more.map V.int))) := k2.wr (.inl (List.mem_cons_of_mem _ List.mem_cons_self))
    generalize upd H2 l (.lst (more.map V.int)) = H3 at k3 hw3 hl3 ⊢
    -- if number >= 10 ** 18
    refine ⟨_, rfl, _, _, rfl, rfl, ⟨by decide, by decide, by decide⟩, _, _, rfl, rfl, _, rfl, ite2 (fun e => ?_) (fun e => ?_)⟩
    · refine ⟨_, rfl, w, _, rfl, DGet.k (k := .inr "told") hw3, .inl ⟨rfl, _, SqL.of hl3⟩, _, rfl, _, rfl, _, _, rfl, rfl, ⟨m0, m1⟩, l, _, _, rfl, rfl, hl3, by rw [List.length_map, sizeLine_eq]; omega, ?_⟩
      refine ⟨_, rfl, .inl ⟨_, rfl, _, rfl, _, _, rfl, rfl, m0, ?_⟩⟩
      refine q _ _ (k3.wr (.inl (List.mem_cons_of_mem _ List.mem_cons_self))) (hW2 (more ++ [number / m]) (by rw [List.length_append, List.length_singleton]; omega) _ (by rw [upd_ne wl]; exact hw3) (by rw [upd_same, List.map_append]; rfl)) (mod_in m0).1 (mod_in m0).2
    · refine ⟨_, rfl, _, rfl, _, _, rfl, rfl, ?_⟩
      refine ⟨_, rfl, .inl ⟨_, rfl, _, _, rfl, rfl, (by decide : (0 : Int) < 2147483629), _, _, rfl, rfl, cmul_mod (by decide) (by decide), .inl ⟨_, rfl, _, _, rfl, rfl, (by decide : (0 : Int) < 2147483647), ?_⟩⟩⟩
      refine ⟨_, rfl, _, rfl, _, _, rfl, rfl, cmul_mod (by decide) (by decide), _, rfl, _, _, rfl, rfl, .inl ⟨by decide, by decide⟩, _, _, rfl, rfl, _, _, rfl, rfl, .inl ⟨_, rfl, _, _, rfl, rfl, (by decide : (0 : Int) < 2147483563), ?_⟩⟩
      refine ⟨_, rfl, _, _, rfl, rfl, cmul_mod (by decide) (by decide), .inl ⟨_, rfl, _, _, rfl, rfl, (by decide : (0 : Int) < 2147483587), _, _, rfl, rfl, ⟨by decide, by decide⟩, .inl ⟨_, rfl, _, rfl, _, _, rfl, rfl, m0, ?_⟩⟩⟩
      exact q _ _ k3 (hW2 more (by omega) _ hw3 hl3) (mod_in m0).1 (mod_in m0).2
end
end K05
set_option Elab.async false
set_option linter.all false
set_option maxRecDepth 100000
set_option maxHeartbeats 4000000
/-! k05: is_integer .. are_states. -/
namespace K05
open PySem PySem.Spec PyProof.Rows L2 Zg Zr Zd Zv
/-! ### what the program's small questions answer -/
def isInt (d : PyData) : Bool := isA "int" d && !isA "bool" d
def ABC : List Nat := ("abcdefghijklmnopqrstuvwxyz" : PySem.Str).cps.toList
def isName : PyData → Bool
  | .str x => decide (1 ≤ x.length) && decide (x.length ≤ 8) && x.cps.toList.all fun c => decide (c ∈ ABC)
  | _ => false
section
variable {P : Program} {w : World} {K : PySem.W.Frag} {mg : PySem.Str → Option Value} {base : Heap}
def sp_val (F : PyData → Bool) : Sp := fun vs H Q _ => ∃ (S : List Addr) (v : V) (d : PyData), vs = [v] ∧ Dv S H v d ∧ okv d = true ∧ ∀ (H' : Hp), Same H H' → Q (.bl (F d)) H'
theorem len1 {vs : List V} {v : V} (e : vs = [v]) : vs.length = 1 := by rw [e]; rfl
theorem ok_is_integer (T : Txt K mg) : FnOk P w K mg base CX0 1 T.a_is_integer T.d_is_integer P_is_integer (sp_val isInt) := by
  refine T.F_is_integer.ok sc_is_integer (fun vs H Q E h => by obtain ⟨S, v, d, rfl, _⟩ := h; rfl) (fun cdv A outer s H vs Q E hr h => ?_)
  refine ⟨_, (pss_one (ps_ret (pe_and (pe_callB call_isi (by rfl) T.n_isinstance (by decide +kernel) (pa_cons (pv 0) (pa_cons (pe_bltn (v := .ty "int") (u := .type "int") (by rfl) T.n_int (by decide +kernel) rfl) pa_nil))) (pe_one (pe_not (pe_callB call_isi (by rfl) T.n_isinstance (by decide +kernel) (pa_cons (pv 0) (pa_cons (pe_bltn (v := .ty "bool") (u := .type "bool") (by rfl) T.n_bool (by decide +kernel) rfl) pa_nil)))))))), ?_⟩
  obtain ⟨S, v, d, rfl, hd, hv, q⟩ := h
  refine ⟨_, rfl, v, .ty "int", _, _, _, rfl, .ty _, hd.ty, kit_all K _ (by decide) _ (tyD_mem d), ?_⟩
  have q' := q H (Same.refl H)
  refine ⟨_, rfl, ite2 (fun e => ?_) (fun e => ?_)⟩
  · refine ⟨_, rfl, v, .ty "bool", _, _, _, rfl, .ty _, hd.ty, kit_all K _ (by decide) _ (tyD_mem d), _, rfl, ?_⟩
    unfold isInt isA at q'
    rw [e] at q'
    exact q'
  · unfold isInt isA at q'
    rw [Bool.not_eq_true] at e
    rw [e] at q'
    exact q'
theorem ok_is_name (T : Txt K mg) : FnOk P w K mg base CX0 1 T.a_is_name T.d_is_name P_is_name (sp_val isName) := by
  refine T.F_is_name.ok sc_is_name (fun vs H Q E h => by obtain ⟨S, v, d, rfl, _⟩ := h; rfl) (fun cdv A outer s H vs Q E hr h => ?_)
  refine ⟨_, (pss_cons (ps_if (PW.pt (pw_or (pt_not (pt_val (pe_callB call_isi (by rfl) T.n_isinstance (by decide +kernel) (pa_cons (pv 0) (pa_cons (pe_bltn (v := .ty "str") (u := .type "str") (by rfl) T.n_str (by decide +kernel) rfl) pa_nil))))) (pw_or1 (pt_not (pt_chain op_le op_le pe_int (pe_callB call_len_str (by rfl) T.n_len (by decide +kernel) (pa_cons (pv 0) pa_nil)) (C8.pe_gc rfl T.m_LONGEST_NAME)))))) (pss_one (ps_ret pe_bl)) pss_nil)
    (pss_one (ps_ret (pe_callB (cr_all rfl) (by rfl) T.n_all (by decide +kernel) (pa_cons (pe_lc (own := [("letter", 1)]) rfl sc_is_name.nd (pi_str (pv 0)) (blkOk_by (own := [("letter", 1)]) (N := N_is_name) (sc := defScope s_is_name) (by decide +kernel)) (fun _ _ _ _ _ => (pg_name (i := 1) sc_is_name.nd rfl (Or.inl rfl))) (fun _ _ _ _ _ => pts_nil) (fun _ _ _ _ _ => (pe_cmpR op_in_sign (pv 1) (C8.pe_gc rfl T.m_LETTERS) rfl))) pa_nil))))), ?_⟩
  obtain ⟨S, v, d, rfl, hd, hv, q⟩ := h
  refine ⟨_, rfl, v, .ty "str", _, _, _, rfl, .ty _, hd.ty, kit_all K _ (by decide) _ (tyD_mem d), _, rfl, ?_⟩
  by_cases hs : isA "str" d = true
  · obtain ⟨x, rfl, rfl⟩ := hd.text hs
    refine iteF ?_
    have hx : x.length ≤ 1000 := by
      have h' : (PyData.strOk x && decide (x.length ≤ 1000)) = true := hv
      rw [Bool.and_eq_true] at h'
      exact of_decide_eq_true h'.2
    have qF : isName (.str x) = false → Q (.bl false) H := fun e => by
      have q' := q H (Same.refl H)
      rw [e] at q'
      exact q'
    refine ⟨_, rfl, x, rfl, by rw [sizeLine_eq]; omega, _, _, rfl, rfl, _, rfl, ite2 (fun e => ?_) (fun e => ?_)⟩
    · refine ⟨_, _, rfl, rfl, _, rfl, ?_⟩
      by_cases h8 : (x.length : Int) ≤ 8
      · rw [decide_eq_true h8]
        refine iteF ?_
        refine ⟨_, rfl, x, rfl, fun D hD => ?_⟩
        refine lc_it (walk_str (z := x)) (fun i H' => Same H H' ∧ H' D = some (.lst (((x.cps.toList.take i).map fun c => decide (c ∈ ABC)).map V.bl))) ⟨same_new hD, upd_same⟩ (fun _ _ _ _ => True.intro) ?_ ?_
        · rintro i y H1 H2 hi ⟨k, hDl⟩ ⟨rfl, c, hc, rfl⟩
          have hc' : x.cps.toList[i]? = some c := by simpa using hc
          refine ⟨rfl, _, rfl, c, _, rfl, rfl, _, hDl, ?_, ?_, ?_⟩
          · rw [List.length_map, List.length_map, List.length_take, sizeLine_eq]
            have : x.cps.toList.length = x.length := by simp [PySem.Str.length]
            omega
          · exact fun b o eb => by rw [upd_ne (ne_of_none eb hD)]; exact k _ _ eb
          · rw [upd_same, List.take_succ, hc', List.map_append, List.map_append]
            rfl
        · rintro H1 ⟨k, hDl⟩
          refine ⟨D, _, rfl, SqL.of hDl, ?_⟩
          have q' := q H1 k
          have e2 : isName (.str x) = ((x.cps.toList.take x.cps.size).map fun c => decide (c ∈ ABC)).all id := by
            have h1 : 1 ≤ x.length := by have := of_decide_eq_true e; omega
            show (decide (1 ≤ x.length) && decide (x.length ≤ 8) && x.cps.toList.all fun c => decide (c ∈ ABC)) = _
            rw [decide_eq_true h1, decide_eq_true (by omega : x.length ≤ 8), List.all_map, show x.cps.size = x.cps.toList.length by simp, List.take_length]
            rfl
          rw [e2] at q'
          exact q'
      · rw [decide_eq_false h8]
        refine iteT ?_
        refine qF ?_
        show (decide (1 ≤ x.length) && decide (x.length ≤ 8) && x.cps.toList.all fun c => decide (c ∈ ABC)) = false
        rw [decide_eq_false (by omega : ¬ x.length ≤ 8), Bool.and_false]
        rfl
    · have h1 : ¬ 1 ≤ x.length := fun h => e (decide_eq_true (by omega))
      refine ⟨_, rfl, iteT ?_⟩
      refine qF ?_
      show (decide (1 ≤ x.length) && decide (x.length ≤ 8) && x.cps.toList.all fun c => decide (c ∈ ABC)) = false
      rw [decide_eq_false h1]
      rfl
  · have e : isB "str" (tyD d) = false := by rw [Bool.not_eq_true] at hs; exact hs
    rw [e]
    refine iteT (iteT ?_)
    have q' := q H (Same.refl H)
    have e2 : isName d = false := by
      cases d with
      | str x => exact absurd rfl hs
      | _ => rfl
    rw [e2] at q'
    exact q'
/-- one below the next -/
def asc : List Int → Bool
  | [] => true
  | [_] => true
  | a :: b :: r => decide (a < b) && asc (b :: r)
theorem asc_all : ∀ ns : List Int, asc ns = ((ns.zip ns.tail).map fun p => decide (p.1 < p.2)).all id
  | [] => rfl
  | [_] => rfl
  | a :: b :: r => by
    show (decide (a < b) && asc (b :: r)) = _
    rw [asc_all (b :: r)]
    rfl
def sp_asc (K : PySem.W.Frag) : Sp := fun vs H Q _ => ∃ (a : Addr) (ns : List Int), vs = [.ref a] ∧ H a = some (.tup (ns.map V.int)) ∧ ns.length ≤ 1000 ∧ ∀ (H' : Hp), Same H H' → Q (.bl (asc ns)) H'
theorem walk_zipT {K : PySem.W.Frag} {a b : Addr} {xs ys : List V} {n : Nat} (hn : n = min xs.length ys.length) : Walk (RZ.ItzT K a b) n (fun H => SqT K H a xs ∧ SqT K H b ys) (YPair (fun i => xs[i]?) (fun i => ys[i]?)) := by
  subst hn
  refine ⟨fun i _ hi q => ?_, fun _ q => ⟨xs, ys, q.1, q.2, by omega⟩, fun i H v H' _ q y => ?_⟩
  · have h1 : i < xs.length := by omega
    have h2 : i < ys.length := by omega
    exact ⟨xs, ys, xs[i], ys[i], q.1, q.2, by simp [h1], by simp [h2]⟩
  · obtain ⟨T, x, z, h1, h2, h3, h4, h5⟩ := y
    exact ⟨T, x, z, h1, h2, h3, h4 xs q.1, h5 ys q.2⟩
theorem ok_are_ascending (T : Txt K mg) : FnOk P w K mg base CX0 1 T.a_are_ascending T.d_are_ascending P_are_ascending (sp_asc K) := by
  refine T.F_are_ascending.ok sc_are_ascending (fun vs H Q E h => by obtain ⟨a, ns, rfl, _⟩ := h; rfl) (fun cdv A outer s H vs Q E hr h => ?_)
  refine ⟨_, (pss_one (ps_ret (pe_and (pe_callB call_isi (by rfl) T.n_isinstance (by decide +kernel) (pa_cons (pv 0) (pa_cons (pe_bltn (v := .ty "tuple") (u := .type "tuple") (by rfl) T.n_tuple (by decide +kernel) rfl) pa_nil))) (pe_one (pe_callB (cr_all rfl) (by rfl) T.n_all (by decide +kernel) (pa_cons (pe_lc (own := [("one", 1), ("other", 2)]) rfl sc_are_ascending.nd (RZ.pi_zipA (by rfl) T.n_zip (pa_cons (pv 0) (pa_cons (pe_slice sl_tupA (pv 0) (po_some pe_int) po_none) pa_nil))) (blkOk_by (own := [("one", 1), ("other", 2)]) (N := N_are_ascending) (sc := defScope s_are_ascending) (by decide +kernel)) (fun _ _ _ _ _ => (show PG _ _ (gTup K 2 _) from (pg_tup (by rfl) (pgs_cons (pg_name (i := 1) sc_are_ascending.nd rfl (Or.inl rfl)) (pgs_cons (pg_name (i := 2) sc_are_ascending.nd rfl (Or.inl rfl)) pgs_nil))))) (fun _ _ _ _ _ => pts_nil) (fun _ _ _ _ _ => (pe_cmpR op_lt (pv 1) (pv 2) (nomark _)))) pa_nil)))))), ?_⟩
  obtain ⟨a, ns, rfl, ha, hl, q⟩ := h
  refine ⟨_, rfl, .ref a, .ty "tuple", _, _, true, rfl, .ty _, .base (.tup ha), rfl, _, rfl, ?_⟩
  refine iteT ?_
  refine ⟨_, rfl, _, rfl, 1, rfl, ?_⟩
  dsimp only [tNoPart]
  refine slA_from (K := K) (n := 1) (k := 1) rfl ha fun H1 b k1 hb _ => ?_
  have hnl : (ns.zip ns.tail).length = min ((ns.map V.int).length) (((ns.map V.int).drop 1).length) := by
    rw [List.length_zip, List.length_map, List.length_drop, List.length_map, List.length_tail]
  refine ⟨a, b, _, _, rfl, .inr ⟨SqT.of (k1 _ _ ha), SqT.of hb, fun D hD => ?_⟩⟩
  refine lc_it (walk_zipT (n := (ns.zip ns.tail).length) hnl) (fun i H' => Same H1 H' ∧ H' D = some (.lst ((((ns.zip ns.tail).take i).map fun p => decide (p.1 < p.2)).map V.bl))) ⟨same_new hD, upd_same⟩ (fun i H' _ p => ⟨SqT.of (p.1 _ _ (k1 _ _ ha)), SqT.of (p.1 _ _ hb)⟩) ?_ ?_
  · rintro i x H2 H3 hi ⟨k, hDl⟩ ⟨t, y, z, rfl, ht, rfl, hy, hz⟩
    have hi1 : i < ns.length ∧ i < ns.tail.length := by
      rw [List.length_zip] at hi
      omega
    dsimp only [] at hy hz
    have e1 : y = .int ns[i] := by
      rw [List.getElem?_map, List.getElem?_eq_getElem hi1.1] at hy
      exact (Option.some.inj hy).symm
    have hi2 : i + 1 < ns.length := by have := hi1.2; rw [List.length_tail] at this; omega
    have e2 : z = .int ns.tail[i] := by
      rw [List.getElem?_drop, List.getElem?_map, Nat.add_comm, List.getElem?_eq_getElem hi2] at hz
      rw [List.getElem_tail]
      exact (Option.some.inj hz).symm
    subst e1
    subst e2
    have tD : D ≠ t := ne_of_none hDl ht
    refine ⟨_, _, rfl, SqT.of upd_same, rfl, _, _, rfl, _, _, rfl, rfl, rfl, _, rfl, _, rfl, _, _, rfl, rfl, _, by rw [upd_ne tD]; exact hDl, ?_, ?_, ?_⟩
    · rw [List.length_map, List.length_map, List.length_take, sizeLine_eq]
      omega
    · exact fun b o eb => by
        rw [upd_ne (ne_of_none eb hD)]
        exact same_new ht _ _ (k _ _ eb)
    · rw [upd_same, List.take_succ, List.getElem?_eq_getElem hi, List.map_append, List.map_append, List.getElem_zip]
      rfl
  · rintro H2 ⟨k, hDl⟩
    refine ⟨D, _, rfl, SqL.of hDl, ?_⟩
    rw [List.take_length]
    have q' := q H2 (k1.trans k)
    rw [asc_all] at q'
    exact q'
def isSt : PyData → Bool
  | .int i => decide (0 ≤ i) && decide (i < 3)
  | _ => false
def sp_state : Sp := fun vs H Q _ => ∃ (S : List Addr) (v : V) (d : PyData), vs = [.int 3, v] ∧ Dv S H v d ∧ okv d = true ∧ ∀ (H' : Hp), Same H H' → Q (.bl (isSt d)) H'
theorem ok_is_state (T : Txt K mg) : FnOk P w K mg base CX0 2 T.a_is_state T.d_is_state P_is_state sp_state := by
  refine T.F_is_state.ok sc_is_state (fun vs H Q E h => by obtain ⟨S, v, d, rfl, _⟩ := h; rfl) (fun cdv A outer s H vs Q E hr h => ?_)
  refine ⟨_, (pss_one (ps_ret (pe_and (pe_call (ok_is_integer T) (hr.mono (by decide)) (by rfl) T.g_is_integer T.F_is_integer.kp T.b_is_integer .nil pass0 (pa_cons (pv 1) pa_nil)) (pe_one (pe_chain op_le op_lt pe_int (pv 1) (pv 0)))))), ?_⟩
  obtain ⟨S, v, d, rfl, hd, hv, q⟩ := h
  refine ⟨_, rfl, S, v, d, rfl, hd, hv, fun H1 k1 => ?_⟩
  have q' := q H1 k1
  refine ⟨_, rfl, ite2 (fun e => ?_) (fun e => ?_)⟩
  · have e2 : isA "int" d = true ∧ isA "bool" d = false := by
      have h : (isA "int" d && !isA "bool" d) = true := e
      rw [Bool.and_eq_true, Bool.not_eq_true'] at h
      exact h
    obtain ⟨i, rfl, rfl⟩ := hd.number e2.1 e2.2
    refine ⟨_, rfl, _, _, rfl, rfl, _, rfl, ite2 (fun h => ?_) (fun h => ?_)⟩
    · refine ⟨_, rfl, _, _, rfl, rfl, ?_⟩
      have e3 : isSt (.int i) = decide (i < 3) := by
        show (decide (0 ≤ i) && decide (i < 3)) = _
        rw [h]; rfl
      rw [e3] at q'
      exact q'
    · have e3 : isSt (.int i) = false := by
        show (decide (0 ≤ i) && decide (i < 3)) = _
        rw [Bool.not_eq_true] at h
        rw [h]; rfl
      rw [e3] at q'
      exact q'
  · have e3 : isSt d = false := by
      cases d with
      | int i => exact absurd rfl e
      | _ => rfl
    rw [e3] at q'
    exact q'
end
end K05
set_option Elab.async false
set_option linter.all false
set_option maxRecDepth 100000
set_option maxHeartbeats 4000000
/-! k05: are_states, the parts of terms. -/
namespace K05
open PySem PySem.Spec PyProof.Rows L2 Zg Zr Zd Zv
def intOf : PyData → Int
  | .int i => i
  | _ => 0
def areStates : PyData → Bool
  | .tuple ds => ds.all isSt && asc (ds.map intOf)
  | _ => false
theorem ints_of {S : List Addr} {H : Hp} : ∀ {xs : List V} {ds : List PyData}, DvAll S H xs ds → ds.all isSt = true → xs = (ds.map intOf).map V.int
  | _, _, .nil, _ => rfl
  | _, _, .cons h t, e => by
    rw [List.all_cons, Bool.and_eq_true] at e
    rw [List.map_cons, List.map_cons, ← ints_of t e.2]
    cases h with
    | int i => rfl
    | non => cases e.1
    | bl b => cases e.1
    | str x => cases e.1
    | lst h n t => cases e.1
    | tup h n t => cases e.1
    | dic h n => cases e.1
section
variable {P : Program} {w : World} {K : PySem.W.Frag} {mg : PySem.Str → Option Value} {base : Heap}
def sp_states : Sp := fun vs H Q _ => ∃ (S : List Addr) (v : V) (d : PyData), vs = [.int 3, v] ∧ Dv S H v d ∧ okv d = true ∧ ∀ (H' : Hp), Same H H' → Q (.bl (areStates d)) H'
theorem ok_are_states (T : Txt K mg) : FnOk P w K mg base CX0 3 T.a_are_states T.d_are_states P_are_states sp_states := by
  refine T.F_are_states.ok sc_are_states (fun vs H Q E h => by obtain ⟨S, v, d, rfl, _⟩ := h; rfl) (fun cdv A outer s H vs Q E hr h => ?_)
  refine ⟨_, (pss_one (ps_ret (pe_and (pe_callB call_isi (by rfl) T.n_isinstance (by decide +kernel) (pa_cons (pv 1) (pa_cons (pe_bltn (v := .ty "tuple") (u := .type "tuple") (by rfl) T.n_tuple (by decide +kernel) rfl) pa_nil))) (pe_and (pe_callB (cr_all rfl) (by rfl) T.n_all (by decide +kernel) (pa_cons (pe_lc (own := [("one", 2)]) rfl sc_are_states.nd (pi_tup (pv 1)) (blkOk_by (own := [("one", 2)]) (N := N_are_states) (sc := defScope s_are_states) (by decide +kernel)) (fun _ _ _ _ _ => (pg_name (i := 2) sc_are_states.nd rfl (Or.inl rfl))) (fun _ _ _ _ _ => pts_nil) (fun _ _ _ _ _ => (pe_call (ok_is_state T) (hr.mono (by decide)) (by rfl) T.g_is_state T.F_is_state.kp T.b_is_state .nil pass0 (pa_cons (pv 0) (pa_cons (pv 2) pa_nil))))) pa_nil)) (pe_one (pe_call (ok_are_ascending T) (hr.mono (by decide)) (by rfl) T.g_are_ascending T.F_are_ascending.kp T.b_are_ascending .nil pass0 (pa_cons (pv 1) pa_nil))))))), ?_⟩
  obtain ⟨S, v, d, rfl, hd, hv, q⟩ := h
  refine ⟨_, rfl, v, .ty "tuple", _, _, _, rfl, .ty _, hd.ty, kit_all K _ (by decide) _ (tyD_mem d), ?_⟩
  refine ⟨_, rfl, ite2 (fun e => ?_) (fun e => ?_)⟩
  · obtain ⟨a, xs, ds, rfl, rfl, ha, _, hx⟩ := hd.tuple e
    obtain ⟨hl, hok⟩ := okv_tup hv
    refine ⟨_, rfl, a, rfl, ⟨_, SqT.of ha⟩, fun D hD => ?_⟩
    refine lc_tup (K := K) (a := a) (xs := xs) (fun i H' => Same H H' ∧ H' D = some (.lst (((ds.take i).map isSt).map V.bl))) ⟨same_new hD, upd_same⟩ (fun i H' _ p => SqT.of (p.1 _ _ ha)) ?_ ?_
    · rintro i x H1 hi ⟨k, hDl⟩
      obtain ⟨d, hdi, hdx⟩ := hx.get hi
      refine ⟨rfl, _, rfl, _, rfl, S, x, d, rfl, hdx.kp (Kp.of k), hok d (List.mem_of_getElem? hdi), fun H2 k2 => ?_⟩
      refine ⟨_, k2 _ _ hDl, ?_, ?_, ?_⟩
      · rw [List.length_map, List.length_map, List.length_take, sizeLine_eq]
        omega
      · exact fun b o eb => by
          rw [upd_ne (ne_of_none eb hD)]
          exact k2 _ _ (k _ _ eb)
      · rw [upd_same, List.take_succ, hdi, List.map_append, List.map_append]
        rfl
    · rintro H1 ⟨k, hDl⟩
      rw [hx.length, List.take_length] at hDl
      refine ⟨D, _, rfl, SqL.of hDl, _, rfl, ?_⟩
      have e1 : (ds.map isSt).all id = ds.all isSt := by rw [List.all_map]; rfl
      rw [e1]
      refine ite2 (fun e2 => ?_) (fun e2 => ?_)
      · have hxi := ints_of hx e2
        refine ⟨_, rfl, a, ds.map intOf, rfl, by rw [← hxi]; exact k _ _ ha, by rw [List.length_map]; exact hl, fun H2 k2 => ?_⟩
        have q' := q H2 (k.trans k2)
        have e3 : areStates (.tuple ds) = asc (ds.map intOf) := by
          show (ds.all isSt && _) = _
          rw [e2]; rfl
        rw [e3] at q'
        exact q'
      · have q' := q H1 k
        have e3 : areStates (.tuple ds) = false := by
          show (ds.all isSt && _) = _
          rw [Bool.not_eq_true] at e2
          rw [e2]; rfl
        rw [e3] at q'
        exact q'
  · have q' := q H (Same.refl H)
    have e3 : areStates d = false := by
      cases d with
      | tuple ds => exact absurd rfl e
      | _ => rfl
    rw [e3] at q'
    exact q'
def pairD (p : Bool × PyData) : PyData := .tuple [.bool p.1, p.2]
/-- [(b, x) for x in xs] -/
theorem lc_pairs {K : PySem.W.Frag} {S : List Addr} {a D : Addr} {xs : List V} {ds : List PyData} {b : Bool} {n : Nat} {σ : L2.St} {H1 : Hp} {Qd : Hp → Prop} (ha : H1 a = some (.tup xs)) (hx : DvAll S H1 xs ds) (hl : ds.length ≤ 1000) (hD : H1 D = none) (hT : Trk S H1)
    (h3 : ∀ y : V, ((wipe σ [n]).set n (some y))[n]? = some (some y)) (h2 : ∀ y : V, wipe ((wipe σ [n]).set n (some y)) [n] = wipe σ [n])
    (q : ∀ H' ys, Same H1 H' → H' D = some (.lst ys) → DvAll S H' ys (ds.map fun d => pairD (b, d)) → Qd H') :
    ∃ W : Nat → Nat → Hp → Prop, (∃ m, W 0 m (upd H1 D (.lst []))) ∧ ∀ i m H, W i m H →
      ((Itt K a).stop i H ∧ Qd H) ∨ ((Itt K a).go i H ∧ ∃ Nx : Hp → Prop, (∀ H', Nx H' → ∃ m', m' < m ∧ W (i + 1) m' H') ∧ ∀ x H', (Itt K a).yld i H x H' → gName n x (wipe σ [n]) H' fun σ2 H2 => wipe σ2 [n] = wipe σ [n] ∧ tYes σ2 H2 fun c H3 =>
        if c = true then tTup (tCons (tC (.bl b)) (tCons (tVar n) tNil)) σ2 H3 fun y H4 => ∃ acc, H4 D = some (.lst acc) ∧ acc.length < sizeLine ∧ Nx (upd H4 D (.lst (acc ++ [y]))) else Nx H3) := by
  refine lc_tup (K := K) (a := a) (xs := xs) (fun i H' => ∃ ys, Same H1 H' ∧ H' D = some (.lst ys) ∧ DvAll (D :: S) H' ys ((ds.take i).map fun d => pairD (b, d)) ∧ ys.length ≤ i) ⟨[], same_new hD, upd_same, .nil, Nat.le_refl _⟩ (fun i H' _ ⟨_, p, _⟩ => SqT.of (p _ _ ha)) ?_ ?_
  · rintro i x H' hi ⟨ys, k, hDl, hys, hyl⟩
    obtain ⟨d, hdi, hdx⟩ := hx.get hi
    have hil : i < ds.length := (List.getElem?_eq_some_iff.mp hdi).1
    refine ⟨h2 _, _, h3 _, (by show 2 ≤ sizeLine; decide), fun t ht => ?_⟩
    have kt := same_new (o := .tup [V.bl b, x]) ht
    have nt : t ∉ D :: S := fun m => by
      rcases List.mem_cons.mp m with rfl | m
      · rw [hDl] at ht; cases ht
      · exact (hT.same k) t m ht
    have tD : D ≠ t := ne_of_none hDl ht
    refine ⟨ys, kt _ _ hDl, by rw [sizeLine_eq]; omega, ys ++ [.ref t], ?_, upd_same, ?_, by rw [List.length_append, List.length_singleton]; omega⟩
    · exact fun c o e => by rw [upd_ne (ne_of_none e hD)]; exact kt _ _ (k _ _ e)
    · have kk : Kp (D :: S) H' (upd (upd H' t (.tup [.bl b, x])) D (.lst (ys ++ [.ref t]))) := (Kp.of kt).wr (.inl List.mem_cons_self)
      rw [List.take_succ, hdi, List.map_append]
      refine (hys.kp kk).append (.cons (.tup (by rw [upd_ne (Ne.symm tD), upd_same]) nt (.cons (.bl b) (.cons ?_ .nil))) .nil)
      exact ((hdx.fresh hD).kp (Kp.of k)).kp kk
  · rintro H' ⟨ys, k, hDl, hys, hyl⟩
    rw [hx.length, List.take_length] at hys
    exact q H' ys k hDl (hys.sub fun a m => List.mem_cons_of_mem _ m)
def callParts : List PyData → Option (List (Bool × PyData))
  | [_, nm, .tuple fs, .tuple ts] => if isName nm = true then some (fs.map (fun d => (true, d)) ++ ts.map fun d => (false, d)) else none
  | _ => none
def sp_parts (F : List PyData → Option (List (Bool × PyData))) (pre : List PyData → Prop) : Sp := fun vs H Q _ => ∃ (S : List Addr) (a : Addr) (ds : List PyData), vs = [.ref a] ∧ Trk S H ∧ Dv S H (.ref a) (.tuple ds) ∧ okv (.tuple ds) = true ∧ pre ds ∧
  (F ds = none → ∀ H', Same H H' → Q .non H') ∧ ∀ l, F ds = some l → ∀ (H' : Hp) (r : Addr), Same H H' → H r = none → Dv S H' (.ref r) (.list (l.map pairD)) → Q (.ref r) H'
theorem bool2 (b : Bool) : b = false ∨ b = true := by cases b <;> simp
theorem four {α : Type} {l : List α} (h : l.length = 4) : ∃ a b c d, l = [a, b, c, d] := by
  match l, h with
  | [a, b, c, d], _ => exact ⟨a, b, c, d, rfl⟩
theorem ok_call_parts (T : Txt K mg) : FnOk P w K mg base CX0 2 T.a_call_parts T.d_call_parts P_call_parts (sp_parts callParts fun ds => ds.length = 4) := by
  refine T.F_call_parts.ok sc_call_parts (fun vs H Q E h => by obtain ⟨S, a, ds, rfl, _⟩ := h; rfl) (fun cdv A outer s H vs Q E hr h => ?_)
  refine ⟨_, (pss_cons (ps_asg (pv 0) (pg_tup (by rfl) (pgs_cons (pg_name (i := 1) sc_call_parts.nd rfl (Or.inl rfl)) (pgs_cons (pg_name (i := 2) sc_call_parts.nd rfl (Or.inl rfl)) (pgs_cons (pg_name (i := 3) sc_call_parts.nd rfl (Or.inl rfl)) (pgs_cons (pg_name (i := 4) sc_call_parts.nd rfl (Or.inl rfl)) pgs_nil))))))
    (pss_cons (ps_if (PW.pt (pw_or (pt_not (pt_val (pe_call (ok_is_name T) (hr.mono (by decide)) (by rfl) T.g_is_name T.F_is_name.kp T.b_is_name .nil pass0 (pa_cons (pv 2) pa_nil)))) (pw_or (pt_not (pt_val (pe_callB call_isi (by rfl) T.n_isinstance (by decide +kernel) (pa_cons (pv 3) (pa_cons (pe_bltn (v := .ty "tuple") (u := .type "tuple") (by rfl) T.n_tuple (by decide +kernel) rfl) pa_nil))))) (pw_or1 (pt_not (pt_val (pe_callB call_isi (by rfl) T.n_isinstance (by decide +kernel) (pa_cons (pv 4) (pa_cons (pe_bltn (v := .ty "tuple") (u := .type "tuple") (by rfl) T.n_tuple (by decide +kernel) rfl) pa_nil))))))))) (pss_one (ps_ret pe_non)) pss_nil)
    (pss_one (ps_ret (pe_lst (StX.pa_star (pe_lc (own := [("part", 5)]) rfl sc_call_parts.nd (pi_tup (pv 3)) (blkOk_by (own := [("part", 5)]) (N := N_call_parts) (sc := defScope s_call_parts) (by decide +kernel)) (fun _ _ _ _ _ => (pg_name (i := 5) sc_call_parts.nd rfl (Or.inl rfl))) (fun _ _ _ _ _ => pts_nil) (fun _ _ _ _ _ => (pe_tup (pa_cons pe_bl (pa_cons (pv 5) pa_nil))))) (StX.pa_star (pe_lc (own := [("part", 5)]) rfl sc_call_parts.nd (pi_tup (pv 4)) (blkOk_by (own := [("part", 5)]) (N := N_call_parts) (sc := defScope s_call_parts) (by decide +kernel)) (fun _ _ _ _ _ => (pg_name (i := 5) sc_call_parts.nd rfl (Or.inl rfl))) (fun _ _ _ _ _ => pts_nil) (fun _ _ _ _ _ => (pe_tup (pa_cons pe_bl (pa_cons (pv 5) pa_nil))))) pa_nil))))))), ?_⟩
  obtain ⟨S, a, ds, rfl, hT, hd, hv, h4, q1, q2⟩ := h
  obtain ⟨d0, nm, fs, ts, rfl⟩ := four h4
  cases hd with
  | @tup _ xs _ ha na hx =>
  cases hx with
  | @cons v0 vs0 _ _ h0 hx =>
  cases hx with
  | @cons v1 vs1 _ _ h1 hx =>
  cases hx with
  | @cons v2 vs2 _ _ h2 hx =>
  cases hx with
  | @cons v3 vs3 _ _ h3 hx =>
  cases hx
  obtain ⟨_, hok⟩ := okv_tup hv
  refine ⟨_, rfl, a, _, rfl, SqT.of ha, rfl, _, _, rfl, _, _, rfl, _, _, rfl, _, _, rfl, rfl, ?_⟩
  refine ⟨_, rfl, S, v1, nm, rfl, h1, hok nm (by simp), fun H1 k1 => ?_⟩
  refine ⟨_, rfl, ?_⟩
  rcases bool2 (isName nm) with en | en
  · rw [en]
    refine iteT (iteT (q1 ?_ H1 k1))
    cases fs <;> cases ts <;> try rfl
    show (if isName nm = true then _ else _) = none
    rw [en]
    rfl
  rw [en]
  refine iteF ?_
  refine ⟨_, rfl, v2, .ty "tuple", _, _, _, rfl, .ty _, (h2.kp (Kp.of k1)).ty, kit_all K _ (by decide) _ (tyD_mem fs), _, rfl, ?_⟩
  rcases bool2 (isA "tuple" fs) with ef | ef
  · have ef' : isB "tuple" (tyD fs) = false := ef
    rw [ef']
    refine iteT (iteT (q1 ?_ H1 k1))
    cases fs with
    | tuple l => cases ef
    | _ => rfl
  have ef' : isB "tuple" (tyD fs) = true := ef
  rw [ef']
  refine iteF ?_
  refine ⟨_, rfl, v3, .ty "tuple", _, _, _, rfl, .ty _, (h3.kp (Kp.of k1)).ty, kit_all K _ (by decide) _ (tyD_mem ts), _, rfl, ?_⟩
  rcases bool2 (isA "tuple" ts) with et | et
  · have et' : isB "tuple" (tyD ts) = false := et
    rw [et']
    refine iteT (q1 ?_ H1 k1)
    cases fs <;> cases ts <;> first | rfl | cases et
  have et' : isB "tuple" (tyD ts) = true := et
  rw [et']
  refine iteF ?_
  obtain ⟨a2, xs2, ds2, rfl, rfl, ha2, na2, hx2⟩ := h2.tuple ef
  obtain ⟨a3, xs3, ds3, rfl, rfl, ha3, na3, hx3⟩ := h3.tuple et
  obtain ⟨l2, _⟩ := okv_tup (hok (.tuple ds2) (by simp))
  obtain ⟨l3, _⟩ := okv_tup (hok (.tuple ds3) (by simp))
  refine ⟨_, rfl, a2, rfl, ⟨_, SqT.of (k1 _ _ ha2)⟩, fun D1 hD1 => ?_⟩
  refine lc_pairs (n := 5) (b := true) (S := S) (k1 _ _ ha2) (hx2.kp (Kp.of k1)) l2 hD1 (hT.same k1) (fun _ => rfl) (fun _ => rfl) fun H2 ys2 k2 hD2 hy2 => ?_
  have k12 := k1.trans k2
  refine ⟨D1, _, rfl, .inr (SqL.of hD2), ?_⟩
  refine ⟨_, rfl, a3, rfl, ⟨_, SqT.of (k12 _ _ ha3)⟩, fun D3 hD3 => ?_⟩
  refine lc_pairs (n := 5) (b := false) (S := S) (k12 _ _ ha3) (hx3.kp (Kp.of k12)) l3 hD3 (hT.same k12) (fun _ => rfl) (fun _ => rfl) fun H3 ys3 k3 hD3' hy3 => ?_
  have k13 := k12.trans k3
  refine ⟨D3, _, rfl, .inr (SqL.of hD3'), ?_⟩
  have e2 := hy2.length
  have e3 := hy3.length
  rw [List.length_map] at e2 e3
  refine ⟨by rw [List.length_append, List.append_nil, sizeLine_eq]; omega, fun r hr => ?_⟩
  have k14 := k13.trans (same_new (o := .lst (ys2 ++ (ys3 ++ []))) hr)
  refine q2 _ (by show (if isName nm = true then _ else _) = _; rw [en]; rfl) _ r k14 (k13.free hr) (.lst upd_same ((hT.same k13).out hr) ?_)
  rw [List.append_nil, List.map_append, List.map_map, List.map_map]
  have kk := Kp.of (S := S) (same_new (o := .lst (ys2 ++ ys3)) hr)
  exact ((hy2.kp (Kp.of k3)).kp kk).append (hy3.kp kk)
end
end K05
set_option Elab.async false
set_option linter.all false
set_option maxRecDepth 100000
set_option maxHeartbeats 4000000
/-! k05: the parts of functions and of tasks. -/
namespace K05
open PySem PySem.Spec PyProof.Rows L2 Zg Zr Zd Zv
def oneName : List PyData → Bool
  | [nm] => isName nm
  | _ => false
def actionParts : List PyData → Option (List (Bool × PyData))
  | [_, nm, t] => if isName nm = true then some [(false, t)] else none
  | _ => none
def testParts : List PyData → Option (List (Bool × PyData))
  | [_, s, y, n] => if areStates s = true then some [(false, y), (false, n)] else none
  | _ => none
def partsF : List PyData → Option (List (Bool × PyData))
  | .str w :: rest => if w = "given" then (if oneName rest = true then some [] else none) else if w = "part" ∧ rest.length = 3 then callParts (.str w :: rest) else none
  | _ => none
def partsT : List PyData → Option (List (Bool × PyData))
  | .str w :: rest =>
    if w ∈ (["end", "wait", "fail"] : List PySem.Str) then (if rest = [] then some [] else none)
    else if w = "go" then (if oneName rest = true then some [] else none)
    else if w = "do" then actionParts (.str w :: rest)
    else if w = "test" then testParts (.str w :: rest)
    else if w = "pick" then (if 0 < rest.length ∧ rest.length ≤ 4 then some (rest.map fun d => (false, d)) else none)
    else if w = "call" ∧ rest.length = 3 then callParts (.str w :: rest) else none
  | _ => none
def isStr0 (ds : List PyData) : Prop := ∃ w rest, ds = .str w :: rest
theorem dec_nat (n k : Nat) : decide (V.int (n : Int) = V.int (k : Int)) = decide (n = k) := by
  rw [Bool.eq_iff_iff, decide_eq_true_iff, decide_eq_true_iff]
  constructor
  · intro h
    injection h with h
    omega
  · intro h
    rw [h]
theorem inV_str (x : PySem.Str) (L : List PySem.Str) : inV (.str x) (L.map V.str) = decide (x ∈ L) := by
  unfold inV
  rw [List.any_map, Bool.eq_iff_iff, decide_eq_true_iff, List.any_eq_true]
  constructor
  · rintro ⟨y, hy, e⟩
    have e2 : (y == x) = true := e
    rw [beq_iff_eq] at e2
    exact e2 ▸ hy
  · intro h
    exact ⟨x, h, by show (x == x) = true; rw [beq_iff_eq]⟩
theorem one_of_len {α : Type} {l : List α} (h : l.length = 1) : ∃ x, l = [x] := by
  match l, h with
  | [x], _ => exact ⟨x, rfl⟩
theorem oneName_not {rest : List PyData} (h : rest.length ≠ 1) : oneName rest = false := by
  match rest, h with
  | [], _ => rfl
  | [x], h => exact absurd rfl h
  | _ :: _ :: _, _ => rfl
section
variable {P : Program} {w : World} {K : PySem.W.Frag} {mg : PySem.Str → Option Value} {base : Heap}
theorem ok_function_parts (T : Txt K mg) : FnOk P w K mg base CX0 3 T.a_function_parts T.d_function_parts P_function_parts (sp_parts partsF isStr0) := by
  refine T.F_function_parts.ok sc_function_parts (fun vs H Q E h => by obtain ⟨S, a, ds, rfl, _⟩ := h; rfl) (fun cdv A outer s H vs Q E hr h => ?_)
  refine ⟨_, (pss_cons (ps_if (pt_cmpR op_eq (pe_ix ix_tup (pv 0) pe_int (fun _ _ => rfl)) pe_str (nomark _)) (pss_one (ps_ret (pe_ifExp (PW.pt (pw_and (pt_cmpR op_eq (pe_callB call_len_seq (by rfl) T.n_len (by decide +kernel) (pa_cons (pv 0) pa_nil)) (C8.pe_gc rfl T.m_PAIR) (nomark _)) (pw_and1 (pt_val (pe_call (ok_is_name T) (hr.mono (by decide)) (by rfl) T.g_is_name T.F_is_name.kp T.b_is_name .nil pass0 (pa_cons (pe_ix ix_tup (pv 0) pe_int (fun _ _ => rfl)) pa_nil)))))) (pe_lst pa_nil) pe_non))) pss_nil)
    (pss_one (ps_ret (pe_ifExp (PW.pt (pw_and (pt_cmpR op_eq (pe_ix ix_tup (pv 0) pe_int (fun _ _ => rfl)) pe_str (nomark _)) (pw_and1 (pt_cmpR op_eq (pe_callB call_len_seq (by rfl) T.n_len (by decide +kernel) (pa_cons (pv 0) pa_nil)) (C8.pe_gc rfl T.m_CALL_PARTS) (nomark _))))) (pe_call (ok_call_parts T) (hr.mono (by decide)) (by rfl) T.g_call_parts T.F_call_parts.kp T.b_call_parts .nil pass0 (pa_cons (pv 0) pa_nil)) pe_non)))), ?_⟩
  obtain ⟨S, a, ds, rfl, hT, hd, hv, ⟨wd, rest, rfl⟩, q1, q2⟩ := h
  have hd0 := hd
  cases hd with
  | @tup _ xs _ ha na hx =>
  cases hx with
  | @cons v0 vs _ _ h0 hx =>
  cases h0
  obtain ⟨hlen, hok⟩ := okv_tup hv
  have hxl := hx.length
  refine ⟨_, rfl, a, _, 0, _, rfl, rfl, SqT.of ha, atI_nat (j := 0) rfl, rfl, _, rfl, ?_⟩
  rw [dec_str]
  refine ite2 (fun e => ?_) (fun e => ?_)
  · have e' : wd = "given" := beq_iff_eq.mp e
    have eF : partsF (.str wd :: rest) = if oneName rest = true then some [] else none := if_pos e'
    refine ⟨_, rfl, a, _, rfl, .inr (SqT.of ha), rfl, _, rfl, ?_⟩
    show if decide (V.int ((V.str wd :: vs).length : Int) = V.int ((2 : Nat) : Int)) = true then _ else _
    rw [dec_nat]
    refine ite2 (fun e2 => ?_) (fun e2 => ?_)
    · have e2' : vs.length = 1 := by
        have := of_decide_eq_true e2
        rw [List.length_cons] at this
        omega
      obtain ⟨nm, rfl⟩ := one_of_len (hxl.symm.trans e2')
      cases hx with
      | @cons v1 vs1 _ _ h1 hx =>
      cases hx
      refine ⟨_, rfl, a, _, 1, _, rfl, rfl, SqT.of ha, atI_nat (j := 1) rfl, S, v1, nm, rfl, h1, hok nm (by simp), fun H1 k1 => ⟨_, rfl, ?_⟩⟩
      refine ite2 (fun e3 => ?_) (fun e3 => ?_)
      · refine ⟨Nat.zero_le _, fun r hr => ?_⟩
        exact q2 [] (by rw [eF]; exact if_pos e3) _ r (k1.trans (same_new hr)) (k1.free hr) (.lst upd_same ((hT.same k1).out hr) .nil)
      · exact q1 (by rw [eF]; exact if_neg e3) H1 k1
    · have e2' : rest.length ≠ 1 := fun h => e2 (decide_eq_true (by rw [List.length_cons, hxl, h]))
      refine q1 ?_ H (Same.refl H)
      rw [eF, oneName_not e2']
      rfl
  · have e' : wd ≠ "given" := fun h => e (beq_iff_eq.mpr h)
    have eF : partsF (.str wd :: rest) = if wd = "part" ∧ rest.length = 3 then callParts (.str wd :: rest) else none := if_neg e'
    refine ⟨_, rfl, a, _, 0, _, rfl, rfl, SqT.of ha, atI_nat (j := 0) rfl, rfl, _, rfl, ?_⟩
    rw [dec_str]
    refine ite2 (fun e2 => ?_) (fun e2 => ?_)
    · have e2' : wd = "part" := beq_iff_eq.mp e2
      refine ⟨_, rfl, a, _, rfl, .inr (SqT.of ha), rfl, _, rfl, ?_⟩
      show if decide (V.int ((V.str wd :: vs).length : Int) = V.int ((4 : Nat) : Int)) = true then _ else _
      rw [dec_nat]
      refine ite2 (fun e3 => ?_) (fun e3 => ?_)
      · have h3 : rest.length = 3 := by
          have := of_decide_eq_true e3
          rw [List.length_cons, hxl] at this
          omega
        have eG : partsF (.str wd :: rest) = callParts (.str wd :: rest) := by rw [eF]; exact if_pos ⟨e2', h3⟩
        rw [eG] at q1 q2
        exact ⟨_, rfl, S, a, _, rfl, hT, hd0, hv, (by show (PyData.str wd :: rest).length = 4; rw [List.length_cons, h3]), q1, q2⟩
      · refine q1 ?_ H (Same.refl H)
        rw [eF]
        exact if_neg fun h => e3 (decide_eq_true (by rw [List.length_cons, hxl, h.2]))
    · refine q1 ?_ H (Same.refl H)
      rw [eF]
      exact if_neg fun h => e2 (beq_iff_eq.mpr h.1)
theorem three {α : Type} {l : List α} (h : l.length = 3) : ∃ a b c, l = [a, b, c] := by
  match l, h with
  | [a, b, c], _ => exact ⟨a, b, c, rfl⟩
theorem actionParts_not {ds : List PyData} (h : ds.length ≠ 3) : actionParts ds = none := by
  match ds, h with
  | [], _ => rfl
  | [_], _ => rfl
  | [_, _], _ => rfl
  | [_, _, _], h => exact absurd rfl h
  | _ :: _ :: _ :: _ :: _, _ => rfl
theorem testParts_not {ds : List PyData} (h : ds.length ≠ 4) : testParts ds = none := by
  match ds, h with
  | [], _ => rfl
  | [_], _ => rfl
  | [_, _], _ => rfl
  | [_, _, _], _ => rfl
  | [_, _, _, _], h => exact absurd rfl h
  | _ :: _ :: _ :: _ :: _ :: _, _ => rfl
theorem ok_action_parts (T : Txt K mg) : FnOk P w K mg base CX0 2 T.a_action_parts T.d_action_parts P_action_parts (sp_parts actionParts fun _ => True) := by
  refine T.F_action_parts.ok sc_action_parts (fun vs H Q E h => by obtain ⟨S, a, ds, rfl, _⟩ := h; rfl) (fun cdv A outer s H vs Q E hr h => ?_)
  refine ⟨_, (pss_one (ps_ret (pe_ifExp (PW.pt (pw_and (pt_cmpR op_eq (pe_callB call_len_seq (by rfl) T.n_len (by decide +kernel) (pa_cons (pv 0) pa_nil)) (C8.pe_gc rfl T.m_ACTION_PARTS) (nomark _)) (pw_and1 (pt_val (pe_call (ok_is_name T) (hr.mono (by decide)) (by rfl) T.g_is_name T.F_is_name.kp T.b_is_name .nil pass0 (pa_cons (pe_ix ix_tup (pv 0) pe_int (fun _ _ => rfl)) pa_nil)))))) (pe_lst (pa_cons (pe_tup (pa_cons pe_bl (pa_cons (pe_ix ix_tup (pv 0) pe_int (fun _ _ => rfl)) pa_nil))) pa_nil)) pe_non))), ?_⟩
  obtain ⟨S, a, ds, rfl, hT, hd, hv, _, q1, q2⟩ := h
  cases hd with
  | @tup _ xs _ ha na hx =>
  obtain ⟨hlen, hok⟩ := okv_tup hv
  have hxl := hx.length
  refine ⟨_, rfl, a, _, rfl, .inr (SqT.of ha), rfl, _, rfl, ?_⟩
  show if decide (V.int (xs.length : Int) = V.int ((3 : Nat) : Int)) = true then _ else _
  rw [dec_nat]
  refine ite2 (fun e2 => ?_) (fun e2 => ?_)
  · obtain ⟨d0, nm, d2, rfl⟩ := three (hxl.symm.trans (of_decide_eq_true e2))
    cases hx with
    | @cons v0 vs0 _ _ h0 hx =>
    cases hx with
    | @cons v1 vs1 _ _ h1 hx =>
    cases hx with
    | @cons v2 vs2 _ _ h2 hx =>
    cases hx
    refine ⟨_, rfl, a, _, 1, _, rfl, rfl, SqT.of ha, atI_nat (j := 1) rfl, S, v1, nm, rfl, h1, hok nm (by simp), fun H1 k1 => ⟨_, rfl, ?_⟩⟩
    refine ite2 (fun e3 => ?_) (fun e3 => ?_)
    · refine ⟨_, rfl, a, _, 2, _, rfl, rfl, SqT.of (k1 _ _ ha), atI_nat (j := 2) rfl, (by show 2 ≤ sizeLine; decide), fun t ht => ⟨(by show 1 ≤ sizeLine; decide), fun r hr => ?_⟩⟩
      have kt := same_new (o := .tup [V.bl false, v2]) ht
      have kr := same_new (o := .lst [V.ref t]) hr
      have k13 := k1.trans (kt.trans kr)
      refine q2 [(false, d2)] (if_pos e3) _ r k13 ((k1.trans kt).free hr) (.lst upd_same (((hT.same k1).same kt).out hr) (.cons (.tup (kr _ _ upd_same) ((hT.same k1).out ht) (.cons (.bl false) (.cons (h2.kp (Kp.of k13)) .nil))) .nil))
    · exact q1 (if_neg e3) H1 k1
  · refine q1 (actionParts_not fun h => e2 (decide_eq_true (hxl.trans h))) H (Same.refl H)
theorem ok_test_parts (T : Txt K mg) : FnOk P w K mg base CX0 4 T.a_test_parts T.d_test_parts P_test_parts (sp_parts testParts fun _ => True) := by
  refine T.F_test_parts.ok sc_test_parts (fun vs H Q E h => by obtain ⟨S, a, ds, rfl, _⟩ := h; rfl) (fun cdv A outer s H vs Q E hr h => ?_)
  refine ⟨_, (pss_cons (ps_if (PW.pt (pw_or (pt_cmpR op_ne (pe_callB call_len_seq (by rfl) T.n_len (by decide +kernel) (pa_cons (pv 0) pa_nil)) (C8.pe_gc rfl T.m_TEST_PARTS) (nomark _)) (pw_or1 (pt_not (pt_val (pe_call (ok_are_states T) (hr.mono (by decide)) (by rfl) T.g_are_states T.F_are_states.kp T.b_are_states .nil pass0 (pa_cons (C8.pe_gc rfl T.m_MOST_STATES) (pa_cons (pe_ix ix_tup (pv 0) pe_int (fun _ _ => rfl)) pa_nil)))))))) (pss_one (ps_ret pe_non)) pss_nil)
    (pss_one (ps_ret (pe_lc (own := [("part", 1)]) rfl sc_test_parts.nd (pi_tup (pe_slice sl_tupA (pv 0) (po_some pe_int) po_none)) (blkOk_by (own := [("part", 1)]) (N := N_test_parts) (sc := defScope s_test_parts) (by decide +kernel)) (fun _ _ _ _ _ => (pg_name (i := 1) sc_test_parts.nd rfl (Or.inl rfl))) (fun _ _ _ _ _ => pts_nil) (fun _ _ _ _ _ => (pe_tup (pa_cons pe_bl (pa_cons (pv 1) pa_nil)))))))), ?_⟩
  obtain ⟨S, a, ds, rfl, hT, hd, hv, _, q1, q2⟩ := h
  cases hd with
  | @tup _ xs _ ha na hx =>
  obtain ⟨hlen, hok⟩ := okv_tup hv
  have hxl := hx.length
  refine ⟨_, rfl, a, _, rfl, .inr (SqT.of ha), rfl, _, rfl, ?_⟩
  show if (!decide (V.int (xs.length : Int) = V.int ((4 : Nat) : Int))) = true then _ else _
  rw [dec_nat]
  by_cases h4 : xs.length = 4
  · rw [decide_eq_true h4]
    refine iteF ?_
    obtain ⟨d0, s', y, n, rfl⟩ := four (hxl.symm.trans h4)
    have hx' := hx
    cases hx with
    | @cons v0 vs0 _ _ h0 hx =>
    cases hx with
    | @cons v1 vs1 _ _ h1 hx =>
    refine ⟨_, rfl, a, _, 1, _, rfl, rfl, SqT.of ha, atI_nat (j := 1) rfl, S, v1, s', rfl, h1, hok s' (by simp), fun H1 k1 => ⟨_, rfl, ?_⟩⟩
    rcases bool2 (areStates s') with e3 | e3
    · rw [e3]
      refine iteT (q1 ?_ H1 k1)
      show (if areStates s' = true then _ else _) = _
      rw [e3]; rfl
    · rw [e3]
      refine iteF ?_
      refine ⟨_, rfl, 2, rfl, ?_⟩
      dsimp only [tNoPart]
      refine slA_from (K := K) (n := 2) (k := 2) rfl (k1 _ _ ha) fun H2 b k2 hb hbf => ?_
      refine ⟨b, rfl, ⟨_, SqT.of hb⟩, fun D hD => ?_⟩
      have k12 := k1.trans k2
      refine lc_pairs (n := 1) (b := false) (S := S) hb (hx.kp (Kp.of k12)) (by show 2 ≤ 1000; decide) hD (hT.same k12) (fun _ => rfl) (fun _ => rfl) fun H3 ys k3 hD3 hy => ?_
      have k13 := k12.trans k3
      refine q2 _ (by show (if areStates s' = true then _ else _) = _; rw [e3]; rfl) H3 D k13 (k12.free hD) (.lst hD3 ((hT.same k12).out hD) ?_)
      exact hy
  · rw [decide_eq_false h4]
    exact iteT (q1 (testParts_not fun h => h4 (hxl.trans h)) H (Same.refl H))
theorem ok_task_parts (T : Txt K mg) : FnOk P w K mg base CX0 5 T.a_task_parts T.d_task_parts P_task_parts (sp_parts partsT isStr0) := by
  refine T.F_task_parts.ok sc_task_parts (fun vs H Q E h => by obtain ⟨S, a, ds, rfl, _⟩ := h; rfl) (fun cdv A outer s H vs Q E hr h => ?_)
  refine ⟨_, (pss_cons (ps_set (i := 1) sc_task_parts.nd rfl (Or.inl rfl) (pe_ix ix_tup (pv 0) pe_int (fun _ _ => rfl)))
    (pss_cons (ps_if (pt_cmpR op_in_seq (pv 1) (C8.pe_gc rfl T.m_SINGLE_WORDS) (by rfl)) (pss_one (ps_ret (pe_ifExp (pt_cmpR op_eq (pe_callB call_len_seq (by rfl) T.n_len (by decide +kernel) (pa_cons (pv 0) pa_nil)) pe_int (nomark _)) (pe_lst pa_nil) pe_non))) pss_nil)
    (pss_cons (ps_if (pt_cmpR op_eq (pv 1) pe_str (nomark _)) (pss_one (ps_ret (pe_ifExp (PW.pt (pw_and (pt_cmpR op_eq (pe_callB call_len_seq (by rfl) T.n_len (by decide +kernel) (pa_cons (pv 0) pa_nil)) (C8.pe_gc rfl T.m_PAIR) (nomark _)) (pw_and1 (pt_val (pe_call (ok_is_name T) (hr.mono (by decide)) (by rfl) T.g_is_name T.F_is_name.kp T.b_is_name .nil pass0 (pa_cons (pe_ix ix_tup (pv 0) pe_int (fun _ _ => rfl)) pa_nil)))))) (pe_lst pa_nil) pe_non))) pss_nil)
    (pss_cons (ps_if (pt_cmpR op_eq (pv 1) pe_str (nomark _)) (pss_one (ps_ret (pe_call (ok_action_parts T) (hr.mono (by decide)) (by rfl) T.g_action_parts T.F_action_parts.kp T.b_action_parts .nil pass0 (pa_cons (pv 0) pa_nil)))) pss_nil)
    (pss_cons (ps_if (pt_cmpR op_eq (pv 1) pe_str (nomark _)) (pss_one (ps_ret (pe_call (ok_test_parts T) (hr.mono (by decide)) (by rfl) T.g_test_parts T.F_test_parts.kp T.b_test_parts .nil pass0 (pa_cons (pv 0) pa_nil)))) pss_nil)
    (pss_cons (ps_if (pt_cmpR op_eq (pv 1) pe_str (nomark _)) (pss_one (ps_ret (pe_ifExp (pt_chain op_lt op_le pe_int (pe_callB call_len_seq (by rfl) T.n_len (by decide +kernel) (pa_cons (pv 0) pa_nil)) (pe_op op_add (C8.pe_gc rfl T.m_MOST_PICKED) pe_int)) (pe_lc (own := [("part", 2)]) rfl sc_task_parts.nd (pi_tup (pe_slice sl_tupA (pv 0) (po_some pe_int) po_none)) (blkOk_by (own := [("part", 2)]) (N := N_task_parts) (sc := defScope s_task_parts) (by decide +kernel)) (fun _ _ _ _ _ => (pg_name (i := 2) sc_task_parts.nd rfl (Or.inl rfl))) (fun _ _ _ _ _ => pts_nil) (fun _ _ _ _ _ => (pe_tup (pa_cons pe_bl (pa_cons (pv 2) pa_nil))))) pe_non))) pss_nil)
    (pss_one (ps_ret (pe_ifExp (PW.pt (pw_and (pt_cmpR op_eq (pv 1) pe_str (nomark _)) (pw_and1 (pt_cmpR op_eq (pe_callB call_len_seq (by rfl) T.n_len (by decide +kernel) (pa_cons (pv 0) pa_nil)) (C8.pe_gc rfl T.m_CALL_PARTS) (nomark _))))) (pe_call (ok_call_parts T) (hr.mono (by decide)) (by rfl) T.g_call_parts T.F_call_parts.kp T.b_call_parts .nil pass0 (pa_cons (pv 0) pa_nil)) pe_non))))))))), ?_⟩
  obtain ⟨S, a, ds, rfl, hT, hd, hv, ⟨wd, rest, rfl⟩, q1, q2⟩ := h
  have hd0 := hd
  cases hd with
  | @tup _ xs _ ha na hx =>
  have hx0 := hx
  cases hx with
  | @cons v0 vs _ _ h0 hx =>
  cases h0
  obtain ⟨hlen, hok⟩ := okv_tup hv
  have hxl := hx.length
  have n0 : none = (none : Option (List (Bool × PyData))) := rfl
  refine ⟨_, rfl, a, _, 0, _, rfl, rfl, SqT.of ha, atI_nat (j := 0) rfl, ?_⟩
  dsimp only [gName]
  -- end, wait, fail
  refine ⟨_, rfl, T.a_SINGLE_WORDS, _, rfl, .inr (T.q_SINGLE_WORDS H), rfl, rfl, _, rfl, ?_⟩
  show if inV (.str wd) ((["end", "wait", "fail"] : List PySem.Str).map V.str) = true then _ else _
  rw [inV_str]
  refine ite2 (fun e => ?_) (fun e => ?_)
  · have e' : wd ∈ (["end", "wait", "fail"] : List PySem.Str) := of_decide_eq_true e
    have eF : partsT (.str wd :: rest) = if rest = [] then some [] else none := if_pos e'
    refine ⟨_, rfl, a, _, rfl, .inr (SqT.of ha), rfl, _, rfl, ?_⟩
    show if decide (V.int ((V.str wd :: vs).length : Int) = V.int ((1 : Nat) : Int)) = true then _ else _
    rw [dec_nat]
    refine ite2 (fun e2 => ?_) (fun e2 => ?_)
    · have e2' : rest = [] := by
        have := of_decide_eq_true e2
        rw [List.length_cons, hxl] at this
        exact List.length_eq_zero_iff.mp (by omega)
      refine ⟨Nat.zero_le _, fun r hr => ?_⟩
      exact q2 [] (by rw [eF]; exact if_pos e2') _ r (same_new hr) hr (.lst upd_same (hT.out hr) .nil)
    · refine q1 ?_ H (Same.refl H)
      rw [eF]
      exact if_neg fun h => e2 (decide_eq_true (by rw [List.length_cons, hxl, h]; rfl))
  have e' : wd ∉ (["end", "wait", "fail"] : List PySem.Str) := fun h => e (decide_eq_true h)
  -- go
  refine ⟨_, rfl, rfl, _, rfl, ?_⟩
  rw [dec_str]
  refine ite2 (fun g => ?_) (fun g => ?_)
  · have g' : wd = "go" := beq_iff_eq.mp g
    have eF : partsT (.str wd :: rest) = if oneName rest = true then some [] else none := (if_neg e').trans (if_pos g')
    refine ⟨_, rfl, a, _, rfl, .inr (SqT.of ha), rfl, _, rfl, ?_⟩
    show if decide (V.int ((V.str wd :: vs).length : Int) = V.int ((2 : Nat) : Int)) = true then _ else _
    rw [dec_nat]
    refine ite2 (fun e2 => ?_) (fun e2 => ?_)
    · have e2' : vs.length = 1 := by
        have := of_decide_eq_true e2
        rw [List.length_cons] at this
        omega
      obtain ⟨nm, rfl⟩ := one_of_len (hxl.symm.trans e2')
      cases hx with
      | @cons v1 vs1 _ _ h1 hx =>
      cases hx
      refine ⟨_, rfl, a, _, 1, _, rfl, rfl, SqT.of ha, atI_nat (j := 1) rfl, S, v1, nm, rfl, h1, hok nm (by simp), fun H1 k1 => ⟨_, rfl, ?_⟩⟩
      refine ite2 (fun e3 => ?_) (fun e3 => ?_)
      · refine ⟨Nat.zero_le _, fun r hr => ?_⟩
        exact q2 [] (by rw [eF]; exact if_pos e3) _ r (k1.trans (same_new hr)) (k1.free hr) (.lst upd_same ((hT.same k1).out hr) .nil)
      · exact q1 (by rw [eF]; exact if_neg e3) H1 k1
    · have e2' : rest.length ≠ 1 := fun h => e2 (decide_eq_true (by rw [List.length_cons, hxl, h]))
      refine q1 ?_ H (Same.refl H)
      rw [eF, oneName_not e2']
      rfl
  have g' : wd ≠ "go" := fun h => g (beq_iff_eq.mpr h)
  -- do
  refine ⟨_, rfl, rfl, _, rfl, ?_⟩
  rw [dec_str]
  refine ite2 (fun o => ?_) (fun o => ?_)
  · have o' : wd = "do" := beq_iff_eq.mp o
    have eF : partsT (.str wd :: rest) = actionParts (.str wd :: rest) := (if_neg e').trans ((if_neg g').trans (if_pos o'))
    rw [eF] at q1 q2
    exact ⟨_, rfl, S, a, _, rfl, hT, hd0, hv, True.intro, q1, q2⟩
  have o' : wd ≠ "do" := fun h => o (beq_iff_eq.mpr h)
  -- test
  refine ⟨_, rfl, rfl, _, rfl, ?_⟩
  rw [dec_str]
  refine ite2 (fun t => ?_) (fun t => ?_)
  · have t' : wd = "test" := beq_iff_eq.mp t
    have eF : partsT (.str wd :: rest) = testParts (.str wd :: rest) := (if_neg e').trans ((if_neg g').trans ((if_neg o').trans (if_pos t')))
    rw [eF] at q1 q2
    exact ⟨_, rfl, S, a, _, rfl, hT, hd0, hv, True.intro, q1, q2⟩
  have t' : wd ≠ "test" := fun h => t (beq_iff_eq.mpr h)
  -- pick
  refine ⟨_, rfl, rfl, _, rfl, ?_⟩
  rw [dec_str]
  refine ite2 (fun p => ?_) (fun p => ?_)
  · have p' : wd = "pick" := beq_iff_eq.mp p
    have eF : partsT (.str wd :: rest) = if 0 < rest.length ∧ rest.length ≤ 4 then some (rest.map fun d => (false, d)) else none :=
      (if_neg e').trans ((if_neg g').trans ((if_neg o').trans ((if_neg t').trans (if_pos p'))))
    refine ⟨_, rfl, a, _, rfl, .inr (SqT.of ha), _, _, rfl, rfl, _, rfl, ?_⟩
    show if decide ((1 : Int) < ((V.str wd :: vs).length : Int)) = true then _ else _
    rw [List.length_cons, hxl]
    refine ite2 (fun e2 => ?_) (fun e2 => ?_)
    · have e2' := of_decide_eq_true e2
      refine ⟨_, _, rfl, rfl, _, _, rfl, rfl, _, rfl, ?_⟩
      show if decide (((rest.length + 1 : Nat) : Int) ≤ (4 : Int) + 1) = true then _ else _
      refine ite2 (fun e3 => ?_) (fun e3 => ?_)
      · have e3' := of_decide_eq_true e3
        refine ⟨_, rfl, 1, rfl, ?_⟩
        dsimp only [tNoPart]
        refine slA_from (K := K) (n := 1) (k := 1) rfl ha fun H2 b k2 hb hbf => ?_
        refine ⟨b, rfl, ⟨_, SqT.of hb⟩, fun D hD => ?_⟩
        refine lc_pairs (n := 2) (b := false) (S := S) hb (hx.kp (Kp.of k2)) (by omega) hD (hT.same k2) (fun _ => rfl) (fun _ => rfl) fun H3 ys k3 hD3 hy => ?_
        refine q2 _ (by rw [eF]; exact if_pos ⟨by omega, by omega⟩) H3 D (k2.trans k3) (k2.free hD) (.lst hD3 ((hT.same k2).out hD) ?_)
        rw [List.map_map]
        exact hy
      · refine q1 ?_ H (Same.refl H)
        rw [eF]
        exact if_neg fun h => e3 (decide_eq_true (by omega))
    · refine ⟨_, rfl, iteF (q1 ?_ H (Same.refl H))⟩
      rw [eF]
      exact if_neg fun h => e2 (decide_eq_true (by omega))
  have p' : wd ≠ "pick" := fun h => p (beq_iff_eq.mpr h)
  have eF : partsT (.str wd :: rest) = if wd = "call" ∧ rest.length = 3 then callParts (.str wd :: rest) else none :=
    (if_neg e').trans ((if_neg g').trans ((if_neg o').trans ((if_neg t').trans (if_neg p'))))
  refine ⟨_, rfl, rfl, _, rfl, ?_⟩
  rw [dec_str]
  refine ite2 (fun e2 => ?_) (fun e2 => ?_)
  · have e2' : wd = "call" := beq_iff_eq.mp e2
    refine ⟨_, rfl, a, _, rfl, .inr (SqT.of ha), rfl, _, rfl, ?_⟩
    show if decide (V.int ((V.str wd :: vs).length : Int) = V.int ((4 : Nat) : Int)) = true then _ else _
    rw [dec_nat]
    refine ite2 (fun e3 => ?_) (fun e3 => ?_)
    · have h3 : rest.length = 3 := by
        have := of_decide_eq_true e3
        rw [List.length_cons, hxl] at this
        omega
      have eG : partsT (.str wd :: rest) = callParts (.str wd :: rest) := by rw [eF]; exact if_pos ⟨e2', h3⟩
      rw [eG] at q1 q2
      exact ⟨_, rfl, S, a, _, rfl, hT, hd0, hv, (by show (PyData.str wd :: rest).length = 4; rw [List.length_cons, h3]), q1, q2⟩
    · refine q1 ?_ H (Same.refl H)
      rw [eF]
      exact if_neg fun h => e3 (decide_eq_true (by rw [List.length_cons, hxl, h.2]))
  · refine q1 ?_ H (Same.refl H)
    rw [eF]
    exact if_neg fun h => e2 (beq_iff_eq.mpr h.1)
end
end K05
set_option Elab.async false
set_option linter.all false
set_option maxRecDepth 100000
set_option maxHeartbeats 4000000
/-! k05: has_form. -/
namespace K05
open PySem PySem.Spec PyProof.Rows L2 Zg Zr Zd Zv
theorem asg_via {te : TE} {g : TG} {u : TS} {D : Ends} {σ : L2.St} {H : Hp} (R : VK → Prop) (h : ∀ Q2, R Q2 → te σ H Q2) (h2 : R (fun x H1 => g x σ H1 (u D))) : tSeq (tAsg te g) u D σ H := h _ h2
/-! ### a term's form, by fuel -/
def partsOf (b : Bool) (ds : List PyData) : Option (List (Bool × PyData)) := if b = true then partsF ds else partsT ds
/-- what stands in a term's places; none where it has no form -/
def kidsOf (b : Bool) : PyData → Option (List (Bool × PyData))
  | .tuple (.str w :: rest) => partsOf b (.str w :: rest)
  | _ => none
def okT : Nat → Bool → PyData → Bool
  | 0, _, _ => false
  | n + 1, b, d => (kidsOf b d).elim false fun l => l.all fun p => okT n p.1 p.2
mutual
/-- so many values within -/
def sz : PyData → Nat
  | .list xs | .tuple xs => szAll xs + 1
  | _ => 1
def szAll : List PyData → Nat
  | [] => 0
  | x :: xs => sz x + szAll xs
end
theorem szAll_append : ∀ l m : List PyData, szAll (l ++ m) = szAll l + szAll m
  | [], m => by show szAll m = 0 + szAll m; omega
  | x :: l, m => by
    show sz x + szAll (l ++ m) = sz x + szAll l + szAll m
    rw [szAll_append l m]; omega
theorem sz_pos (d : PyData) : 1 ≤ sz d := by
  cases d <;> first | exact Nat.le_refl _ | exact Nat.succ_le_succ (Nat.zero_le _)
theorem depth_mem : ∀ {l : List PyData} {d : PyData}, d ∈ l → d.depth ≤ PyData.depthAll l
  | x :: l, d, h => by
    show _ ≤ max x.depth (PyData.depthAll l)
    rcases List.mem_cons.mp h with rfl | h
    · exact Nat.le_max_left _ _
    · exact Nat.le_trans (depth_mem h) (Nat.le_max_right _ _)
def szL (l : List (Bool × PyData)) : Nat := szAll (l.map (·.2))
theorem szL_append (l m : List (Bool × PyData)) : szL (l ++ m) = szL l + szL m := by
  unfold szL
  rw [List.map_append, szAll_append]
/-- what is within is smaller -/
def Small (ds : List PyData) (l : List (Bool × PyData)) : Prop := szL l < sz (.tuple ds) ∧ ∀ p ∈ l, p.2.depth < PyData.depth (.tuple ds) ∧ (okv (.tuple ds) = true → okv p.2 = true)
theorem snd_map (b : Bool) (l : List PyData) : (l.map fun d => (b, d)).map (·.2) = l := by
  rw [List.map_map]
  exact List.map_id _
theorem small_nil (ds : List PyData) : Small ds [] := ⟨Nat.succ_pos _, fun p hp => (nomatch hp)⟩
theorem small_tail {b : Bool} {d : PyData} {rest : List PyData} : Small (d :: rest) (rest.map fun d => (b, d)) := by
  refine ⟨?_, fun p hp => ?_⟩
  · unfold szL
    rw [snd_map]
    show szAll rest < sz d + szAll rest + 1
    omega
  · obtain ⟨x, hx, rfl⟩ := List.mem_map.mp hp
    refine ⟨?_, fun h => (okv_tup h).2 x (List.mem_cons_of_mem _ hx)⟩
    have := depth_mem (List.mem_cons_of_mem d hx)
    show x.depth < PyData.depthAll (d :: rest) + 1
    omega
theorem callParts_small {ds : List PyData} {l : List (Bool × PyData)} (h : callParts ds = some l) : Small ds l := by
  unfold callParts at h
  split at h
  · rename_i a nm fs ts
    split at h
    · cases h
      refine ⟨?_, fun p hp => ?_⟩
      · rw [szL_append]
        unfold szL
        rw [snd_map, snd_map]
        show _ < sz a + (sz nm + ((szAll fs + 1) + ((szAll ts + 1) + 0))) + 1
        omega
      · have d2 : PyData.depth (.tuple fs) ≤ PyData.depthAll [a, nm, .tuple fs, .tuple ts] := depth_mem (by simp)
        have d3 : PyData.depth (.tuple ts) ≤ PyData.depthAll [a, nm, .tuple fs, .tuple ts] := depth_mem (by simp)
        have e2 : PyData.depth (.tuple fs) = PyData.depthAll fs + 1 := rfl
        have e3 : PyData.depth (.tuple ts) = PyData.depthAll ts + 1 := rfl
        rcases List.mem_append.mp hp with hp | hp
        · obtain ⟨x, hx, rfl⟩ := List.mem_map.mp hp
          have := depth_mem hx
          refine ⟨?_, fun h => (okv_tup ((okv_tup h).2 (.tuple fs) (by simp))).2 x hx⟩
          show x.depth < PyData.depthAll [a, nm, .tuple fs, .tuple ts] + 1
          omega
        · obtain ⟨x, hx, rfl⟩ := List.mem_map.mp hp
          have := depth_mem hx
          refine ⟨?_, fun h => (okv_tup ((okv_tup h).2 (.tuple ts) (by simp))).2 x hx⟩
          show x.depth < PyData.depthAll [a, nm, .tuple fs, .tuple ts] + 1
          omega
    · cases h
  · cases h
/-- some of the values at hand -/
theorem small_of {ds : List PyData} {l : List (Bool × PyData)} (h : szL l ≤ szAll ds) (hm : ∀ p ∈ l, p.2 ∈ ds) : Small ds l := by
  refine ⟨Nat.lt_succ_of_le h, fun p hp => ⟨Nat.lt_succ_of_le (depth_mem (hm p hp)), fun q => (okv_tup q).2 _ (hm p hp)⟩⟩
theorem actionParts_small {ds : List PyData} {l : List (Bool × PyData)} (h : actionParts ds = some l) : Small ds l := by
  unfold actionParts at h
  split at h
  · rename_i a nm t
    split at h
    · cases h
      refine small_of ?_ fun p hp => ?_
      · show sz t + 0 ≤ sz a + (sz nm + (sz t + 0))
        omega
      · rw [List.mem_singleton] at hp
        subst hp
        simp
    · cases h
  · cases h
theorem testParts_small {ds : List PyData} {l : List (Bool × PyData)} (h : testParts ds = some l) : Small ds l := by
  unfold testParts at h
  split at h
  · rename_i a s y n
    split at h
    · cases h
      refine small_of ?_ fun p hp => ?_
      · show sz y + (sz n + 0) ≤ sz a + (sz s + (sz y + (sz n + 0)))
        omega
      · simp only [List.mem_cons, List.not_mem_nil, or_false] at hp
        rcases hp with rfl | rfl <;> simp
    · cases h
  · cases h
theorem parts_small {b : Bool} {ds : List PyData} {l : List (Bool × PyData)} (h : partsOf b ds = some l) : Small ds l := by
  unfold partsOf at h
  split at h
  · unfold partsF at h
    split at h
    · split at h
      · split at h
        · cases h; exact small_nil _
        · cases h
      · split at h
        · exact callParts_small h
        · cases h
    · cases h
  · unfold partsT at h
    split at h
    · split at h
      · split at h
        · cases h; exact small_nil _
        · cases h
      split at h
      · split at h
        · cases h; exact small_nil _
        · cases h
      split at h
      · exact actionParts_small h
      split at h
      · exact testParts_small h
      split at h
      · split at h
        · cases h; exact small_tail
        · cases h
      split at h
      · exact callParts_small h
      · cases h
    · cases h
theorem kids_small {b : Bool} {d : PyData} {l : List (Bool × PyData)} (h : kidsOf b d = some l) : szL l < sz d ∧ ∀ p ∈ l, p.2.depth < d.depth ∧ (okv d = true → okv p.2 = true) := by
  unfold kidsOf at h
  split at h
  · exact parts_small h
  · cases h
theorem okT_stable : ∀ (n m : Nat) (b : Bool) (d : PyData), d.depth < n → d.depth < m → okT n b d = okT m b d
  | 0, _, _, _, h, _ => absurd h (Nat.not_lt_zero _)
  | _, 0, _, _, _, h => absurd h (Nat.not_lt_zero _)
  | n + 1, m + 1, b, d, h1, h2 => by
    show (kidsOf b d).elim false _ = (kidsOf b d).elim false _
    cases e : kidsOf b d with
    | none => rfl
    | some l =>
      show l.all _ = l.all _
      rw [Bool.eq_iff_iff, List.all_eq_true, List.all_eq_true]
      have q : ∀ p ∈ l, okT n p.1 p.2 = okT m p.1 p.2 := fun p hp => by
        have := ((kids_small e).2 p hp).1
        exact okT_stable n m p.1 p.2 (by omega) (by omega)
      exact ⟨fun h p hp => by rw [← q p hp]; exact h p hp, fun h p hp => by rw [q p hp]; exact h p hp⟩
theorem dvsnoc {S : List Addr} {H : Hp} : ∀ {xs : List V} {ds : List PyData} {d : PyData}, DvAll S H xs (ds ++ [d]) → ∃ ys y, xs = ys ++ [y] ∧ DvAll S H ys ds ∧ Dv S H y d
  | _, [], _, .cons h .nil => ⟨[], _, rfl, .nil, h⟩
  | _, d :: ds, e, .cons h t => by
    obtain ⟨ys, y, rfl, h1, h2⟩ := dvsnoc t
    exact ⟨_ :: ys, y, rfl, .cons h h1, h2⟩
theorem szL_len : ∀ l : List (Bool × PyData), l.length ≤ szL l
  | [] => Nat.le_refl _
  | p :: l => by
    have := szL_len l
    have := sz_pos p.2
    show l.length + 1 ≤ sz p.2 + szL l
    omega
section
variable {P : Program} {w : World} {K : PySem.W.Frag} {mg : PySem.Str → Option Value} {base : Heap}
def sp_form : Sp := fun vs H Q _ => ∃ (S : List Addr) (v : V) (d : PyData) (b : Bool) (n : Nat), vs = [.bl b, v] ∧ Dv S H v d ∧ okv d = true ∧ sz d ≤ 1000000 ∧ d.depth < n ∧ ∀ (H' : Hp), Same H H' → Q (.bl (okT n b d)) H'
theorem ok_has_form (T : Txt K mg) : FnOk P w K mg base CX0 6 T.a_has_form T.d_has_form P_has_form sp_form := by
  refine T.F_has_form.ok sc_has_form (fun vs H Q E h => by obtain ⟨S, v, d, b, n, rfl, _⟩ := h; rfl) (fun cdv A outer s H vs Q E hr h => ?_)
  refine ⟨_, (pss_cons (ps_set (i := 2) sc_has_form.nd rfl (Or.inl rfl) (pe_lst (pa_cons (pe_tup (pa_cons (pv 0) (pa_cons (pv 1) pa_nil))) pa_nil)))
    (pss_cons (ps_while PassesOwn.never (pt_cmpR (op_neE (Nat.lt_of_le_of_lt (Nat.le_add_right _ 64) hr.units)) (pv 2) (pe_lst pa_nil) (nomark _)) (pss_cons (ps_asg (pe_bm0 PySem.F.plainAttrs_list PySem.F.slot_list_pop PySem.F.type_list_pop mt_pop (pv 2)) (pg_tup (by rfl) (pgs_cons (pg_name (i := 3) sc_has_form.nd rfl (Or.inl rfl)) (pgs_cons (pg_name (i := 4) sc_has_form.nd rfl (Or.inl rfl)) pgs_nil))))
    (pss_cons (ps_if (PW.pt (pw_or (pt_not (pt_val (pe_callB call_isi (by rfl) T.n_isinstance (by decide +kernel) (pa_cons (pv 4) (pa_cons (pe_bltn (v := .ty "tuple") (u := .type "tuple") (by rfl) T.n_tuple (by decide +kernel) rfl) pa_nil))))) (pw_or (pt_cmpR (op_eqE (Nat.lt_of_le_of_lt (Nat.le_add_right _ 64) hr.units)) (pv 4) (pe_tup pa_nil) (nomark _)) (pw_or1 (pt_not (pt_val (pe_callB call_isi (by rfl) T.n_isinstance (by decide +kernel) (pa_cons (pe_ix ix_tup (pv 4) pe_int (fun _ _ => rfl)) (pa_cons (pe_bltn (v := .ty "str") (u := .type "str") (by rfl) T.n_str (by decide +kernel) rfl) pa_nil))))))))) (pss_one (ps_ret pe_bl)) pss_nil)
    (pss_cons (ps_set (i := 5) sc_has_form.nd rfl (Or.inl rfl) (pe_ifExp (pt_val (pv 3)) (pe_call (ok_function_parts T) (hr.mono (by decide)) (by rfl) T.g_function_parts T.F_function_parts.kp T.b_function_parts .nil pass0 (pa_cons (pv 4) pa_nil)) (pe_call (ok_task_parts T) (hr.mono (by decide)) (by rfl) T.g_task_parts T.F_task_parts.kp T.b_task_parts .nil pass0 (pa_cons (pv 4) pa_nil))))
    (pss_cons (ps_if (pt_cmpR op_isN (pv 5) pe_non (nomark _)) (pss_one (ps_ret pe_bl)) pss_nil)
    (pss_one (ps_expr (pe_bm PySem.F.plainAttrs_list PySem.F.slot_list_extend PySem.F.type_list_extend mt_extend (pv 2) (pa_cons (pv 5) pa_nil)))))))))
    (pss_one (ps_ret pe_bl)))), ?_⟩
  obtain ⟨S, v, d0, b0, n, rfl, hd0, hv0, hz0, hn0, q⟩ := h
  have hd0 : Dv [] H v d0 := hd0.sub (S' := []) fun a h => nomatch h
  refine ⟨_, rfl, _, rfl, (by show 2 ≤ sizeLine; decide), fun t ht => ⟨(by show 1 ≤ sizeLine; decide), fun wt hwt => ?_⟩⟩
  have k1 := same_new (o := .tup [V.bl b0, v]) ht
  have k2 := same_new (o := .lst [V.ref t]) hwt
  have hw0 : H wt = none := k1.free hwt
  have h0 : DvAll [wt] (upd (upd H t (.tup [V.bl b0, v])) wt (.lst [V.ref t])) [.ref t] [pairD (b0, d0)] := by
    have ht2 := k2 _ _ (show upd H t (.tup [V.bl b0, v]) t = some (.tup [V.bl b0, v]) from upd_same)
    have nt : t ≠ wt := fun e => by rw [← e, upd_same] at hwt; cases hwt
    exact .cons (.tup ht2 (by simpa using nt) (.cons (.bl b0) (.cons ((hd0.fresh hw0).kp (Kp.of (k1.trans k2))) .nil))) .nil
  have hW0 : (upd (upd H t (.tup [V.bl b0, v])) wt (.lst [V.ref t])) wt = some (.lst [V.ref t]) := upd_same
  have k12 := k1.trans k2
  generalize upd (upd H t (.tup [V.bl b0, v])) wt (.lst [V.ref t]) = H2 at h0 hW0 k12 ⊢
  dsimp only [gName]
  refine ⟨fun m σ H' => ∃ (l : List (Bool × PyData)) (xs : List V) (y3 y4 y5 : Option V), m = szL l ∧ σ = [some (.bl b0), some v, some (.ref wt), y3, y4, y5] ∧ H' wt = some (.lst xs) ∧ DvAll [wt] H' xs (l.map pairD) ∧ Same H H' ∧
      okT n b0 d0 = (l.all fun p => okT n p.1 p.2) ∧ (∀ p ∈ l, okv p.2 = true ∧ p.2.depth < n) ∧ szL l ≤ 1000000,
    ⟨_, [(b0, d0)], [.ref t], none, none, none, rfl, rfl, hW0, h0, k12, by simp, fun p hp => ?_, ?_⟩, ?_⟩
  · rw [List.mem_singleton] at hp
    subst hp
    exact ⟨hv0, hn0⟩
  · show sz d0 + 0 ≤ _
    omega
  rintro m σ H1 ⟨l, xs, y3, y4, y5, rfl, rfl, hW, hx, k, hok, hall, hsz⟩
  have hxl := hx.length
  rw [List.length_map] at hxl
  refine ⟨_, rfl, Nat.zero_le _, fun e he => ⟨wt, e, xs, rfl, rfl, .inl ⟨SqL.of (same_new he _ _ hW), SqL.of upd_same⟩, _, rfl, ?_⟩⟩
  have ke := same_new (o := .lst []) he
  have hW1 := ke _ _ hW
  have hx1 := hx.kp (Kp.of ke)
  have kk := k.trans ke
  generalize upd H1 e (.lst []) = H3 at hW1 hx1 kk ⊢
  rcases List.eq_nil_or_concat l with rfl | ⟨l', p, rfl⟩
  · cases hx1
    refine iteF ?_
    have q' := q H3 kk
    rw [hok] at q'
    exact q'
  rw [List.concat_eq_append] at *
  rw [List.map_append] at hx1
  obtain ⟨ys, y, rfl, hys, hy⟩ := dvsnoc hx1
  have hne : (!(ys ++ [y]).isEmpty) = true := by cases ys <;> rfl
  show if (!(ys ++ [y]).isEmpty) = true then _ else _
  rw [hne]
  refine iteT ⟨fun σ' H' => ∃ m', m' < szL (l' ++ [p]) ∧ ∃ (l : List (Bool × PyData)) (xs : List V) (y3 y4 y5 : Option V), m' = szL l ∧ σ' = [some (.bl b0), some v, some (.ref wt), y3, y4, y5] ∧ H' wt = some (.lst xs) ∧ DvAll [wt] H' xs (l.map pairD) ∧ Same H H' ∧
      okT n b0 d0 = (l.all fun p => okT n p.1 p.2) ∧ (∀ p ∈ l, okv p.2 = true ∧ p.2.depth < n) ∧ szL l ≤ 1000000, fun _ _ h => h, ?_⟩
  -- is_wanted, term = waiting.pop()
  obtain ⟨b, d⟩ := p
  cases hy with
  | @tup ta tx _ hta nta htx =>
  cases htx with
  | @cons x0 xr0 _ _ hb htx =>
  cases hb
  cases htx with
  | @cons u xr1 _ _ hu htx =>
  cases htx
  have hlast : (ys ++ [V.ref ta])[(ys ++ [V.ref ta]).length - 1]? = some (.ref ta) := by
    rw [List.length_append, List.getElem?_append_right (by simp)]
    simp
  refine ⟨_, rfl, .inl ⟨rfl, _, SqL.of hW1⟩, wt, _, _, rfl, rfl, hW1, hlast, ?_⟩
  rw [List.dropLast_concat]
  have ntw : ta ≠ wt := fun e => nta (by rw [e]; exact List.mem_cons_self)
  have kw : Kp [wt] H3 (upd H3 wt (.lst ys)) := (Kp.refl _ _).wr (.inl List.mem_cons_self)
  have hta4 := kw _ _ nta hta
  have hys4 := hys.kp kw
  have hu4 := hu.kp kw
  have hW4 : (upd H3 wt (.lst ys)) wt = some (.lst ys) := upd_same
  have k4 : Same H (upd H3 wt (.lst ys)) := fun x o e => by rw [upd_ne (ne_of_none e hw0)]; exact kk _ _ e
  generalize upd H3 wt (.lst ys) = H4 at hta4 hys4 hu4 hW4 k4 ⊢
  have hp : okv d = true ∧ d.depth < n := hall (b, d) (by simp)
  have hrest : ∀ p ∈ l', okv p.2 = true ∧ p.2.depth < n := fun p hp => hall p (by simp [hp])
  have hokl : okT n b0 d0 = ((l'.all fun p => okT n p.1 p.2) && okT n b d) := by
    rw [hok, List.all_append]
    simp
  have hszl : szL l' + sz d ≤ 1000000 ∧ szL (l' ++ [(b, d)]) = szL l' + sz d := by
    rw [szL_append] at hsz ⊢
    have e : szL [(b, d)] = sz d := by show sz d + 0 = sz d; omega
    rw [e] at hsz ⊢
    exact ⟨hsz, rfl⟩
  have hbad : kidsOf b d = none → ∀ H', Same H H' → Q (.bl false) H' := fun e H' k' => by
    have q' := q H' k'
    have e2 : okT n b d = false := by
      cases n with
      | zero => rfl
      | succ n =>
        show (kidsOf b d).elim false _ = false
        rw [e]; rfl
    rw [hokl, e2, Bool.and_false] at q'
    exact q'
  refine ⟨ta, _, rfl, SqT.of hta4, rfl, _, _, rfl, _, _, rfl, rfl, ?_⟩
  -- if not isinstance(term, tuple) or term == () or not isinstance(term[0], str)
  refine ⟨_, rfl, u, .ty "tuple", _, _, _, rfl, .ty _, hu4.ty, kit_all K _ (by decide) _ (tyD_mem d), _, rfl, ?_⟩
  rcases bool2 (isA "tuple" d) with et | et
  · have et' : isB "tuple" (tyD d) = false := et
    rw [et']
    refine iteT (iteT (hbad ?_ H4 k4))
    cases d with
    | tuple l => cases et
    | _ => rfl
  have et' : isB "tuple" (tyD d) = true := et
  rw [et']
  refine iteF ?_
  obtain ⟨a, tx, ds, rfl, rfl, ha, na, hx5⟩ := hu4.tuple et
  refine ⟨_, rfl, Nat.zero_le _, fun e5 he5 => ⟨a, e5, tx, rfl, rfl, .inr ⟨SqT.of (same_new he5 _ _ ha), SqT.of upd_same⟩, _, rfl, ?_⟩⟩
  have s5 := same_new (o := .tup []) he5
  have k5 := k4.trans s5
  cases hx5 with
  | nil => exact iteT (iteT (hbad rfl _ k5))
  | @cons v0 vs0 f0 rest hf hrs =>
  refine iteF ?_
  refine ⟨_, rfl, a, _, 0, _, rfl, rfl, SqT.of (s5 _ _ ha), atI_nat (j := 0) rfl, v0, .ty "str", _, _, _, rfl, .ty _, (hf.kp (Kp.of s5)).ty, kit_all K _ (by decide) _ (tyD_mem f0), _, rfl, ?_⟩
  rcases bool2 (isA "str" f0) with es | es
  · have es' : isB "str" (tyD f0) = false := es
    rw [es']
    refine iteT (hbad ?_ _ k5)
    cases f0 with
    | str x => cases es
    | _ => rfl
  have es' : isB "str" (tyD f0) = true := es
  rw [es']
  refine iteF ?_
  obtain ⟨wd, rfl, rfl⟩ := hf.text es
  have hW5 := s5 _ _ hW4
  have hys5 := hys4.kp (Kp.of s5)
  have hd5 : Dv [wt] (upd H4 e5 (.tup [])) (.ref a) (.tuple (.str wd :: rest)) := (Dv.tup ha na (.cons hf hrs)).kp (Kp.of s5)
  generalize upd H4 e5 (.tup []) = H5 at k5 hW5 hys5 hd5 ⊢
  have hT5 : Trk [wt] H5 := fun x hx => by
    rw [List.mem_singleton] at hx
    rw [hx, hW5]
    exact fun z => nomatch z
  -- parts
  dsimp only [tNext]
  refine asg_via (fun Q2 : VK => (partsOf b (.str wd :: rest) = none → ∀ H', Same H5 H' → Q2 .non H') ∧ ∀ l, partsOf b (.str wd :: rest) = some l → ∀ (H' : Hp) (r : Addr), Same H5 H' → H5 r = none → Dv [wt] H' (.ref r) (.list (l.map pairD)) → Q2 (.ref r) H') (fun Q2 h2 => ?_) ⟨fun e6 H6 k6 => ?_, fun l6 e6 H6 r k6 hr6 hd6 => ?_⟩
  · refine ⟨_, rfl, _, rfl, ?_⟩
    cases b with
    | true => exact iteT ⟨_, rfl, [wt], a, _, rfl, hT5, hd5, hp.1, ⟨wd, rest, rfl⟩, h2.1, h2.2⟩
    | false => exact iteF ⟨_, rfl, [wt], a, _, rfl, hT5, hd5, hp.1, ⟨wd, rest, rfl⟩, h2.1, h2.2⟩
  · refine ⟨_, rfl, rfl, _, rfl, ?_⟩
    exact iteT (hbad e6 H6 (k5.trans k6))
  · refine ⟨_, rfl, rfl, _, rfl, ?_⟩
    refine iteF ?_
    have k56 := k5.trans k6
    have hW6 := k6 _ _ hW5
    have hys6 := hys5.kp (Kp.of k6)
    cases hd6 with
    | @lst _ zs _ hr nr hz =>
    have hzl := hz.length
    rw [List.length_map] at hzl
    obtain ⟨s1, s2⟩ := parts_small e6
    have h6 := szL_len l6
    have h7 := szL_len l'
    have h8 := hys6.length
    rw [List.length_map] at h8
    refine ⟨_, rfl, .inl ⟨rfl, _, SqL.of hW6⟩, _, rfl, wt, r, _, _, rfl, rfl, hW6, hr, by rw [sizeLine_eq]; omega, ?_⟩
    have kf : Kp [wt] H6 (upd H6 wt (.lst (ys ++ zs))) := (Kp.refl _ _).wr (.inl List.mem_cons_self)
    refine ⟨szL (l' ++ l6), by rw [szL_append, hszl.2]; omega, l' ++ l6, ys ++ zs, _, _, _, rfl, rfl, upd_same, ?_, ?_, ?_, ?_, by rw [szL_append]; omega⟩
    · rw [List.map_append]
      exact (hys6.kp kf).append (hz.kp kf)
    · exact fun x o e => by rw [upd_ne (ne_of_none e hw0)]; exact k56 _ _ e
    · rw [hokl, List.all_append]
      congr 1
      cases n with
      | zero => exact absurd hp.2 (Nat.not_lt_zero _)
      | succ n =>
        show (kidsOf b (.tuple (.str wd :: rest))).elim false _ = _
        have e7 : kidsOf b (.tuple (.str wd :: rest)) = some l6 := e6
        rw [e7]
        show l6.all _ = l6.all _
        rw [Bool.eq_iff_iff, List.all_eq_true, List.all_eq_true]
        have hst : ∀ p ∈ l6, okT n p.1 p.2 = okT (n + 1) p.1 p.2 := fun p hp' => by
          have := (s2 p hp').1
          exact okT_stable n (n + 1) p.1 p.2 (by omega) (by omega)
        exact ⟨fun h p hp' => by rw [← hst p hp']; exact h p hp', fun h p hp' => by rw [hst p hp']; exact h p hp'⟩
    · intro p hp'
      rcases List.mem_append.mp hp' with h | h
      · exact hrest p h
      · exact ⟨(s2 p h).2 hp.1, Nat.lt_trans (s2 p h).1 hp.2⟩
end
end K05
set_option Elab.async false
set_option linter.all false
set_option maxRecDepth 100000
set_option maxHeartbeats 4000000
/-! k05: is_task .. is_definition. -/
namespace K05
open PySem PySem.Spec PyProof.Rows L2 Zg Zr Zd Zv
def isAr : PyData → Bool
  | .int i => decide (i = 1) || decide (i = 2)
  | _ => false
def isParam : PyData → Bool
  | .tuple [nm, ar] => isName nm && isAr ar
  | _ => false
def nameOf : PyData → PySem.Str
  | .str x => x
  | .tuple (.str x :: _) => x
  | _ => ""
def isDef3 (n : Nat) : PyData → PyData → PyData → Bool
  | .tuple ps, .tuple ns, body => ps.all isParam && ns.all isName && decide ((ps.map nameOf ++ ns.map nameOf).Nodup) && okT n false body
  | _, _, _ => false
def isDef (n : Nat) : PyData → Bool
  | .tuple [f, t, b] => isDef3 n f t b
  | _ => false
section
variable {P : Program} {w : World} {K : PySem.W.Frag} {mg : PySem.Str → Option Value} {base : Heap}
def sp_is (b : Bool) : Sp := fun vs H Q _ => ∃ (S : List Addr) (v : V) (d : PyData) (n : Nat), vs = [v] ∧ Dv S H v d ∧ okv d = true ∧ sz d ≤ 1000000 ∧ d.depth < n ∧ ∀ (H' : Hp), Same H H' → Q (.bl (okT n b d)) H'
theorem ok_is_task (T : Txt K mg) : FnOk P w K mg base CX0 7 T.a_is_task T.d_is_task P_is_task (sp_is false) := by
  refine T.F_is_task.ok sc_is_task (fun vs H Q E h => by obtain ⟨S, v, d, n, rfl, _⟩ := h; rfl) (fun cdv A outer s H vs Q E hr h => ?_)
  refine ⟨_, (pss_one (ps_ret (pe_call (ok_has_form T) (hr.mono (by decide)) (by rfl) T.g_has_form T.F_has_form.kp T.b_has_form .nil pass0 (pa_cons pe_bl (pa_cons (pv 0) pa_nil))))), ?_⟩
  obtain ⟨S, v, d, n, rfl, hd, hv, hz, hn, q⟩ := h
  exact ⟨_, rfl, S, v, d, false, n, rfl, hd, hv, hz, hn, q⟩
theorem ok_is_function (T : Txt K mg) : FnOk P w K mg base CX0 7 T.a_is_function T.d_is_function P_is_function (sp_is true) := by
  refine T.F_is_function.ok sc_is_function (fun vs H Q E h => by obtain ⟨S, v, d, n, rfl, _⟩ := h; rfl) (fun cdv A outer s H vs Q E hr h => ?_)
  refine ⟨_, (pss_one (ps_ret (pe_call (ok_has_form T) (hr.mono (by decide)) (by rfl) T.g_has_form T.F_has_form.kp T.b_has_form .nil pass0 (pa_cons pe_bl (pa_cons (pv 0) pa_nil))))), ?_⟩
  obtain ⟨S, v, d, n, rfl, hd, hv, hz, hn, q⟩ := h
  exact ⟨_, rfl, S, v, d, true, n, rfl, hd, hv, hz, hn, q⟩
theorem ok_is_arity (T : Txt K mg) : FnOk P w K mg base CX0 2 T.a_is_arity T.d_is_arity P_is_arity (sp_val isAr) := by
  refine T.F_is_arity.ok sc_is_arity (fun vs H Q E h => by obtain ⟨S, v, d, rfl, _⟩ := h; rfl) (fun cdv A outer s H vs Q E hr h => ?_)
  refine ⟨_, (pss_one (ps_ret (pe_and (pe_call (ok_is_integer T) (hr.mono (by decide)) (by rfl) T.g_is_integer T.F_is_integer.kp T.b_is_integer .nil pass0 (pa_cons (pv 0) pa_nil)) (pe_one (pe_cmpR op_in_seq (pv 0) (C8.pe_gc rfl T.m_ARITIES) (by rfl)))))), ?_⟩
  obtain ⟨S, v, d, rfl, hd, hv, q⟩ := h
  refine ⟨_, rfl, S, v, d, rfl, hd, hv, fun H1 k1 => ?_⟩
  have q' := q H1 k1
  refine ⟨_, rfl, ite2 (fun e => ?_) (fun e => ?_)⟩
  · have e2 : isA "int" d = true ∧ isA "bool" d = false := by
      have h : (isA "int" d && !isA "bool" d) = true := e
      rw [Bool.and_eq_true, Bool.not_eq_true'] at h
      exact h
    obtain ⟨i, rfl, rfl⟩ := hd.number e2.1 e2.2
    refine ⟨_, rfl, T.a_ARITIES, _, rfl, .inr (T.q_ARITIES H1), rfl, rfl, ?_⟩
    have e3 : isAr (.int i) = inV (.int i) [.int 1, .int 2] := by
      show (decide (i = 1) || decide (i = 2)) = ((1 == i) || ((2 == i) || false))
      have h1 : ∀ k : Int, (k == i) = decide (i = k) := fun k => by
        rw [Bool.eq_iff_iff, beq_iff_eq, decide_eq_true_iff]
        exact eq_comm
      rw [h1, h1, Bool.or_false]
    rw [e3] at q'
    exact q'
  · have e3 : isAr d = false := by
      cases d with
      | int i => exact absurd rfl e
      | _ => rfl
    rw [e3] at q'
    exact q'
theorem two_of {α : Type} {l : List α} (h : l.length = 2) : ∃ a b, l = [a, b] := by
  match l, h with
  | [a, b], _ => exact ⟨a, b, rfl⟩
theorem isParam_not {ds : List PyData} (h : ds.length ≠ 2) : isParam (.tuple ds) = false := by
  match ds, h with
  | [], _ => rfl
  | [_], _ => rfl
  | [_, _], h => exact absurd rfl h
  | _ :: _ :: _ :: _, _ => rfl
theorem ok_is_function_parameter (T : Txt K mg) : FnOk P w K mg base CX0 3 T.a_is_function_parameter T.d_is_function_parameter P_is_function_parameter (sp_val isParam) := by
  refine T.F_is_function_parameter.ok sc_is_function_parameter (fun vs H Q E h => by obtain ⟨S, v, d, rfl, _⟩ := h; rfl) (fun cdv A outer s H vs Q E hr h => ?_)
  refine ⟨_, (pss_one (ps_ret (pe_and (pe_callB call_isi (by rfl) T.n_isinstance (by decide +kernel) (pa_cons (pv 0) (pa_cons (pe_bltn (v := .ty "tuple") (u := .type "tuple") (by rfl) T.n_tuple (by decide +kernel) rfl) pa_nil))) (pe_and (pe_cmpR op_eq (pe_callB call_len_seq (by rfl) T.n_len (by decide +kernel) (pa_cons (pv 0) pa_nil)) (C8.pe_gc rfl T.m_PAIR) (nomark _)) (pe_and (pe_call (ok_is_name T) (hr.mono (by decide)) (by rfl) T.g_is_name T.F_is_name.kp T.b_is_name .nil pass0 (pa_cons (pe_ix ix_tup (pv 0) pe_int (fun _ _ => rfl)) pa_nil)) (pe_one (pe_call (ok_is_arity T) (hr.mono (by decide)) (by rfl) T.g_is_arity T.F_is_arity.kp T.b_is_arity .nil pass0 (pa_cons (pe_ix ix_tup (pv 0) pe_int (fun _ _ => rfl)) pa_nil)))))))), ?_⟩
  obtain ⟨S, v, d, rfl, hd, hv, q⟩ := h
  have qF : isParam d = false → ∀ H', Same H H' → Q (.bl false) H' := fun e H' k => by
    have q' := q H' k
    rw [e] at q'
    exact q'
  refine ⟨_, rfl, v, .ty "tuple", _, _, _, rfl, .ty _, hd.ty, kit_all K _ (by decide) _ (tyD_mem d), ?_⟩
  refine ⟨_, rfl, ite2 (fun e => ?_) (fun e => ?_)⟩
  · obtain ⟨a, xs, ds, rfl, rfl, ha, _, hx⟩ := hd.tuple e
    obtain ⟨hl, hok⟩ := okv_tup hv
    have hxl := hx.length
    refine ⟨_, rfl, a, _, rfl, .inr (SqT.of ha), rfl, ?_⟩
    show ∃ c, V.bl (decide (V.int (xs.length : Int) = V.int ((2 : Nat) : Int))) = .bl c ∧ _
    rw [dec_nat]
    refine ⟨_, rfl, ite2 (fun e2 => ?_) (fun e2 => ?_)⟩
    · obtain ⟨nm, ar, rfl⟩ := two_of (hxl.symm.trans (of_decide_eq_true e2))
      cases hx with
      | @cons v0 vs0 _ _ h0 hx =>
      cases hx with
      | @cons v1 vs1 _ _ h1 hx =>
      cases hx
      refine ⟨_, rfl, a, _, 0, _, rfl, rfl, SqT.of ha, atI_nat (j := 0) rfl, S, v0, nm, rfl, h0, hok nm (by simp), fun H1 k1 => ⟨_, rfl, ?_⟩⟩
      refine ite2 (fun e3 => ?_) (fun e3 => ?_)
      · refine ⟨_, rfl, a, _, 1, _, rfl, rfl, SqT.of (k1 _ _ ha), atI_nat (j := 1) rfl, S, v1, ar, rfl, h1.kp (Kp.of k1), hok ar (by simp), fun H2 k2 => ?_⟩
        have q' := q H2 (k1.trans k2)
        have e4 : isParam (.tuple [nm, ar]) = isAr ar := by
          show (isName nm && isAr ar) = _
          rw [e3]; rfl
        rw [e4] at q'
        exact q'
      · refine qF ?_ H1 k1
        show (isName nm && isAr ar) = _
        rw [Bool.not_eq_true] at e3
        rw [e3]; rfl
    · exact qF (isParam_not fun h => e2 (decide_eq_true (hxl.trans h))) H (Same.refl H)
  · refine qF ?_ H (Same.refl H)
    cases d with
    | tuple ds => exact absurd rfl e
    | _ => rfl
theorem isDef_three {n : Nat} {ds : List PyData} (h : ds.length ≠ 3) : isDef n (.tuple ds) = false := by
  match ds, h with
  | [], _ => rfl
  | [_], _ => rfl
  | [_, _], _ => rfl
  | [_, _, _], h => exact absurd rfl h
  | _ :: _ :: _ :: _ :: _, _ => rfl
/-- the texts of names -/
theorem names_of {S : List Addr} {H : Hp} : ∀ {xs : List V} {ds : List PyData}, DvAll S H xs ds → ds.all isName = true → xs = (ds.map nameOf).map V.str
  | _, _, .nil, _ => rfl
  | _, _, .cons h t, e => by
    rw [List.all_cons, Bool.and_eq_true] at e
    rw [List.map_cons, List.map_cons, ← names_of t e.2]
    cases h with
    | str x => rfl
    | int i => cases e.1
    | non => cases e.1
    | bl b => cases e.1
    | lst h n t => cases e.1
    | tup h n t => cases e.1
    | dic h n => cases e.1
/-- a parameter's place in the heap -/
theorem param_at {S : List Addr} {H : Hp} {v : V} {d : PyData} (h : Dv S H v d) (e : isParam d = true) : ∃ a y, v = .ref a ∧ H a = some (.tup [.str (nameOf d), y]) := by
  cases h with
  | @tup a xs ds ha na hx =>
    by_cases h2 : ds.length = 2
    · obtain ⟨nm, ar, rfl⟩ := two_of h2
      have e' : (isName nm && isAr ar) = true := e
      rw [Bool.and_eq_true] at e'
      cases hx with
      | @cons v0 vs0 _ _ h0 hx =>
      cases hx with
      | @cons v1 vs1 _ _ h1 hx =>
      cases hx
      cases h0 with
      | str x => exact ⟨a, v1, rfl, ha⟩
      | int i => cases e'.1
      | non => cases e'.1
      | bl b => cases e'.1
      | lst h n t => cases e'.1
      | tup h n t => cases e'.1
      | dic h n => cases e'.1
    · rw [isParam_not h2] at e
      cases e
  | int i => cases e
  | non => cases e
  | bl b => cases e
  | str x => cases e
  | lst h n t => cases e
  | dic h n => cases e
/-- [f(x) for x in xs], f a question of a value -/
theorem lc_all {K : PySem.W.Frag} {S : List Addr} {a D : Addr} {xs : List V} {ds : List PyData} {F : PyData → Bool} {n : Nat} {σ : L2.St} {H1 : Hp} {Qd : Hp → Prop} (ha : H1 a = some (.tup xs)) (hx : DvAll S H1 xs ds) (hok : ∀ d ∈ ds, okv d = true) (hl : ds.length ≤ 1000) (hD : H1 D = none)
    (h3 : ∀ y : V, ((wipe σ [n]).set n (some y))[n]? = some (some y)) (h2 : ∀ y : V, wipe ((wipe σ [n]).set n (some y)) [n] = wipe σ [n]) (q : ∀ H', Same H1 H' → H' D = some (.lst ((ds.map F).map V.bl)) → Qd H') :
    ∃ W : Nat → Nat → Hp → Prop, (∃ m, W 0 m (upd H1 D (.lst []))) ∧ ∀ i m H, W i m H →
      ((Itt K a).stop i H ∧ Qd H) ∨ ((Itt K a).go i H ∧ ∃ Nx : Hp → Prop, (∀ H', Nx H' → ∃ m', m' < m ∧ W (i + 1) m' H') ∧ ∀ x H', (Itt K a).yld i H x H' → gName n x (wipe σ [n]) H' fun σ2 H2 => wipe σ2 [n] = wipe σ [n] ∧ tYes σ2 H2 fun c H3 =>
        if c = true then tCall (sp_val F) [] E0 (tCons (tVar n) tNil) σ2 H3 fun y H4 => ∃ acc, H4 D = some (.lst acc) ∧ acc.length < sizeLine ∧ Nx (upd H4 D (.lst (acc ++ [y]))) else Nx H3) := by
  refine lc_tup (K := K) (a := a) (xs := xs) (fun i H' => Same H1 H' ∧ H' D = some (.lst (((ds.take i).map F).map V.bl))) ⟨same_new hD, upd_same⟩ (fun i H' _ p => SqT.of (p.1 _ _ ha)) ?_ ?_
  · rintro i x H' hi ⟨k, hDl⟩
    obtain ⟨d, hdi, hdx⟩ := hx.get hi
    refine ⟨h2 _, _, h3 _, S, x, d, rfl, hdx.kp (Kp.of k), hok d (List.mem_of_getElem? hdi), fun H2 k2 => ?_⟩
    refine ⟨_, k2 _ _ hDl, ?_, ?_, ?_⟩
    · rw [List.length_map, List.length_map, List.length_take, sizeLine_eq]
      omega
    · exact fun b o eb => by
        rw [upd_ne (ne_of_none eb hD)]
        exact k2 _ _ (k _ _ eb)
    · rw [upd_same, List.take_succ, hdi, List.map_append, List.map_append]
      rfl
  · rintro H' ⟨k, hDl⟩
    rw [hx.length, List.take_length] at hDl
    exact q H' k hDl
theorem all_id (l : List Bool) : l.all id = l.all fun b => b := rfl
def sp_def : Sp := fun vs H Q _ => ∃ (S : List Addr) (v : V) (d : PyData) (n : Nat), vs = [v] ∧ Dv S H v d ∧ okv d = true ∧ sz d ≤ 1000000 ∧ d.depth < n ∧ ∀ (H' : Hp), Same H H' → Q (.bl (isDef n d)) H'
theorem ok_is_definition (T : Txt K mg) : FnOk P w K mg base CX0 8 T.a_is_definition T.d_is_definition P_is_definition sp_def := by
  refine T.F_is_definition.ok sc_is_definition (fun vs H Q E h => by obtain ⟨S, v, d, n, rfl, _⟩ := h; rfl) (fun cdv A outer s H vs Q E hr h => ?_)
  refine ⟨_, (pss_cons (ps_if (PW.pt (pw_or (pt_not (pt_val (pe_callB call_isi (by rfl) T.n_isinstance (by decide +kernel) (pa_cons (pv 0) (pa_cons (pe_bltn (v := .ty "tuple") (u := .type "tuple") (by rfl) T.n_tuple (by decide +kernel) rfl) pa_nil))))) (pw_or1 (pt_cmpR op_ne (pe_callB call_len_seq (by rfl) T.n_len (by decide +kernel) (pa_cons (pv 0) pa_nil)) (C8.pe_gc rfl T.m_DEFINITION_PARTS) (nomark _))))) (pss_one (ps_ret pe_bl)) pss_nil)
    (pss_cons (ps_asg (pv 0) (pg_tup (by rfl) (pgs_cons (pg_name (i := 1) sc_is_definition.nd rfl (Or.inl rfl)) (pgs_cons (pg_name (i := 2) sc_is_definition.nd rfl (Or.inl rfl)) (pgs_cons (pg_name (i := 3) sc_is_definition.nd rfl (Or.inl rfl)) pgs_nil)))))
    (pss_cons (ps_if (PW.pt (pw_or (pt_not (pt_val (pe_callB call_isi (by rfl) T.n_isinstance (by decide +kernel) (pa_cons (pv 1) (pa_cons (pe_bltn (v := .ty "tuple") (u := .type "tuple") (by rfl) T.n_tuple (by decide +kernel) rfl) pa_nil))))) (pw_or1 (pt_not (pt_val (pe_callB (cr_all rfl) (by rfl) T.n_all (by decide +kernel) (pa_cons (pe_lc (own := [("part", 4)]) rfl sc_is_definition.nd (pi_tup (pv 1)) (blkOk_by (own := [("part", 4)]) (N := N_is_definition) (sc := defScope s_is_definition) (by decide +kernel)) (fun _ _ _ _ _ => (pg_name (i := 4) sc_is_definition.nd rfl (Or.inl rfl))) (fun _ _ _ _ _ => pts_nil) (fun _ _ _ _ _ => (pe_call (ok_is_function_parameter T) (hr.mono (by decide)) (by rfl) T.g_is_function_parameter T.F_is_function_parameter.kp T.b_is_function_parameter .nil pass0 (pa_cons (pv 4) pa_nil)))) pa_nil))))))) (pss_one (ps_ret pe_bl)) pss_nil)
    (pss_cons (ps_if (PW.pt (pw_or (pt_not (pt_val (pe_callB call_isi (by rfl) T.n_isinstance (by decide +kernel) (pa_cons (pv 2) (pa_cons (pe_bltn (v := .ty "tuple") (u := .type "tuple") (by rfl) T.n_tuple (by decide +kernel) rfl) pa_nil))))) (pw_or1 (pt_not (pt_val (pe_callB (cr_all rfl) (by rfl) T.n_all (by decide +kernel) (pa_cons (pe_lc (own := [("name", 5)]) rfl sc_is_definition.nd (pi_tup (pv 2)) (blkOk_by (own := [("name", 5)]) (N := N_is_definition) (sc := defScope s_is_definition) (by decide +kernel)) (fun _ _ _ _ _ => (pg_name (i := 5) sc_is_definition.nd rfl (Or.inl rfl))) (fun _ _ _ _ _ => pts_nil) (fun _ _ _ _ _ => (pe_call (ok_is_name T) (hr.mono (by decide)) (by rfl) T.g_is_name T.F_is_name.kp T.b_is_name .nil pass0 (pa_cons (pv 5) pa_nil)))) pa_nil))))))) (pss_one (ps_ret pe_bl)) pss_nil)
    (pss_cons (ps_set (i := 6) sc_is_definition.nd rfl (Or.inl rfl) (pe_lst (StX.pa_star (pe_lc (own := [("name", 5), ("arity", 7)]) rfl sc_is_definition.nd (pi_tup (pv 1)) (blkOk_by (own := [("name", 5), ("arity", 7)]) (N := N_is_definition) (sc := defScope s_is_definition) (by decide +kernel)) (fun _ _ _ _ _ => (show PG _ _ (gTup K 2 _) from (pg_tup (by rfl) (pgs_cons (pg_name (i := 5) sc_is_definition.nd rfl (Or.inl rfl)) (pgs_cons (pg_name (i := 7) sc_is_definition.nd rfl (Or.inl rfl)) pgs_nil))))) (fun _ _ _ _ _ => pts_nil) (fun _ _ _ _ _ => (pv 5))) (StX.pa_star (pv 2) pa_nil))))
    (pss_one (ps_ret (pe_and (pe_cmpR op_eq (Zq.pe_lenSetN rfl (by rfl) T.n_len (by rfl) T.n_set (pv 6)) (pe_callB call_len_seq (by rfl) T.n_len (by decide +kernel) (pa_cons (pv 6) pa_nil)) (nomark _)) (pe_one (pe_call (ok_is_task T) (hr.mono (by decide)) (by rfl) T.g_is_task T.F_is_task.kp T.b_is_task .nil pass0 (pa_cons (pv 3) pa_nil))))))))))), ?_⟩
  obtain ⟨S, v, d, n, rfl, hd, hv, hz, hn, q⟩ := h
  have qF : isDef n d = false → ∀ H', Same H H' → Q (.bl false) H' := fun e H' k => by
    have q' := q H' k
    rw [e] at q'
    exact q'
  refine ⟨_, rfl, v, .ty "tuple", _, _, _, rfl, .ty _, hd.ty, kit_all K _ (by decide) _ (tyD_mem d), _, rfl, ?_⟩
  rcases bool2 (isA "tuple" d) with et | et
  · have et' : isB "tuple" (tyD d) = false := et
    rw [et']
    refine iteT (iteT (qF ?_ H (Same.refl H)))
    cases d with
    | tuple l => cases et
    | _ => rfl
  have et' : isB "tuple" (tyD d) = true := et
  rw [et']
  refine iteF ?_
  obtain ⟨a, xs, ds, rfl, rfl, ha, _, hx⟩ := hd.tuple et
  obtain ⟨hl, hok⟩ := okv_tup hv
  have hxl := hx.length
  refine ⟨_, rfl, a, _, rfl, .inr (SqT.of ha), rfl, _, rfl, ?_⟩
  show if (!decide (V.int (xs.length : Int) = V.int ((3 : Nat) : Int))) = true then _ else _
  rw [dec_nat]
  by_cases h3 : xs.length = 3
  · rw [decide_eq_true h3]
    refine iteF ?_
    obtain ⟨fs, ts, body, rfl⟩ := three (hxl.symm.trans h3)
    cases hx with
    | @cons v0 vs0 _ _ h0 hx =>
    cases hx with
    | @cons v1 vs1 _ _ h1 hx =>
    cases hx with
    | @cons v2 vs2 _ _ h2 hx =>
    cases hx
    refine ⟨_, rfl, a, _, rfl, SqT.of ha, rfl, _, _, rfl, _, _, rfl, _, _, rfl, rfl, ?_⟩
    -- functions
    refine ⟨_, rfl, v0, .ty "tuple", _, _, _, rfl, .ty _, h0.ty, kit_all K _ (by decide) _ (tyD_mem fs), _, rfl, ?_⟩
    rcases bool2 (isA "tuple" fs) with ef | ef
    · have ef' : isB "tuple" (tyD fs) = false := ef
      rw [ef']
      refine iteT (iteT (qF ?_ H (Same.refl H)))
      cases fs with
      | tuple l => cases ef
      | _ => rfl
    have ef' : isB "tuple" (tyD fs) = true := ef
    rw [ef']
    refine iteF ?_
    obtain ⟨a0, xs0, ps, rfl, rfl, ha0, _, hx0⟩ := h0.tuple ef
    obtain ⟨l0, ok0⟩ := okv_tup (hok (.tuple ps) (by simp))
    refine ⟨_, rfl, a0, rfl, ⟨_, SqT.of ha0⟩, fun D0 hD0 => ?_⟩
    refine lc_all (n := 4) (F := isParam) ha0 hx0 ok0 l0 hD0 (fun _ => rfl) (fun _ => rfl) fun H1 k1 hD1 => ?_
    refine ⟨D0, _, rfl, SqL.of hD1, _, rfl, ?_⟩
    have ea : ((ps.map isParam).all id) = ps.all isParam := by rw [List.all_map]; rfl
    rw [ea]
    rcases bool2 (ps.all isParam) with ep | ep
    · rw [ep]
      refine iteT (qF ?_ H1 k1)
      show isDef3 n (.tuple ps) ts body = false
      cases ts with
      | tuple ns =>
        show (ps.all isParam && _ && _ && _) = false
        rw [ep]; rfl
      | _ => rfl
    rw [ep]
    refine iteF ?_
    -- tasks
    refine ⟨_, rfl, v1, .ty "tuple", _, _, _, rfl, .ty _, (h1.kp (Kp.of k1)).ty, kit_all K _ (by decide) _ (tyD_mem ts), _, rfl, ?_⟩
    rcases bool2 (isA "tuple" ts) with eg | eg
    · have eg' : isB "tuple" (tyD ts) = false := eg
      rw [eg']
      refine iteT (iteT (qF ?_ H1 k1))
      cases ts with
      | tuple l => cases eg
      | _ => rfl
    have eg' : isB "tuple" (tyD ts) = true := eg
    rw [eg']
    refine iteF ?_
    obtain ⟨a1, xs1, ns, rfl, rfl, ha1, _, hx1⟩ := h1.tuple eg
    obtain ⟨l1, ok1⟩ := okv_tup (hok (.tuple ns) (by simp))
    refine ⟨_, rfl, a1, rfl, ⟨_, SqT.of (k1 _ _ ha1)⟩, fun D1 hD1' => ?_⟩
    refine lc_all (n := 5) (F := isName) (k1 _ _ ha1) (hx1.kp (Kp.of k1)) ok1 l1 hD1' (fun _ => rfl) (fun _ => rfl) fun H2 k2 hD2 => ?_
    have k12 := k1.trans k2
    refine ⟨D1, _, rfl, SqL.of hD2, _, rfl, ?_⟩
    have eb : ((ns.map isName).all id) = ns.all isName := by rw [List.all_map]; rfl
    rw [eb]
    rcases bool2 (ns.all isName) with en | en
    · rw [en]
      refine iteT (qF ?_ H2 k12)
      show (ps.all isParam && ns.all isName && _ && _) = false
      rw [en, Bool.and_false]; rfl
    rw [en]
    refine iteF ?_
    -- names
    refine ⟨_, rfl, a0, rfl, ⟨_, SqT.of (k12 _ _ ha0)⟩, fun D2 hD2' => ?_⟩
    refine lc_tup (K := K) (a := a0) (xs := xs0) (fun i H' => Same H2 H' ∧ H' D2 = some (.lst (((ps.take i).map nameOf).map V.str))) ⟨same_new hD2', upd_same⟩ (fun i H' _ p => SqT.of (p.1 _ _ (k12 _ _ ha0))) ?_ ?_
    · rintro i x H3 hi ⟨k, hDl⟩
      obtain ⟨d, hdi, hdx⟩ := hx0.get hi
      have hil : i < ps.length := (List.getElem?_eq_some_iff.mp hdi).1
      obtain ⟨b, y, rfl, hb⟩ := param_at (hdx.kp (Kp.of (k12.trans k))) (List.all_eq_true.mp ep d (List.mem_of_getElem? hdi))
      refine ⟨b, _, rfl, SqT.of hb, rfl, _, _, rfl, _, _, rfl, rfl, rfl, _, rfl, _, hDl, ?_, ?_, ?_⟩
      · rw [List.length_map, List.length_map, List.length_take, sizeLine_eq]
        omega
      · exact fun b o eb => by
          rw [upd_ne (ne_of_none eb hD2')]
          exact k _ _ eb
      · rw [upd_same, List.take_succ, hdi, List.map_append, List.map_append]
        rfl
    rintro H3 ⟨k3, hD3⟩
    rw [hx0.length, List.take_length] at hD3
    have k13 := k12.trans k3
    refine ⟨D2, _, rfl, .inr (SqL.of hD3), ?_⟩
    refine ⟨_, rfl, a1, _, rfl, .inl (SqT.of (k13 _ _ ha1)), ?_⟩
    have hxn := names_of hx1 en
    have hnl : (((ps.map nameOf).map V.str) ++ (xs1 ++ [])) = ((ps.map nameOf ++ ns.map nameOf).map V.str) := by rw [List.append_nil, List.map_append, hxn]
    have hnn : (ps.map nameOf ++ ns.map nameOf).length ≤ 2000 := by rw [List.length_append, List.length_map, List.length_map]; omega
    refine ⟨by rw [hnl, List.length_map, sizeLine_eq]; omega, fun r hr => ?_⟩
    rw [hnl]
    have k14 := k13.trans (same_new (o := .lst ((ps.map nameOf ++ ns.map nameOf).map V.str)) hr)
    generalize hN : ps.map nameOf ++ ns.map nameOf = N at hnn k14 ⊢
    refine ⟨_, rfl, r, N, rfl, SqL.of upd_same, by omega, ?_⟩
    refine ⟨_, rfl, r, _, rfl, .inl (SqL.of upd_same), rfl, ?_⟩
    rw [List.length_map, dec_nat]
    have e9 : decide ((Zq.insAll N).length = N.length) = decide N.Nodup := decide_eq_decide.mpr (Zq.insAll_all N)
    rw [e9]
    have eD : isDef n (.tuple [.tuple ps, .tuple ns, body]) = (decide N.Nodup && okT n false body) := by
      show (ps.all isParam && ns.all isName && decide ((ps.map nameOf ++ ns.map nameOf).Nodup) && okT n false body) = _
      rw [ep, en, hN]
      rfl
    refine ⟨_, rfl, ite2 (fun e => ?_) (fun e => ?_)⟩
    · have zb : sz body ≤ 1000000 := by
        have h9 : sz body ≤ szAll [.tuple ps, .tuple ns, body] := by
          show sz body ≤ sz (.tuple ps) + (sz (.tuple ns) + (sz body + 0))
          omega
        have h8 : szAll [.tuple ps, .tuple ns, body] + 1 ≤ 1000000 := hz
        omega
      have db : body.depth < n := by
        have h9 : body.depth ≤ PyData.depthAll [.tuple ps, .tuple ns, body] := depth_mem (by simp)
        have h8 : PyData.depthAll [.tuple ps, .tuple ns, body] + 1 < n := hn
        omega
      refine ⟨_, rfl, S, v2, body, n, rfl, h2.kp (Kp.of k14), hok body (by simp), zb, db, fun H5 k5 => ?_⟩
      have q' := q H5 (k14.trans k5)
      rw [eD, e] at q'
      exact q'
    · refine qF ?_ _ k14
      rw [eD]
      rw [Bool.not_eq_true] at e
      rw [e]; rfl
  · rw [decide_eq_false h3]
    exact iteT (qF (isDef_three fun h => h3 (hxl.trans h)) H (Same.refl H))
end
end K05
set_option Elab.async false
set_option linter.all false
set_option maxRecDepth 100000
set_option maxHeartbeats 4000000
/-! k05: a drawn item, a drawn name. -/
namespace K05
open PySem PySem.Spec PyProof.Rows L2 Zg Zr Zd Zv
def TEN : List PySem.Str := ["a", "op", "go", "end", "call", "given", "part", "zzzzzzzz", "wait", "x"]
theorem atI_of {α : Type} {xs : List α} {r : Int} (h0 : 0 ≤ r) (h1 : r < xs.length) : ∃ (h : r.toNat < xs.length), atI xs r = some xs[r.toNat] := by
  have h : r.toNat < xs.length := by omega
  refine ⟨h, ?_⟩
  have q := atI_nat (xs := xs) (j := r.toNat) (v := xs[r.toNat]) (List.getElem?_eq_getElem h)
  have e : ((r.toNat : Nat) : Int) = r := Int.toNat_of_nonneg h0
  rw [e] at q
  exact q
theorem two {w l a : Addr} (h1 : a ≠ w) (h2 : a ≠ l) : a ∉ [w, l] := by
  intro h
  rcases List.mem_cons.mp h with e | h
  · exact h1 e
  · rw [List.mem_singleton] at h
    exact h2 h
theorem Well.ne {H : Hp} {w l p : Addr} {C : Nat} (h : Well H w l C) (n : H p = none) : p ∉ [w, l] := by
  obtain ⟨_, b, c, ns, h1, h2, _⟩ := h
  exact two (fun e => by rw [e, h1] at n; cases n) (fun e => by rw [e, h2] at n; cases n)
/-- a new thing beside the well -/
theorem Well.new {H : Hp} {w l p : Addr} {C : Nat} {o : HO} (h : Well H w l C) (n : p ∉ [w, l]) : Well (upd H p o) w l C := by
  obtain ⟨d, b, c, ns, h1, h2, r⟩ := h
  have n1 : w ≠ p := fun e => n (e ▸ List.mem_cons_self)
  have n2 : l ≠ p := fun e => n (e ▸ List.mem_cons_of_mem _ List.mem_cons_self)
  exact ⟨d, b, c, ns, by rw [upd_ne n1]; exact h1, by rw [upd_ne n2]; exact h2, r⟩
/-- a name as they are drawn -/
def Nm (z : PySem.Str) : Prop := z.length ≤ 8 ∧ PyData.strOk z = true
theorem nm_ten : ∀ z ∈ TEN, Nm z := by
  unfold Nm
  decide +kernel
theorem abc_len : ((("abcdefghijklmnopqrstuvwxyz" : PySem.Str).cps.toList.length : Nat) : Int) = 26 := by decide +kernel
theorem abc_ok : ∀ c ∈ ("abcdefghijklmnopqrstuvwxyz" : PySem.Str).cps.toList, c < 1114112 := by decide +kernel
theorem sum_ones : ∀ zs : List PySem.Str, (∀ z ∈ zs, z.length = 1) → (zs.map (·.length)).sum = zs.length
  | [], _ => rfl
  | z :: r, h => by
    rw [List.map_cons, List.sum_cons, h z List.mem_cons_self, sum_ones r fun y hy => h y (List.mem_cons_of_mem _ hy), List.length_cons]
    omega
theorem strOk_append {x y : PySem.Str} (h1 : PyData.strOk x = true) (h2 : PyData.strOk y = true) : PyData.strOk (x ++ y) = true := by
  show (x.cps ++ y.cps).all _ = true
  rw [Array.all_append]
  show (PyData.strOk x && PyData.strOk y) = true
  rw [h1, h2]
  rfl
theorem strOk_join : ∀ zs : List PySem.Str, (∀ z ∈ zs, PyData.strOk z = true) → PyData.strOk (PySem.Str.join "" zs) = true
  | [], _ => by decide +kernel
  | [x], h => h x List.mem_cons_self
  | x :: y :: r, h => strOk_append (strOk_append (h x List.mem_cons_self) (by decide +kernel)) (strOk_join (y :: r) fun z hz => h z (List.mem_cons_of_mem _ hz))
section
variable {P : Program} {w : World} {K : PySem.W.Frag} {mg : PySem.Str → Option Value} {base : Heap}
def sp_one_of (K : PySem.W.Frag) : Sp := fun vs H Q _ => ∃ (w l a : Addr) (xs : List V) (C : Nat), vs = [.ref w, .ref a] ∧ Well H w l C ∧ C < LIM ∧ a ∉ [w, l] ∧ SqL K H a xs ∧ 0 < xs.length ∧ xs.length ≤ 1000000 ∧
  ∀ (H' : Hp) (i : Nat) (h : i < xs.length), Kp [w, l] H H' → Well H' w l (C + 1) → Q xs[i] H'
theorem ok_one_of (T : Txt K mg) : FnOk P w K mg base CX0 2 T.a_one_of T.d_one_of P_one_of (sp_one_of K) := by
  refine T.F_one_of.ok sc_one_of (fun vs H Q E h => by obtain ⟨w, l, a, xs, C, rfl, _⟩ := h; rfl) (fun cdv A outer s H vs Q E hr h => ?_)
  refine ⟨_, (pss_one (ps_ret (pe_ix ix_list (pv 1) (pe_call (ok_drawn T) (hr.mono (by decide)) (by rfl) T.g_drawn T.F_drawn.kp T.b_drawn .nil pass0 (pa_cons (pv 0) (pa_cons (pe_callB call_len_seq (by rfl) T.n_len (by decide +kernel) (pa_cons (pv 1) pa_nil)) pa_nil))) (fun _ _ => rfl)))), ?_⟩
  obtain ⟨w, l, a, xs, C, rfl, hW, hC, ha, hS, h0, h1, q⟩ := h
  refine ⟨_, rfl, _, rfl, _, rfl, a, _, rfl, .inl hS, w, l, _, C, rfl, hW, hC, by omega, by omega, fun H' r k hW' r0 r1 => ?_⟩
  obtain ⟨hi, e⟩ := atI_of r0 r1
  exact ⟨a, xs, r, _, rfl, rfl, k.seq ha hS, e, q H' _ hi k hW'⟩
def sp_name : Sp := fun vs H Q _ => ∃ (w l : Addr) (C : Nat), vs = [.ref w] ∧ Well H w l C ∧ C + 10 < LIM ∧
  ∀ (H' : Hp) (z : PySem.Str), Kp [w, l] H H' → Well H' w l (C + 10) → Nm z → Q (.str z) H'
theorem ok_name (T : Txt K mg) : FnOk P w K mg base CX0 3 T.a_name T.d_name P_name sp_name := by
  refine T.F_name.ok sc_name (fun vs H Q E h => by obtain ⟨w, l, C, rfl, _⟩ := h; rfl) (fun cdv A outer s H vs Q E hr h => ?_)
  refine ⟨_, (pss_cons (ps_if (pt_cmpR op_gt (pe_call (ok_drawn T) (hr.mono (by decide)) (by rfl) T.g_drawn T.F_drawn.kp T.b_drawn .nil pass0 (pa_cons (pv 0) (pa_cons pe_int pa_nil))) pe_int (nomark _)) (pss_one (ps_ret (pe_call (ok_one_of T) (hr.mono (by decide)) (by rfl) T.g_one_of T.F_one_of.kp T.b_one_of .nil pass0 (pa_cons (pv 0) (pa_cons (pe_lst (pa_cons pe_str (pa_cons pe_str (pa_cons pe_str (pa_cons pe_str (pa_cons pe_str (pa_cons pe_str (pa_cons pe_str (pa_cons pe_str (pa_cons pe_str (pa_cons pe_str pa_nil))))))))))) pa_nil))))) pss_nil)
    (pss_one (ps_ret (pe_join pe_str (pe_lc (own := [("k", 1)]) rfl sc_name.nd (pi_range1 (by rfl) T.n_range (pa_cons (pe_op op_add pe_int (pe_call (ok_drawn T) (hr.mono (by decide)) (by rfl) T.g_drawn T.F_drawn.kp T.b_drawn .nil pass0 (pa_cons (pv 0) (pa_cons pe_int pa_nil)))) pa_nil)) (blkOk_by (own := [("k", 1)]) (N := N_name) (sc := defScope s_name) (by decide +kernel)) (fun _ _ _ _ _ => (pg_name (i := 1) sc_name.nd rfl (Or.inl rfl))) (fun _ _ _ _ _ => pts_nil) (fun _ _ _ _ _ => (pe_ix ix_str pe_str (pe_call (ok_drawn T) (hr.mono (by decide)) (by rfl) T.g_drawn T.F_drawn.kp T.b_drawn .nil pass0 (pa_cons (pv 0) (pa_cons pe_int pa_nil))) (fun _ _ => rfl)))))))), ?_⟩
  obtain ⟨w, l, C, rfl, hW, hC, q⟩ := h
  refine ⟨_, rfl, w, l, 3, C, rfl, hW, by omega, by decide, by decide, fun H1 r k1 hW1 r0 r1 => ?_⟩
  refine ⟨_, _, rfl, rfl, _, rfl, ite2 (fun e => ?_) (fun e => ?_)⟩
  · refine ⟨_, rfl, by show 10 ≤ sizeLine; decide, fun p hp => ?_⟩
    have np := hW1.ne hp
    refine ⟨w, l, p, TEN.map V.str, C + 1, rfl, hW1.new np, by omega, np, SqL.of upd_same, by show 0 < 10; decide, by show 10 ≤ 1000000; decide, fun H2 i hi k2 hW2 => ?_⟩
    rw [List.getElem_map]
    exact q H2 _ ((k1.trans (Kp.new hp)).trans k2) (hW2.mono (by omega)) (nm_ten _ (List.getElem_mem _))
  · refine ⟨⟨_, rfl⟩, _, rfl, w, l, 8, C + 1, rfl, hW1, by omega, by decide, by decide, fun H2 r2 k2 hW2 r20 r21 => ?_⟩
    refine ⟨_, _, rfl, rfl, _, rfl, by omega, by omega, fun D hD => ?_⟩
    have nD := hW2.ne hD
    refine lc_range (lo := 0) (n := (1 + r2).toNat) (fun i H' => ∃ zs : List PySem.Str, zs.length = i ∧ (∀ z ∈ zs, z.length = 1 ∧ PyData.strOk z = true) ∧ H' D = some (.lst (zs.map V.str)) ∧ Kp [w, l] H2 H' ∧ Well H' w l (C + 2 + i))
      ⟨[], rfl, (fun z hz => nomatch hz), upd_same, Kp.new hD, hW2.new nD⟩ ?_ ?_
    · rintro i H' hi ⟨zs, hzl, hz, hHD, k', hW'⟩
      refine ⟨rfl, ?_⟩
      refine ⟨_, rfl, w, l, 26, C + 2 + i, rfl, hW', by omega, by decide, by decide, fun H4 r4 k4 hW4 r40 r41 => ?_⟩
      obtain ⟨hi4, e4⟩ := atI_of (xs := ("abcdefghijklmnopqrstuvwxyz" : PySem.Str).cps.toList) (r := r4) r40 (by rw [abc_len]; exact r41)
      refine ⟨_, _, _, rfl, rfl, by rw [sizeLine_eq]; decide +kernel, e4, zs.map V.str, k4 _ _ nD hHD, by rw [List.length_map, sizeLine_eq]; omega, zs ++ [⟨#[("abcdefghijklmnopqrstuvwxyz" : PySem.Str).cps.toList[r4.toNat]]⟩], ?_, ?_, ?_, ?_, ?_⟩
      · rw [List.length_append, List.length_singleton, hzl]
      · intro z hzm
        rcases List.mem_append.mp hzm with h | h
        · exact hz z h
        · rw [List.mem_singleton] at h
          subst h
          refine ⟨rfl, ?_⟩
          have q2 := abc_ok _ (List.getElem_mem hi4)
          exact (by simpa [PyData.strOk] using q2)
      · rw [upd_same, List.map_append]
        rfl
      · exact (k'.trans k4).wr (.inr hD)
      · exact (hW4.mono (by omega)).new nD
    · rintro H' ⟨zs, hzl, hz, hHD, k', hW'⟩
      have h8 : zs.length ≤ 8 := by omega
      have hsum : (zs.map (·.length)).sum = zs.length := sum_ones zs fun z h => (hz z h).1
      refine ⟨_, D, zs, rfl, rfl, .inl (SqL.of hHD), ?_, ?_⟩
      · rw [hsum]
        show zs.length + zs.length * 0 ≤ 16777216
        omega
      · refine q H' _ ((k1.trans k2).trans k') (hW'.mono (by omega)) ⟨?_, ?_⟩
        · rw [TL.join_eq]
          have q2 := StrLaws.join_length_le "" zs
          rw [hsum] at q2
          have e2 : (("" : PySem.Str)).length = 0 := rfl
          rw [e2] at q2
          omega
        · rw [TL.join_eq]
          exact strOk_join zs fun z h => (hz z h).2
end
end K05
set_option Elab.async false
set_option linter.all false
set_option maxRecDepth 100000
set_option maxHeartbeats 4000000
/-! k05: values as they are drawn, and how large. -/
namespace K05
open PySem PySem.Spec PyProof.Rows L2 Zg Zr Zd Zv
mutual
/-- no list or tuple within is longer than w -/
def wid (w : Nat) : PyData → Bool
  | .list xs | .tuple xs => decide (xs.length ≤ w) && widAll w xs
  | _ => true
def widAll (w : Nat) : List PyData → Bool
  | [] => true
  | x :: xs => wid w x && widAll w xs
end
theorem widAll_iff {w : Nat} : ∀ {l : List PyData}, widAll w l = true ↔ ∀ d ∈ l, wid w d = true
  | [] => by simp [widAll]
  | x :: l => by
    rw [widAll, Bool.and_eq_true, widAll_iff (l := l)]
    simp
mutual
theorem wid_mono {w w' : Nat} (h : w ≤ w') : ∀ d : PyData, wid w d = true → wid w' d = true
  | .list xs, e => by
    have e' : (decide (xs.length ≤ w) && widAll w xs) = true := e
    rw [Bool.and_eq_true, decide_eq_true_iff] at e'
    show (decide (xs.length ≤ w') && widAll w' xs) = true
    rw [decide_eq_true (by omega : xs.length ≤ w'), widAll_mono h xs e'.2]
    rfl
  | .tuple xs, e => by
    have e' : (decide (xs.length ≤ w) && widAll w xs) = true := e
    rw [Bool.and_eq_true, decide_eq_true_iff] at e'
    show (decide (xs.length ≤ w') && widAll w' xs) = true
    rw [decide_eq_true (by omega : xs.length ≤ w'), widAll_mono h xs e'.2]
    rfl
  | .none, _ => rfl
  | .bool _, _ => rfl
  | .int _, _ => rfl
  | .str _, _ => rfl
  | .dict _, _ => rfl
theorem widAll_mono {w w' : Nat} (h : w ≤ w') : ∀ l : List PyData, widAll w l = true → widAll w' l = true
  | [], _ => rfl
  | x :: l, e => by
    have e' : (wid w x && widAll w l) = true := e
    rw [Bool.and_eq_true] at e'
    show (wid w' x && widAll w' l) = true
    rw [wid_mono h x e'.1, widAll_mono h l e'.2]
    rfl
end
/-- a value, how large, how deep, how wide -/
def GenW (w : Nat) (S : List Addr) (H : Hp) (v : V) (d : PyData) (k dp : Nat) : Prop := Dv S H v d ∧ okv d = true ∧ d.bulk + 1 ≤ k ∧ sz d ≤ k ∧ d.depth ≤ dp ∧ wid w d = true
def GenLW (w : Nat) (S : List Addr) (H : Hp) (vs : List V) (ds : List PyData) (k dp : Nat) : Prop := DvAll S H vs ds ∧ okvAll ds = true ∧ PyData.bulkAll ds ≤ k ∧ szAll ds ≤ k ∧ PyData.depthAll ds ≤ dp ∧ widAll w ds = true
section
variable {w : Nat} {S S' : List Addr} {H H' : Hp} {v : V} {d : PyData} {vs ws : List V} {ds es : List PyData} {k k2 k' dp dp' : Nat}
theorem GenW.mono (h : GenW w S H v d k dp) (a : k ≤ k') (b : dp ≤ dp') : GenW w S H v d k' dp' := ⟨h.1, h.2.1, Nat.le_trans h.2.2.1 a, Nat.le_trans h.2.2.2.1 a, Nat.le_trans h.2.2.2.2.1 b, h.2.2.2.2.2⟩
theorem GenLW.mono (h : GenLW w S H vs ds k dp) (a : k ≤ k') (b : dp ≤ dp') : GenLW w S H vs ds k' dp' := ⟨h.1, h.2.1, Nat.le_trans h.2.2.1 a, Nat.le_trans h.2.2.2.1 a, Nat.le_trans h.2.2.2.2.1 b, h.2.2.2.2.2⟩
theorem GenW.wide {w' : Nat} (h : GenW w S H v d k dp) (a : w ≤ w') : GenW w' S H v d k dp := ⟨h.1, h.2.1, h.2.2.1, h.2.2.2.1, h.2.2.2.2.1, wid_mono a _ h.2.2.2.2.2⟩
theorem GenLW.wide {w' : Nat} (h : GenLW w S H vs ds k dp) (a : w ≤ w') : GenLW w' S H vs ds k dp := ⟨h.1, h.2.1, h.2.2.1, h.2.2.2.1, h.2.2.2.2.1, widAll_mono a _ h.2.2.2.2.2⟩
theorem GenW.kp (h : GenW w S H v d k dp) (q : Kp S H H') : GenW w S H' v d k dp := ⟨h.1.kp q, h.2⟩
theorem GenLW.kp (h : GenLW w S H vs ds k dp) (q : Kp S H H') : GenLW w S H' vs ds k dp := ⟨h.1.kp q, h.2⟩
theorem GenW.sub (h : GenW w S H v d k dp) (q : ∀ a ∈ S', a ∈ S) : GenW w S' H v d k dp := ⟨h.1.sub q, h.2⟩
theorem GenLW.sub (h : GenLW w S H vs ds k dp) (q : ∀ a ∈ S', a ∈ S) : GenLW w S' H vs ds k dp := ⟨h.1.sub q, h.2⟩
theorem GenLW.nil : GenLW w S H [] [] 0 0 := ⟨.nil, rfl, Nat.le_refl 0, Nat.le_refl 0, Nat.le_refl 0, rfl⟩
theorem GenLW.cons (h : GenW w S H v d k dp) (t : GenLW w S H vs ds k2 dp) : GenLW w S H (v :: vs) (d :: ds) (k + k2) dp := by
  obtain ⟨h1, h2, h3, h4, h5, h6⟩ := h
  obtain ⟨t1, t2, t3, t4, t5, t6⟩ := t
  refine ⟨.cons h1 t1, ?_, ?_, ?_, ?_, ?_⟩
  · show (okv d && okvAll ds) = true
    rw [h2, t2]
    rfl
  · show d.bulk + 1 + PyData.bulkAll ds ≤ _
    omega
  · show sz d + szAll ds ≤ _
    omega
  · show max d.depth (PyData.depthAll ds) ≤ _
    omega
  · show (wid w d && widAll w ds) = true
    rw [h6, t6]
    rfl
theorem bulkAll_append : ∀ l m : List PyData, PyData.bulkAll (l ++ m) = PyData.bulkAll l + PyData.bulkAll m := by
  intro l m
  induction l with
  | nil => show _ = 0 + _; rw [Nat.zero_add]; rfl
  | cons x l ih =>
    show x.bulk + 1 + PyData.bulkAll (l ++ m) = x.bulk + 1 + PyData.bulkAll l + _
    omega
theorem depthAll_append : ∀ l m : List PyData, PyData.depthAll (l ++ m) = max (PyData.depthAll l) (PyData.depthAll m) := by
  intro l m
  induction l with
  | nil => show _ = max 0 _; rw [Nat.zero_max]; rfl
  | cons x l ih =>
    show max x.depth (PyData.depthAll (l ++ m)) = max (max x.depth (PyData.depthAll l)) _
    omega
theorem GenLW.append (h : GenLW w S H vs ds k dp) (t : GenLW w S H ws es k2 dp) : GenLW w S H (vs ++ ws) (ds ++ es) (k + k2) dp := by
  obtain ⟨h1, h2, h3, h4, h5, h6⟩ := h
  obtain ⟨t1, t2, t3, t4, t5, t6⟩ := t
  refine ⟨h1.append t1, ?_, ?_, ?_, ?_, ?_⟩
  · rw [okvAll_iff] at h2 t2 ⊢
    intro d m
    rcases List.mem_append.mp m with m | m
    · exact h2 d m
    · exact t2 d m
  · rw [bulkAll_append]
    omega
  · rw [szAll_append]
    omega
  · rw [depthAll_append]
    omega
  · rw [widAll_iff] at h6 t6 ⊢
    intro d m
    rcases List.mem_append.mp m with m | m
    · exact h6 d m
    · exact t6 d m
theorem GenW.one (h : GenW w S H v d k dp) : GenLW w S H [v] [d] k dp := GenLW.cons h (GenLW.nil.mono (Nat.le_refl 0) (Nat.zero_le _))
theorem GenW.tupW {a : Addr} (hw : w ≤ 1000) (h : GenLW w S H vs ds k dp) (e : H a = some (.tup vs)) (n : a ∉ S) (hl : vs.length ≤ w) : GenW w S H (.ref a) (.tuple ds) (k + 1) (dp + 1) := by
  obtain ⟨h1, h2, h3, h4, h5, h6⟩ := h
  refine ⟨.tup e n h1, ?_, Nat.succ_le_succ h3, Nat.succ_le_succ h4, Nat.succ_le_succ h5, ?_⟩
  · show (decide (ds.length ≤ 1000) && okvAll ds) = true
    rw [h2, ← h1.length, decide_eq_true (by omega : vs.length ≤ 1000)]
    rfl
  · show (decide (ds.length ≤ w) && widAll w ds) = true
    rw [h6, ← h1.length, decide_eq_true hl]
    rfl
theorem GenW.lstW {a : Addr} (hw : w ≤ 1000) (h : GenLW w S H vs ds k dp) (e : H a = some (.lst vs)) (n : a ∉ S) (hl : vs.length ≤ w) : GenW w S H (.ref a) (.list ds) (k + 1) (dp + 1) := by
  obtain ⟨h1, h2, h3, h4, h5, h6⟩ := h
  refine ⟨.lst e n h1, ?_, Nat.succ_le_succ h3, Nat.succ_le_succ h4, Nat.succ_le_succ h5, ?_⟩
  · show (decide (ds.length ≤ 1000) && okvAll ds) = true
    rw [h2, ← h1.length, decide_eq_true (by omega : vs.length ≤ 1000)]
    rfl
  · show (decide (ds.length ≤ w) && widAll w ds) = true
    rw [h6, ← h1.length, decide_eq_true hl]
    rfl
theorem GenW.str {x : PySem.Str} {n : Nat} (h : x.length ≤ n) (o : PyData.strOk x = true) (hn : n ≤ 1000) : GenW w S H (.str x) (.str x) (n + 1) 0 := by
  refine ⟨.str x, ?_, Nat.succ_le_succ h, Nat.succ_le_succ (Nat.zero_le _), Nat.le_refl 0, rfl⟩
  show (PyData.strOk x && decide (x.length ≤ 1000)) = true
  rw [o, decide_eq_true (Nat.le_trans h hn)]
  rfl
theorem GenW.int {i : Int} (h : i.natAbs < 10 ^ 40) : GenW w S H (.int i) (.int i) 1 0 := ⟨.int i, decide_eq_true h, Nat.le_refl 1, Nat.le_refl 1, Nat.le_refl 0, rfl⟩
theorem GenW.nm {x : PySem.Str} (h : Nm x) : GenW w S H (.str x) (.str x) 9 0 := GenW.str h.1 h.2 (by decide)
end
def Gen (S : List Addr) (H : Hp) (v : V) (d : PyData) (k dp : Nat) : Prop := GenW 400 S H v d k dp
def GenL (S : List Addr) (H : Hp) (vs : List V) (ds : List PyData) (k dp : Nat) : Prop := GenLW 400 S H vs ds k dp
section
variable {S S' : List Addr} {H H' : Hp} {v : V} {d : PyData} {vs ws : List V} {ds es : List PyData} {k k2 k' dp dp' : Nat}
theorem Gen.mono (h : Gen S H v d k dp) (a : k ≤ k') (b : dp ≤ dp') : Gen S H v d k' dp' := GenW.mono h a b
theorem GenL.mono (h : GenL S H vs ds k dp) (a : k ≤ k') (b : dp ≤ dp') : GenL S H vs ds k' dp' := GenLW.mono h a b
theorem Gen.kp (h : Gen S H v d k dp) (q : Kp S H H') : Gen S H' v d k dp := GenW.kp h q
theorem GenL.kp (h : GenL S H vs ds k dp) (q : Kp S H H') : GenL S H' vs ds k dp := GenLW.kp h q
theorem Gen.sub (h : Gen S H v d k dp) (q : ∀ a ∈ S', a ∈ S) : Gen S' H v d k dp := GenW.sub h q
theorem GenL.sub (h : GenL S H vs ds k dp) (q : ∀ a ∈ S', a ∈ S) : GenL S' H vs ds k dp := GenLW.sub h q
theorem GenL.nil : GenL S H [] [] 0 0 := GenLW.nil
theorem GenL.cons (h : Gen S H v d k dp) (t : GenL S H vs ds k2 dp) : GenL S H (v :: vs) (d :: ds) (k + k2) dp := GenLW.cons h t
theorem GenL.append (h : GenL S H vs ds k dp) (t : GenL S H ws es k2 dp) : GenL S H (vs ++ ws) (ds ++ es) (k + k2) dp := GenLW.append h t
theorem Gen.one (h : Gen S H v d k dp) : GenL S H [v] [d] k dp := GenW.one h
theorem Gen.tup {a : Addr} (h : GenL S H vs ds k dp) (e : H a = some (.tup vs)) (n : a ∉ S) (hl : vs.length ≤ 400) : Gen S H (.ref a) (.tuple ds) (k + 1) (dp + 1) := GenW.tupW (by decide) h e n hl
theorem Gen.lst {a : Addr} (h : GenL S H vs ds k dp) (e : H a = some (.lst vs)) (n : a ∉ S) (hl : vs.length ≤ 400) : Gen S H (.ref a) (.list ds) (k + 1) (dp + 1) := GenW.lstW (by decide) h e n hl
theorem Gen.str {x : PySem.Str} {n : Nat} (h : x.length ≤ n) (o : PyData.strOk x = true) (hn : n ≤ 1000) : Gen S H (.str x) (.str x) (n + 1) 0 := GenW.str h o hn
theorem Gen.int {i : Int} (h : i.natAbs < 10 ^ 40) : Gen S H (.int i) (.int i) 1 0 := GenW.int h
theorem Gen.nm {x : PySem.Str} (h : Nm x) : Gen S H (.str x) (.str x) 9 0 := GenW.nm h
end
/-! ### a room, a well -/
structure Rm (w l rm : Addr) (C : Nat) (r : Int) (S : List Addr) (H : Hp) : Prop where
  well : Well H w l C
  room : H rm = some (.lst [.int r])
  out : rm ∉ [w, l]
  trk : Trk S H
  hw : w ∈ S
  hl : l ∈ S
  hrm : rm ∈ S
/-- what a call may count on -/
def Fit (s C : Nat) (r : Int) : Prop := -60 ≤ r ∧ r ≤ 60 ∧ (C : Int) + 20 * r + 10000 + s < LIM
theorem trk_kp {S T : List Addr} {H H' : Hp} (h : Trk S H) (k : Kp T H H') (e : ∀ a ∈ T, H' a ≠ none) : Trk S H' := fun a m q => by
  by_cases t : a ∈ T
  · exact e a t q
  · cases o : H a with
    | none => exact h a m o
    | some o' =>
      rw [k a o' t o] at q
      cases q
theorem Rm.kp {w l rm : Addr} {C C' : Nat} {r r' : Int} {S : List Addr} {H H' : Hp} (h : Rm w l rm C r S H) (k : Kp [w, l, rm] H H') (hW : Well H' w l C') (e : H' rm = some (.lst [.int r'])) : Rm w l rm C' r' S H' := by
  refine ⟨hW, e, h.out, trk_kp h.trk k fun a m => ?_, h.hw, h.hl, h.hrm⟩
  obtain ⟨_, b, c, ns, h1, h2, _⟩ := hW
  rcases List.mem_cons.mp m with rfl | m
  · rw [h1]; exact fun z => nomatch z
  · rcases List.mem_cons.mp m with rfl | m
    · rw [h2]; exact fun z => nomatch z
    · rw [List.mem_singleton] at m
      subst m
      rw [e]; exact fun z => nomatch z
theorem Rm.sub3 {w l rm : Addr} {C : Nat} {r : Int} {S : List Addr} {H : Hp} (h : Rm w l rm C r S H) : ∀ a ∈ [w, l, rm], a ∈ S := fun a m => by
  rcases List.mem_cons.mp m with rfl | m
  · exact h.hw
  · rcases List.mem_cons.mp m with rfl | m
    · exact h.hl
    · rw [List.mem_singleton] at m
      subst m
      exact h.hrm
/-- the well drawn from -/
theorem Rm.draw {w l rm : Addr} {C C' : Nat} {r : Int} {S : List Addr} {H H' : Hp} (h : Rm w l rm C r S H) (k : Kp [w, l] H H') (hW : Well H' w l C') : Rm w l rm C' r S H' ∧ Kp [w, l, rm] H H' := by
  have k3 : Kp [w, l, rm] H H' := k.sub fun a m => by
    rcases List.mem_cons.mp m with rfl | m
    · exact List.mem_cons_self
    · rw [List.mem_singleton] at m
      subst m
      exact List.mem_cons_of_mem _ List.mem_cons_self
  exact ⟨h.kp k3 hW (k _ _ h.out h.room), k3⟩
/-- a new thing beside -/
theorem Rm.new {w l rm p : Addr} {C : Nat} {r : Int} {S : List Addr} {H : Hp} {o : HO} (h : Rm w l rm C r S H) (n : H p = none) : Rm w l rm C r S (upd H p o) ∧ Kp [w, l, rm] H (upd H p o) ∧ p ∉ S := by
  have np : p ≠ rm := fun e => by rw [e, h.room] at n; cases n
  exact ⟨h.kp (Kp.new n) (h.well.new (h.well.ne n)) (by rw [upd_ne np.symm]; exact h.room), Kp.new n, h.trk.out n⟩
/-- one more drawn within -/
theorem Rm.less {w l rm : Addr} {C : Nat} {r r' : Int} {S : List Addr} {H : Hp} (h : Rm w l rm C r S H) : Rm w l rm C r' S (upd H rm (.lst [.int r'])) ∧ Kp [w, l, rm] H (upd H rm (.lst [.int r'])) := by
  have k : Kp [w, l, rm] H (upd H rm (.lst [.int r'])) := (Kp.refl _ _).wr (.inl (List.mem_cons_of_mem _ (List.mem_cons_of_mem _ List.mem_cons_self)))
  exact ⟨h.kp k (h.well.new h.out) upd_same, k⟩
/-- the promise of a def that draws a term -/
def sp_gen (b : Bool) (n : Nat) : Sp := fun vs H Q _ => ∃ (w l rm : Addr) (C : Nat) (r : Int) (S : List Addr), vs = [.ref w, .ref rm, .int (n : Nat)] ∧ Rm w l rm C r S H ∧ Fit 0 C r ∧ n ≤ 11 ∧ (b = true → 1 ≤ r) ∧
  ∀ (H' : Hp) (a : Addr) (ds : List PyData) (C' N : Nat), Kp [w, l, rm] H H' → Rm w l rm C' (r - (N : Nat)) S H' → C' ≤ C + 20 * N → 1 ≤ N → (r ≤ 1 → N = 1) → (1 ≤ r → -(3 * (n : Int)) ≤ r - (N : Nat)) → Gen S H' (.ref a) (.tuple ds) (30 * N) (2 * n + 1) → Q (.ref a) H'
def sp_some (n : Nat) : Sp := fun vs H Q _ => ∃ (w l rm : Addr) (C : Nat) (r : Int) (S : List Addr) (wants : PySem.Str) (many : Nat), vs = [.ref w, .ref rm, .int (n : Nat), .str wants, .int (many : Nat)] ∧ many ≤ 3 ∧ Rm w l rm C r S H ∧ Fit 1 C r ∧ n ≤ 11 ∧
  ∀ (H' : Hp) (a : Addr) (ds : List PyData) (C' N : Nat), Kp [w, l, rm] H H' → Rm w l rm C' (r - (N : Nat)) S H' → C' ≤ C + 1 + 20 * N → (r ≤ 0 → N = 0) → (0 ≤ r → -(3 * (n : Int)) ≤ r - (N : Nat)) → Gen S H' (.ref a) (.tuple ds) (30 * N + 1) (2 * n + 2) → Q (.ref a) H'
def sp_called (n : Nat) : Sp := fun vs H Q _ => ∃ (w l rm : Addr) (C : Nat) (r : Int) (S : List Addr) (word : PySem.Str), vs = [.ref w, .ref rm, .int (n : Nat), .str word] ∧ word ∈ (["call", "part"] : List PySem.Str) ∧ Rm w l rm C r S H ∧ Fit 12 C r ∧ n ≤ 11 ∧ 0 ≤ r ∧
  ∀ (H' : Hp) (a : Addr) (ds : List PyData) (C' N : Nat), Kp [w, l, rm] H H' → Rm w l rm C' (r - (N : Nat)) S H' → C' ≤ C + 12 + 20 * N → (r ≤ 0 → N = 0) → -(3 * (n : Int)) ≤ r - (N : Nat) → Gen S H' (.ref a) (.tuple ds) (30 * N + 18) (2 * n + 3) → Q (.ref a) H'
theorem two_words : ∀ x ∈ (["call", "part"] : List PySem.Str), x.length ≤ 5 ∧ PyData.strOk x = true := by decide +kernel
theorem Rm.put {w l rm p : Addr} {C : Nat} {r : Int} {S : List Addr} {H : Hp} {o : HO} (h : Rm w l rm C r S H) (n : p ∉ [w, l, rm]) : Rm w l rm C r S (upd H p o) := by
  have n1 : p ∉ [w, l] := fun m => n (by
    rcases List.mem_cons.mp m with e | m
    · exact e ▸ List.mem_cons_self
    · rw [List.mem_singleton] at m
      exact m ▸ List.mem_cons_of_mem _ List.mem_cons_self)
  have n2 : rm ≠ p := fun e => n (e ▸ List.mem_cons_of_mem _ (List.mem_cons_of_mem _ List.mem_cons_self))
  refine ⟨h.well.new n1, by rw [upd_ne n2]; exact h.room, h.out, fun a m q => ?_, h.hw, h.hl, h.hrm⟩
  by_cases e : a = p
  · rw [e, upd_same] at q
    cases q
  · rw [upd_ne e] at q
    exact h.trk a m q
theorem Rm.free {w l rm p : Addr} {C : Nat} {r : Int} {S : List Addr} {H : Hp} (h : Rm w l rm C r S H) (n : H p = none) : p ∉ [w, l, rm] := fun m => h.trk p (h.sub3 p m) n
theorem Rm.more {w l rm p : Addr} {C : Nat} {r : Int} {S : List Addr} {H : Hp} (h : Rm w l rm C r S H) (n : H p ≠ none) : Rm w l rm C r (p :: S) H := ⟨h.well, h.room, h.out, fun a m => by
  rcases List.mem_cons.mp m with e | m
  · exact e ▸ n
  · exact h.trk a m, List.mem_cons_of_mem _ h.hw, List.mem_cons_of_mem _ h.hl, List.mem_cons_of_mem _ h.hrm⟩
theorem Rm.fewer {w l rm p : Addr} {C : Nat} {r : Int} {S : List Addr} {H H' : Hp} {C' : Nat} {r' : Int} (h : Rm w l rm C r S H) (h' : Rm w l rm C' r' (p :: S) H') : Rm w l rm C' r' S H' := ⟨h'.well, h'.room, h'.out, fun a m => h'.trk a (List.mem_cons_of_mem _ m), h.hw, h.hl, h.hrm⟩
theorem few_words : ∀ x ∈ (["end", "wait", "fail", "go", "do", "test", "pick"] : List PySem.Str), x.length ≤ 5 ∧ PyData.strOk x = true := by decide +kernel
theorem Gen.wd {S : List Addr} {H : Hp} {x : PySem.Str} (h : x ∈ (["end", "wait", "fail", "go", "do", "test", "pick"] : List PySem.Str)) {dp : Nat} : Gen S H (.str x) (.str x) 6 dp := (Gen.str (few_words x h).1 (few_words x h).2 (by decide)).mono (Nat.le_refl _) (Nat.zero_le _)
section
variable {P : Program} {w : World} {K : PySem.W.Frag} {mg : PySem.Str → Option Value} {base : Heap}
theorem ok_call_of (T : Txt K mg) {n : Nat} (hP : FnOk P w K mg base CX0 (3 * n + 5) T.a_parts T.d_parts P_parts (sp_some n)) : FnOk P w K mg base CX0 (3 * n + 6) T.a_call T.d_call P_call (sp_called n) := by
  refine T.F_call.ok sc_call (fun vs H Q E h => by obtain ⟨w, l, rm, C, r, S, word, rfl, _⟩ := h; rfl) (fun cdv A outer s H vs Q E hr h => ?_)
  refine ⟨_, (pss_cons (ps_set (i := 4) sc_call.nd rfl (Or.inl rfl) (pe_call hP (hr.mono (by omega)) (by rfl) T.g_parts T.F_parts.kp T.b_parts .nil pass0 (pa_cons (pv 0) (pa_cons (pv 1) (pa_cons (pv 2) (pa_cons pe_str (pa_cons pe_int pa_nil)))))))
    (pss_one (ps_ret (pe_tup (pa_cons (pv 3) (pa_cons (pe_call (ok_name T) (hr.mono (by omega)) (by rfl) T.g_name T.F_name.kp T.b_name .nil pass0 (pa_cons (pv 0) pa_nil)) (pa_cons (pv 4) (pa_cons (pe_call hP (hr.mono (by omega)) (by rfl) T.g_parts T.F_parts.kp T.b_parts .nil pass0 (pa_cons (pv 0) (pa_cons (pv 1) (pa_cons (pv 2) (pa_cons pe_str (pa_cons pe_int pa_nil)))))) pa_nil)))))))), ?_⟩
  obtain ⟨w, l, rm, C, r, S, word, rfl, hwd, hR, hF, hn, h0, q⟩ := h
  have hF1 := hF.1
  have hF2 := hF.2.1
  have hF3 := hF.2.2
  refine ⟨_, rfl, _, rfl, _, rfl, w, l, rm, C, r, S, _, 2, rfl, by decide, hR, ⟨hF1, hF2, by omega⟩, hn, fun H1 a1 d1 C1 N1 k1 hR1 c1 z1 l1 g1 => ?_⟩
  refine ⟨_, rfl, _, rfl, w, l, C1, rfl, hR1.well, by omega, fun H2 z k2 hW2 hz => ?_⟩
  obtain ⟨hR2, k2⟩ := hR1.draw k2 hW2
  refine ⟨_, rfl, _, rfl, _, rfl, _, rfl, w, l, rm, C1 + 10, _, S, _, 3, rfl, by decide, hR2, ⟨by omega, by omega, by omega⟩, hn, fun H3 a3 d3 C3 N3 k3 hR3 c3 z3 l3 g3 => ?_⟩
  refine ⟨by show 4 ≤ sizeLine; decide, fun p hp => ?_⟩
  obtain ⟨hR4, k4, np⟩ := hR3.new (o := .tup [.str word, .str z, .ref a1, .ref a3]) hp
  have kz := ((k1.trans k2).trans k3).trans k4
  have e : r - (N1 : Nat) - (N3 : Nat) = r - ((N1 + N3 : Nat) : Int) := by omega
  rw [e] at hR4
  refine q _ p [.str word, .str z, .tuple d1, .tuple d3] C3 (N1 + N3) kz hR4 (by omega) (by omega) (by omega) ?_
  · have gw : Gen S (upd H3 p (.tup [.str word, .str z, .ref a1, .ref a3])) (.str word) (.str word) 6 0 := by
      exact Gen.str (n := 5) (two_words word hwd).1 (two_words word hwd).2 (by decide)
    have gl := GenL.cons (gw.mono (Nat.le_refl _) (Nat.zero_le (2 * n + 2))) (GenL.cons ((Gen.nm hz).mono (Nat.le_refl _) (Nat.zero_le (2 * n + 2))) (GenL.cons (g1.kp (((k2.trans k3).trans k4).sub hR.sub3)) ((g3.kp (k4.sub hR.sub3)).one)))
    exact (Gen.tup gl upd_same np (by show 4 ≤ 400; decide)).mono (by omega) (Nat.le_refl _)
theorem ok_parts_of (T : Txt K mg) {n : Nat} (hF : FnOk P w K mg base CX0 (3 * n + 4) T.a_function T.d_function P_function (sp_gen true n)) (hT : FnOk P w K mg base CX0 (3 * n + 4) T.a_task T.d_task P_task (sp_gen false n)) : FnOk P w K mg base CX0 (3 * n + 5) T.a_parts T.d_parts P_parts (sp_some n) := by
  refine T.F_parts.ok sc_parts (fun vs H Q E h => by obtain ⟨w, l, rm, C, r, S, wants, many, rfl, _⟩ := h; rfl) (fun cdv A outer s H vs Q E hr h => ?_)
  refine ⟨_, (pss_cons (ps_set (i := 5) sc_parts.nd rfl (Or.inl rfl) (pe_lst pa_nil))
    (pss_cons (ps_for PassesOwn.never rfl (pi_range1 (by rfl) T.n_range (pa_cons (pe_call (ok_drawn T) (hr.mono (by omega)) (by rfl) T.g_drawn T.F_drawn.kp T.b_drawn .nil pass0 (pa_cons (pv 0) (pa_cons (pe_op op_add (pv 4) pe_int) pa_nil))) pa_nil)) (pg_name (i := 6) sc_parts.nd rfl (Or.inl rfl)) (pss_one (ps_if (pt_cmpR op_gt (pe_ix ix_list (pv 1) pe_int (fun _ _ => rfl)) pe_int (nomark _)) (pss_one (ps_expr (pe_bm PySem.F.plainAttrs_list PySem.F.slot_list_append PySem.F.type_list_append mt_append (pv 5) (pa_cons (pe_ifExp (pt_cmpR op_eq (pv 3) pe_str (nomark _)) (pe_call hF (hr.mono (by omega)) (by rfl) T.g_function T.F_function.kp T.b_function .nil pass0 (pa_cons (pv 0) (pa_cons (pv 1) (pa_cons (pv 2) pa_nil)))) (pe_call hT (hr.mono (by omega)) (by rfl) T.g_task T.F_task.kp T.b_task .nil pass0 (pa_cons (pv 0) (pa_cons (pv 1) (pa_cons (pv 2) pa_nil))))) pa_nil)))) pss_nil)))
    (pss_one (ps_ret (pe_callTy call_tuple_of (by rfl) T.n_tuple (by decide +kernel) (pa_cons (pv 5) pa_nil)))))), ?_⟩
  obtain ⟨w, l, rm, C, r, S, wants, many, rfl, hm, hR, hF, hn, q⟩ := h
  have hF1 := hF.1
  have hF2 := hF.2.1
  have hF3 := hF.2.2
  refine ⟨by show 0 ≤ sizeLine; decide, fun fl hfl => ?_⟩
  obtain ⟨hR1, k1, nfl⟩ := hR.new (o := .lst []) hfl
  have nf3 := hR.free hfl
  refine ⟨_, rfl, _, rfl, _, _, rfl, rfl, w, l, (many : Nat) + 1, C, rfl, hR1.well, by omega, by omega, by omega, fun H2 r2 k2 hW2 r20 r21 => ?_⟩
  obtain ⟨hR2, k2⟩ := hR1.draw k2 hW2
  have hfl2 : H2 fl = some (.lst []) := k2 _ _ nf3 upd_same
  refine ⟨_, rfl, by omega, by omega, ?_⟩
  refine for_range (lo := 0) (n := r2.toNat) (fun i σ H' => ∃ (y6 : Option V) (vs : List V) (ds : List PyData) (C' N : Nat), σ = [some (.ref w), some (.ref rm), some (.int (n : Nat)), some (.str wants), some (.int (many : Nat)), some (.ref fl), y6] ∧
    Kp [w, l, rm] H H' ∧ Rm w l rm C' (r - (N : Nat)) (fl :: S) H' ∧ H' fl = some (.lst vs) ∧ vs.length ≤ i ∧ GenL (fl :: S) H' vs ds (30 * N) (2 * n + 1) ∧ C' ≤ C + 1 + 20 * N ∧ (r ≤ 0 → N = 0) ∧ (0 ≤ r → -(3 * (n : Int)) ≤ r - (N : Nat)))
    ⟨none, [], [], C + 1, 0, rfl, k1.trans k2, ?_, hfl2, Nat.le_refl 0, GenL.nil.mono (Nat.zero_le _) (Nat.zero_le _), by omega, fun _ => rfl, fun _ => by omega⟩ ?_ ?_
  · have z : r - ((0 : Nat) : Int) = r := by omega
    rw [z]
    exact hR2.more (by rw [hfl2]; exact fun z => nomatch z)
  · rintro i σ H3 hi ⟨y6, vs, ds, C3, N3, rfl, k3, hR3, hfl3, hvl, g3, c3, z3, l3⟩
    refine ⟨_, rfl, rm, [.int (r - (N3 : Nat))], 0, _, rfl, rfl, SqL.of hR3.room, rfl, _, _, rfl, rfl, _, rfl, ite2 (fun e => ?_) (fun e => ?_)⟩
    · have e := of_decide_eq_true e
      have fin : ∀ (H4 : Hp) (a : Addr) (ds4 : List PyData) (C4 N4 : Nat), Kp [w, l, rm] H3 H4 → Rm w l rm C4 (r - (N3 : Nat) - (N4 : Nat)) (fl :: S) H4 → C4 ≤ C3 + 20 * N4 → (1 ≤ r - (N3 : Nat) → -(3 * (n : Int)) ≤ r - (N3 : Nat) - (N4 : Nat)) → Gen (fl :: S) H4 (.ref a) (.tuple ds4) (30 * N4) (2 * n + 1) →
          H4 fl = some (.lst vs) ∧ Kp [w, l, rm] H (upd H4 fl (.lst (vs ++ [.ref a]))) ∧ Rm w l rm C4 (r - ((N3 + N4 : Nat) : Int)) (fl :: S) (upd H4 fl (.lst (vs ++ [.ref a]))) ∧ GenL (fl :: S) (upd H4 fl (.lst (vs ++ [.ref a]))) (vs ++ [.ref a]) (ds ++ [.tuple ds4]) (30 * (N3 + N4)) (2 * n + 1) := by
        intro H4 a ds4 C4 N4 k4 hR4 c4 l4 g4
        have kf : Kp (fl :: S) H4 (upd H4 fl (.lst (vs ++ [.ref a]))) := (Kp.refl _ _).wr (.inl List.mem_cons_self)
        have e2 : r - (N3 : Nat) - (N4 : Nat) = r - ((N3 + N4 : Nat) : Int) := by omega
        rw [e2] at hR4
        refine ⟨k4 _ _ nf3 hfl3, (k3.trans k4).wr (.inr hfl), hR4.put nf3, ?_⟩
        have gg := ((g3.kp (k4.sub hR3.sub3)).append g4.one).kp kf
        exact gg.mono (by omega) (Nat.le_refl _)
      refine ⟨_, rfl, .inl ⟨rfl, _, SqL.of hfl3⟩, _, rfl, rfl, _, rfl, ite2 (fun e2 => ?_) (fun e2 => ?_)⟩
      · refine ⟨_, rfl, _, rfl, _, rfl, w, l, rm, C3, r - (N3 : Nat), fl :: S, rfl, hR3, ⟨by omega, by omega, by omega⟩, hn, fun _ => by omega, fun H4 a4 d4 C4 N4 k4 hR4 c4 n4 o4 l4 g4 => ?_⟩
        obtain ⟨f1, f2, f3, f4⟩ := fin H4 a4 d4 C4 N4 k4 hR4 c4 l4 g4
        exact ⟨fl, vs, _, rfl, rfl, f1, by rw [sizeLine_eq]; omega, _, _, _, C4, N3 + N4, rfl, f2, f3, upd_same, by rw [List.length_append, List.length_singleton]; omega, f4, by omega, by omega, by omega⟩
      · refine ⟨_, rfl, _, rfl, _, rfl, w, l, rm, C3, r - (N3 : Nat), fl :: S, rfl, hR3, ⟨by omega, by omega, by omega⟩, hn, fun _ => by omega, fun H4 a4 d4 C4 N4 k4 hR4 c4 n4 o4 l4 g4 => ?_⟩
        obtain ⟨f1, f2, f3, f4⟩ := fin H4 a4 d4 C4 N4 k4 hR4 c4 l4 g4
        exact ⟨fl, vs, _, rfl, rfl, f1, by rw [sizeLine_eq]; omega, _, _, _, C4, N3 + N4, rfl, f2, f3, upd_same, by rw [List.length_append, List.length_singleton]; omega, f4, by omega, by omega, by omega⟩
    · exact ⟨_, vs, ds, C3, N3, rfl, k3, hR3, hfl3, by omega, g3, c3, z3, l3⟩
  · rintro σ H3 ⟨y6, vs, ds, C3, N3, rfl, k3, hR3, hfl3, hvl, g3, c3, z3, l3⟩
    have hvl : vs.length ≤ 400 := by omega
    refine ⟨_, rfl, fl, vs, rfl, .inl ⟨SqL.of hfl3, fun p hp => ?_⟩⟩
    obtain ⟨hR4, k4, np⟩ := hR3.new (o := .tup vs) hp
    refine q _ p ds C3 N3 (k3.trans k4) (hR2.fewer hR4) c3 z3 l3 ?_
    exact Gen.tup ((g3.sub fun a m => List.mem_cons_of_mem _ m).kp (k4.sub hR.sub3)) upd_same (fun m => np (List.mem_cons_of_mem _ m)) hvl
theorem ok_function_of (T : Txt K mg) {n : Nat} {spC : Sp} (hC : FnOk P w K mg base CX0 (3 * n + 3) T.a_call T.d_call P_call spC) (eC : ∀ m, n = m + 1 → spC = sp_called m) : FnOk P w K mg base CX0 (3 * n + 4) T.a_function T.d_function P_function (sp_gen true n) := by
  refine T.F_function.ok sc_function (fun vs H Q E h => by obtain ⟨w, l, rm, C, r, S, rfl, _⟩ := h; rfl) (fun cdv A outer s H vs Q E hr h => ?_)
  refine ⟨_, (pss_cons (ps_asg (pe_op op_sub (pe_ix ix_list (pv 1) pe_int (fun _ _ => rfl)) pe_int) (pg_sub (pv 1) pe_int set_list))
    (pss_cons (ps_if (PW.pt (pw_or (pt_cmpR op_eq (pv 2) pe_int (nomark _)) (pw_or1 (pt_cmpR op_eq (pe_call (ok_drawn T) (hr.mono (by omega)) (by rfl) T.g_drawn T.F_drawn.kp T.b_drawn .nil pass0 (pa_cons (pv 0) (pa_cons pe_int pa_nil))) pe_int (nomark _))))) (pss_one (ps_ret (pe_tup (pa_cons pe_str (pa_cons (pe_call (ok_name T) (hr.mono (by omega)) (by rfl) T.g_name T.F_name.kp T.b_name .nil pass0 (pa_cons (pv 0) pa_nil)) pa_nil))))) pss_nil)
    (pss_one (ps_ret (pe_call hC (hr.mono (by omega)) (by rfl) T.g_call T.F_call.kp T.b_call .nil pass0 (pa_cons (pv 0) (pa_cons (pv 1) (pa_cons (pe_op op_sub (pv 2) pe_int) (pa_cons pe_str pa_nil))))))))), ?_⟩
  obtain ⟨w, l, rm, C, r, S, rfl, hR, hF, hn, hb, q⟩ := h
  have hb := hb rfl
  have hF1 := hF.1
  have hF2 := hF.2.1
  have hF3 := hF.2.2
  refine ⟨_, rfl, rm, [.int r], 0, _, rfl, rfl, SqL.of hR.room, rfl, _, _, rfl, rfl, ?_⟩
  obtain ⟨hR1, k1⟩ := hR.less (r' := r - 1)
  refine ⟨_, rfl, rm, [.int r], 0, 0, rfl, rfl, hR.room, rfl, ?_⟩
  show tSeq _ _ _ _ (upd H rm (.lst [.int (r - 1)]))
  generalize upd H rm (.lst [.int (r - 1)]) = H1 at hR1 k1
  have leaf : ∀ (H2 H3 : Hp) (C2 : Nat) (z : PySem.Str) (p : Addr), Kp [w, l, rm] H H2 → Rm w l rm C2 (r - 1) S H2 → C2 ≤ C + 1 → Kp [w, l] H2 H3 → Well H3 w l (C2 + 10) → Nm z → H3 p = none → Q (.ref p) (upd H3 p (.tup [.str "given", .str z])) := by
    intro H2 H3 C2 z p k2 hR2 c2 k3 hW3 hz hp
    obtain ⟨hR3, k3⟩ := hR2.draw k3 hW3
    obtain ⟨hR4, k4, np⟩ := hR3.new (o := .tup [.str "given", .str z]) hp
    refine q _ p [.str "given", .str z] _ 1 ((k2.trans k3).trans k4) hR4 (by omega) (Nat.le_refl 1) (fun _ => rfl) (fun _ => by omega) ?_
    have gl := GenL.cons (Gen.str (S := S) (H := upd H3 p (.tup [.str "given", .str z])) (x := "given") (n := 5) (by decide) (by decide +kernel) (by decide)) (Gen.nm hz).one
    exact (Gen.tup gl upd_same np (by show 2 ≤ 400; decide)).mono (by decide) (by omega)
  refine ⟨_, rfl, rfl, _, rfl, ite2 (fun e => ?_) (fun e => ?_)⟩
  · refine ite2 (fun e2 => ?_) (fun e2 => nomatch e2)
    refine ⟨_, rfl, w, l, C, rfl, hR1.well, by omega, fun H3 z k3 hW3 hz => ⟨by show 2 ≤ sizeLine; decide, fun p hp => ?_⟩⟩
    exact leaf H1 H3 C z p k1 hR1 (by omega) k3 hW3 hz hp
  · have hn0 : n ≠ 0 := fun z => by subst z; exact e (decide_eq_true rfl)
    obtain ⟨m, rfl⟩ := Nat.exists_eq_succ_of_ne_zero hn0
    have eS := eC m rfl
    subst eS
    refine ⟨_, rfl, w, l, 2, C, rfl, hR1.well, by omega, by decide, by decide, fun H2 r2 k2 hW2 r20 r21 => ?_⟩
    obtain ⟨hR2, k2⟩ := hR1.draw k2 hW2
    refine ⟨rfl, _, rfl, ite2 (fun e2 => ?_) (fun e2 => ?_)⟩
    · refine ⟨_, rfl, w, l, C + 1, rfl, hR2.well, by omega, fun H3 z k3 hW3 hz => ⟨by show 2 ≤ sizeLine; decide, fun p hp => ?_⟩⟩
      exact leaf H2 H3 (C + 1) z p (k1.trans k2) hR2 (by omega) k3 hW3 hz hp
    · refine ⟨_, rfl, _, rfl, _, rfl, _, _, rfl, rfl, w, l, rm, C + 1, r - 1, S, "part", ?_, by decide, hR2, ⟨by omega, by omega, by omega⟩, by omega, by omega, fun H3 a d C3 N k3 hR3 c3 z3 l3 g3 => ?_⟩
      · have e : ((Nat.succ m : Nat) : Int) - 1 = (m : Nat) := by omega
        show [V.ref w, V.ref rm, V.int (((Nat.succ m : Nat) : Int) - 1), V.str "part"] = _
        rw [e]
      · have e : r - 1 - (N : Nat) = r - ((N + 1 : Nat) : Int) := by omega
        rw [e] at hR3
        exact q H3 a d C3 (N + 1) ((k1.trans k2).trans k3) hR3 (by omega) (by omega) (by omega) (by omega) (g3.mono (by omega) (by omega))
theorem ok_task_of (T : Txt K mg) {n : Nat} {spC spT : Sp} (hC : FnOk P w K mg base CX0 (3 * n + 3) T.a_call T.d_call P_call spC) (hT : FnOk P w K mg base CX0 (3 * n + 1) T.a_task T.d_task P_task spT) (eC : ∀ m, n = m + 1 → spC = sp_called m) (eT : ∀ m, n = m + 1 → spT = sp_gen false m) : FnOk P w K mg base CX0 (3 * n + 4) T.a_task T.d_task P_task (sp_gen false n) := by
  refine T.F_task.ok sc_task (fun vs H Q E h => by obtain ⟨w, l, rm, C, r, S, rfl, _⟩ := h; rfl) (fun cdv A outer s H vs Q E hr h => ?_)
  refine ⟨_, (pss_cons (ps_asg (pe_op op_sub (pe_ix ix_list (pv 1) pe_int (fun _ _ => rfl)) pe_int) (pg_sub (pv 1) pe_int set_list))
    (pss_cons (ps_set (i := 3) sc_task.nd rfl (Or.inl rfl) (pe_ifExp (PW.pt (pw_and (pt_cmpR op_gt (pv 2) pe_int (nomark _)) (pw_and1 (pt_cmpR op_gt (pe_ix ix_list (pv 1) pe_int (fun _ _ => rfl)) pe_int (nomark _))))) (pe_call (ok_drawn T) (hr.mono (by omega)) (by rfl) T.g_drawn T.F_drawn.kp T.b_drawn .nil pass0 (pa_cons (pv 0) (pa_cons pe_int pa_nil))) (pe_call (ok_drawn T) (hr.mono (by omega)) (by rfl) T.g_drawn T.F_drawn.kp T.b_drawn .nil pass0 (pa_cons (pv 0) (pa_cons pe_int pa_nil)))))
    (pss_cons (ps_if (pt_cmpR op_lt (pv 3) pe_int (nomark _)) (pss_one (ps_ret (pe_ix ix_list (pe_lst (pa_cons (pe_tup (pa_cons pe_str pa_nil)) (pa_cons (pe_tup (pa_cons pe_str pa_nil)) (pa_cons (pe_tup (pa_cons pe_str pa_nil)) pa_nil)))) (pv 3) (fun _ _ => rfl)))) pss_nil)
    (pss_cons (ps_if (pt_cmpR op_eq (pv 3) pe_int (nomark _)) (pss_one (ps_ret (pe_tup (pa_cons pe_str (pa_cons (pe_call (ok_name T) (hr.mono (by omega)) (by rfl) T.g_name T.F_name.kp T.b_name .nil pass0 (pa_cons (pv 0) pa_nil)) pa_nil))))) pss_nil)
    (pss_cons (ps_if (pt_cmpR op_lt (pv 3) pe_int (nomark _)) (pss_one (ps_ret (pe_tup (pa_cons pe_str (pa_cons (pe_call (ok_name T) (hr.mono (by omega)) (by rfl) T.g_name T.F_name.kp T.b_name .nil pass0 (pa_cons (pv 0) pa_nil)) (pa_cons (pe_call hT (hr.mono (by omega)) (by rfl) T.g_task T.F_task.kp T.b_task .nil pass0 (pa_cons (pv 0) (pa_cons (pv 1) (pa_cons (pe_op op_sub (pv 2) pe_int) pa_nil)))) pa_nil)))))) pss_nil)
    (pss_cons (ps_if (pt_cmpR op_lt (pv 3) pe_int (nomark _)) (pss_cons (ps_set (i := 4) sc_task.nd rfl (Or.inl rfl) (pe_callTy call_tuple_of (by rfl) T.n_tuple (by decide +kernel) (pa_cons (pe_lc (own := [("state", 5)]) rfl sc_task.nd (pi_range1 (by rfl) T.n_range (pa_cons pe_int pa_nil)) (blkOk_by (own := [("state", 5)]) (N := N_task) (sc := defScope s_task) (by decide +kernel)) (fun _ _ _ _ _ => (pg_name (i := 5) sc_task.nd rfl (Or.inl rfl))) (fun _ _ _ _ _ => (pts_one (pt_cmpR op_eq (pe_call (ok_drawn T) (hr.mono (by omega)) (by rfl) T.g_drawn T.F_drawn.kp T.b_drawn .nil pass0 (pa_cons (pv 0) (pa_cons pe_int pa_nil))) pe_int (nomark _)))) (fun _ _ _ _ _ => (pv 5))) pa_nil)))
    (pss_one (ps_ret (pe_tup (pa_cons pe_str (pa_cons (pv 4) (pa_cons (pe_call hT (hr.mono (by omega)) (by rfl) T.g_task T.F_task.kp T.b_task .nil pass0 (pa_cons (pv 0) (pa_cons (pv 1) (pa_cons (pe_op op_sub (pv 2) pe_int) pa_nil)))) (pa_cons (pe_call hT (hr.mono (by omega)) (by rfl) T.g_task T.F_task.kp T.b_task .nil pass0 (pa_cons (pv 0) (pa_cons (pv 1) (pa_cons (pe_op op_sub (pv 2) pe_int) pa_nil)))) pa_nil)))))))) pss_nil)
    (pss_cons (ps_if (pt_cmpR op_lt (pv 3) pe_int (nomark _)) (pss_cons (ps_setLc (i := 6) (own := [("k", 7)]) rfl sc_task.nd rfl rfl (sw_true rfl rfl rfl (by decide +kernel)) (pi_range1 (by rfl) T.n_range (pa_cons (pe_op op_add pe_int (pe_call (ok_drawn T) (hr.mono (by omega)) (by rfl) T.g_drawn T.F_drawn.kp T.b_drawn .nil pass0 (pa_cons (pv 0) (pa_cons pe_int pa_nil)))) pa_nil)) (blkOk_by (own := [("k", 7)]) (N := N_task) (sc := defScope s_task) (by decide +kernel)) (fun _ _ _ _ _ => (pg_name (i := 7) sc_task.nd rfl (Or.inl rfl))) (fun _ _ _ _ _ => pts_nil) (fun _ _ _ _ _ => (pe_call hT (hr.mono (by omega)) (by rfl) T.g_task T.F_task.kp T.b_task .nil pass0 (pa_cons (pv 0) (pa_cons (pv 1) (pa_cons (pe_op op_sub (pv 2) pe_int) pa_nil))))))
    (pss_one (ps_ret (pe_op op_catA (pe_tup (pa_cons pe_str pa_nil)) (pe_callTy call_tuple_of (by rfl) T.n_tuple (by decide +kernel) (pa_cons (pv 6) pa_nil)))))) pss_nil)
    (pss_one (ps_ret (pe_call hC (hr.mono (by omega)) (by rfl) T.g_call T.F_call.kp T.b_call .nil pass0 (pa_cons (pv 0) (pa_cons (pv 1) (pa_cons (pe_op op_sub (pv 2) pe_int) (pa_cons pe_str pa_nil)))))))))))))), ?_⟩
  obtain ⟨w, l, rm, C, r, S, rfl, hR, hF, hn, _, q⟩ := h
  have hF1 := hF.1
  have hF2 := hF.2.1
  have hF3 := hF.2.2
  refine ⟨_, rfl, rm, [.int r], 0, _, rfl, rfl, SqL.of hR.room, rfl, _, _, rfl, rfl, ?_⟩
  obtain ⟨hR1, k1⟩ := hR.less (r' := r - 1)
  refine ⟨_, rfl, rm, [.int r], 0, 0, rfl, rfl, hR.room, rfl, ?_⟩
  dsimp only [gName]
  show tSeq (tAsg _ _) _ _ _ (upd H rm (.lst [.int (r - 1)]))
  generalize upd H rm (.lst [.int (r - 1)]) = H1 at hR1 k1
  -- way
  refine asg_via (fun Q2 => ∀ (H2 : Hp) (way : Int), Kp [w, l, rm] H H2 → Rm w l rm (C + 1) (r - 1) S H2 → 0 ≤ way → (way < 4 ∨ (1 ≤ n ∧ 2 ≤ r)) → Q2 (.int way) H2) (fun Q2 h => ?_) (fun H2 way k2 hR2 w0 w1 => ?_)
  · have dr : ∀ (m : Int), 0 < m → m < 1073741824 → (m = 4 ∨ (1 ≤ n ∧ 2 ≤ r)) → tCall sp_drawn [] E0 (tCons (tVar 0) (tCons (tC (V.int m)) tNil)) (L2.start N_task [V.ref w, V.ref rm, V.int (n : Nat)]) H1 Q2 := by
      intro m m0 m1 hm
      refine ⟨_, rfl, w, l, m, C, rfl, hR1.well, by omega, m0, m1, fun H2 r2 k2 hW2 r20 r21 => ?_⟩
      obtain ⟨hR2, k2⟩ := hR1.draw k2 hW2
      exact h H2 r2 (k1.trans k2) hR2 r20 (by omega)
    refine ⟨_, rfl, _, _, rfl, rfl, _, rfl, ite2 (fun e => ?_) (fun e => ?_)⟩
    · refine ⟨_, rfl, rm, [.int (r - 1)], 0, _, rfl, rfl, SqL.of hR1.room, rfl, _, _, rfl, rfl, _, rfl, ite2 (fun e2 => ?_) (fun e2 => ?_)⟩
      · have e := of_decide_eq_true e
        have e2 := of_decide_eq_true e2
        exact dr 14 (by decide) (by decide) (.inr ⟨by omega, by omega⟩)
      · exact dr 4 (by decide) (by decide) (.inl rfl)
    · exact ite2 (fun e2 => nomatch e2) (fun e2 => dr 4 (by decide) (by decide) (.inl rfl))
  -- a task of itself
  have leaf : ∀ (H' : Hp) (a : Addr) (ds : List PyData) (C' : Nat), Kp [w, l, rm] H2 H' → Rm w l rm C' (r - 1) S H' → C' ≤ C + 11 → Gen S H' (.ref a) (.tuple ds) 16 1 → Q (.ref a) H' := by
    intro H' a ds C' k' hR' c' g'
    exact q H' a ds C' 1 (k2.trans k') hR' (by omega) (Nat.le_refl 1) (fun _ => rfl) (fun _ => by omega) (g'.mono (by decide) (by omega))
  refine ⟨_, rfl, _, _, rfl, rfl, _, rfl, ite2 (fun e => ?_) (fun e => ?_)⟩
  · have e := of_decide_eq_true e
    refine ⟨by show 1 ≤ sizeLine; decide, fun p1 hp1 => ⟨by show 1 ≤ sizeLine; decide, fun p2 hp2 => ⟨by show 1 ≤ sizeLine; decide, fun p3 hp3 => ⟨by show 3 ≤ sizeLine; decide, fun p4 hp4 => ?_⟩⟩⟩⟩
    obtain ⟨hRa, ka, n1⟩ := hR2.new (o := .tup [.str "end"]) hp1
    obtain ⟨hRb, kb, n2⟩ := hRa.new (o := .tup [.str "wait"]) hp2
    obtain ⟨hRc, kc, n3⟩ := hRb.new (o := .tup [.str "fail"]) hp3
    obtain ⟨hRd, kd, n4⟩ := hRc.new (o := .lst [.ref p1, .ref p2, .ref p3]) hp4
    have kz := ((ka.trans kb).trans kc).trans kd
    have wd : ∀ (p : Addr) (x : PySem.Str) (H' : Hp), x ∈ (["end", "wait", "fail", "go", "do", "test", "pick"] : List PySem.Str) → p ∉ S → H' p = some (.tup [.str x]) → Kp S H' (upd (upd (upd (upd H2 p1 (.tup [.str "end"])) p2 (.tup [.str "wait"])) p3 (.tup [.str "fail"])) p4 (.lst [.ref p1, .ref p2, .ref p3])) →
        Q (.ref p) (upd (upd (upd (upd H2 p1 (.tup [.str "end"])) p2 (.tup [.str "wait"])) p3 (.tup [.str "fail"])) p4 (.lst [.ref p1, .ref p2, .ref p3])) := by
      intro p x H' hx np hp k'
      refine leaf _ p [.str x] _ kz hRd (by omega) ?_
      exact ((Gen.tup (Gen.wd (dp := 0) hx).one hp np (by show 1 ≤ 400; decide)).kp k').mono (by decide) (by decide)
    have s3 := hR.sub3
    rcases (show way = 0 ∨ way = 1 ∨ way = 2 by omega) with rfl | rfl | rfl
    · exact ⟨_, rfl, p4, [.ref p1, .ref p2, .ref p3], 0, _, rfl, rfl, SqL.of upd_same, rfl, wd p1 "end" _ (by decide +kernel) n1 upd_same (((kb.trans kc).trans kd).sub s3)⟩
    · exact ⟨_, rfl, p4, [.ref p1, .ref p2, .ref p3], 1, _, rfl, rfl, SqL.of upd_same, rfl, wd p2 "wait" _ (by decide +kernel) n2 upd_same ((kc.trans kd).sub s3)⟩
    · exact ⟨_, rfl, p4, [.ref p1, .ref p2, .ref p3], 2, _, rfl, rfl, SqL.of upd_same, rfl, wd p3 "fail" _ (by decide +kernel) n3 upd_same (kd.sub s3)⟩
  have e := of_decide_eq_false (Bool.eq_false_iff.mpr e)
  refine ⟨_, rfl, rfl, _, rfl, ite2 (fun e2 => ?_) (fun e2 => ?_)⟩
  · refine ⟨_, rfl, w, l, C + 1, rfl, hR2.well, by omega, fun H3 z k3 hW3 hz => ⟨by show 2 ≤ sizeLine; decide, fun p hp => ?_⟩⟩
    obtain ⟨hR3, k3⟩ := hR2.draw k3 hW3
    obtain ⟨hR4, k4, np⟩ := hR3.new (o := .tup [.str "go", .str z]) hp
    refine leaf _ p [.str "go", .str z] _ (k3.trans k4) hR4 (by omega) ?_
    exact Gen.tup (GenL.cons (Gen.wd (by decide +kernel)) (Gen.nm hz).one) upd_same np (by show 2 ≤ 400; decide)
  have w3 : way ≠ 3 := fun z => e2 (by subst z; exact decide_eq_true rfl)
  have hn0 : n ≠ 0 := by omega
  have hr2 : 2 ≤ r := by omega
  obtain ⟨m, rfl⟩ := Nat.exists_eq_succ_of_ne_zero hn0
  have eS := eC m rfl
  subst eS
  have eS := eT m rfl
  subst eS
  have em : ((Nat.succ m : Nat) : Int) - 1 = (m : Nat) := by omega
  have ea : [V.ref w, V.ref rm, V.int (((Nat.succ m : Nat) : Int) - 1)] = [V.ref w, V.ref rm, V.int (m : Nat)] := by rw [em]
  have hR2' : Rm w l rm (C + 1) (r - ((1 : Nat) : Int)) S H2 := hR2
  refine ⟨_, rfl, _, _, rfl, rfl, _, rfl, ite2 (fun e3 => ?_) (fun e3 => ?_)⟩
  · -- do
    refine ⟨_, rfl, w, l, C + 1, rfl, hR2.well, by omega, fun H3 z k3 hW3 hz => ?_⟩
    obtain ⟨hR3, k3⟩ := hR2'.draw k3 hW3
    refine ⟨_, rfl, _, rfl, _, rfl, _, _, rfl, rfl, w, l, rm, _, _, S, ea, hR3, ⟨by omega, by omega, by omega⟩, by omega, (fun z => nomatch z), fun H4 a ds C4 M k4 hR4 c4 l4 o4 z4 g4 => ⟨by show 3 ≤ sizeLine; decide, fun p hp => ?_⟩⟩
    have e : r - ((1 : Nat) : Int) - (M : Nat) = r - ((1 + M : Nat) : Int) := by omega
    rw [e] at hR4
    obtain ⟨hR5, k5, np⟩ := hR4.new (o := .tup [.str "do", .str z, .ref a]) hp
    refine q _ p [.str "do", .str z, .tuple ds] C4 (1 + M) (((k2.trans k3).trans k4).trans k5) hR5 (by omega) (by omega) (by omega) (by omega) ?_
    exact (Gen.tup (GenL.cons (Gen.wd (by decide +kernel)) (GenL.cons ((Gen.nm hz).mono (Nat.le_refl _) (Nat.zero_le _)) (g4.kp (k5.sub hR.sub3)).one)) upd_same np (by show 3 ≤ 400; decide)).mono (by omega) (by omega)
  refine ⟨_, rfl, _, _, rfl, rfl, _, rfl, ite2 (fun e4 => ?_) (fun e4 => ?_)⟩
  · -- test
    refine ⟨_, rfl, by decide, by decide, fun D hD => ?_⟩
    obtain ⟨hR3, k3, nD⟩ := hR2.new (o := .lst []) hD
    have nD3 := hR2.free hD
    refine lc_range (lo := 0) (n := 3) (fun i H' => ∃ zs : List Int, zs.length ≤ i ∧ (∀ z ∈ zs, 0 ≤ z ∧ z < 3) ∧ H' D = some (.lst (zs.map V.int)) ∧ Kp [w, l, rm] H2 H' ∧ Rm w l rm (C + 1 + i) (r - ((1 : Nat) : Int)) S H')
      ⟨[], Nat.le_refl 0, (fun z h => nomatch h), upd_same, k3, hR3⟩ ?_ ?_
    · rintro i H' hi ⟨zs, hl, hz, hHD, k', hR'⟩
      refine ⟨rfl, _, rfl, w, l, 2, C + 1 + i, rfl, hR'.well, by omega, by decide, by decide, fun H4 r4 k4 hW4 r40 r41 => ?_⟩
      obtain ⟨hR4, k4⟩ := hR'.draw k4 hW4
      refine ⟨rfl, _, rfl, ite2 (fun e6 => ?_) (fun e6 => ?_)⟩
      · refine ⟨_, rfl, zs.map V.int, k4 _ _ nD3 hHD, by rw [List.length_map, sizeLine_eq]; omega, zs ++ [0 + (i : Int)], by rw [List.length_append, List.length_singleton]; omega, fun z hm => ?_, by rw [upd_same, List.map_append]; rfl, (k'.trans k4).wr (.inr hD), hR4.put nD3⟩
        rcases List.mem_append.mp hm with h | h
        · exact hz z h
        · rw [List.mem_singleton] at h
          omega
      · exact ⟨zs, by omega, hz, k4 _ _ nD3 hHD, k'.trans k4, hR4⟩
    · rintro H' ⟨zs, hl, hz, hHD, k', hR'⟩
      refine ⟨D, zs.map V.int, rfl, .inl ⟨SqL.of hHD, fun ps hps => ?_⟩⟩
      obtain ⟨hR4, k4, nps⟩ := hR'.new (o := .tup (zs.map V.int)) hps
      have gs : ∀ (zs : List Int) (H : Hp), (∀ z ∈ zs, 0 ≤ z ∧ z < 3) → GenL S H (zs.map V.int) (zs.map PyData.int) zs.length 0 := by
        intro zs H
        induction zs with
        | nil => exact fun _ => GenL.nil
        | cons z zs ih =>
          intro h
          have hz := h z List.mem_cons_self
          exact (GenL.cons (Gen.int (by omega)) (ih fun y hy => h y (List.mem_cons_of_mem _ hy))).mono (by rw [List.length_cons]; omega) (Nat.le_refl _)
      have gS := Gen.tup (gs zs _ hz) (upd_same (H := H')) nps (by rw [List.length_map]; omega)
      refine ⟨_, rfl, _, rfl, _, rfl, _, rfl, _, _, rfl, rfl, w, l, rm, _, _, S, ea, hR4, ⟨by omega, by omega, by omega⟩, by omega, (fun z => nomatch z), fun H5 a ds C5 M k5 hR5 c5 l5 o5 z5 g5 => ?_⟩
      refine ⟨_, rfl, _, rfl, _, rfl, _, _, rfl, rfl, w, l, rm, _, _, S, ea, hR5, ⟨by omega, by omega, by omega⟩, by omega, (fun z => nomatch z), fun H6 a2 ds2 C6 M2 k6 hR6 c6 l6 o6 z6 g6 => ⟨by show 4 ≤ sizeLine; decide, fun p hp => ?_⟩⟩
      have e : r - ((1 : Nat) : Int) - (M : Nat) - (M2 : Nat) = r - ((1 + M + M2 : Nat) : Int) := by omega
      rw [e] at hR6
      obtain ⟨hR7, k7, np⟩ := hR6.new (o := .tup [.str "test", .ref ps, .ref a, .ref a2]) hp
      refine q _ p [.str "test", .tuple (zs.map .int), .tuple ds, .tuple ds2] C6 (1 + M + M2) ((((k2.trans k').trans k4).trans k5).trans (k6.trans k7)) hR7 (by omega) (by omega) (by omega) (by omega) ?_
      have s3 := hR.sub3
      exact (Gen.tup (GenL.cons (Gen.wd (by decide +kernel)) (GenL.cons ((gS.kp (((k5.trans k6).trans k7).sub s3)).mono (Nat.le_refl _) (by omega)) (GenL.cons (g5.kp ((k6.trans k7).sub s3)) (g6.kp (k7.sub s3)).one))) upd_same np (by show 4 ≤ 400; decide)).mono (by omega) (by omega)
  refine ⟨_, rfl, _, _, rfl, rfl, _, rfl, ite2 (fun e5 => ?_) (fun e5 => ?_)⟩
  · -- pick
    refine ⟨_, rfl, w, l, 4, C + 1, rfl, hR2.well, by omega, by decide, by decide, fun H3 r3 k3 hW3 r30 r31 => ?_⟩
    obtain ⟨hR3, k3⟩ := hR2'.draw k3 hW3
    refine ⟨_, _, rfl, rfl, _, rfl, by omega, by omega, fun D hD => ?_⟩
    obtain ⟨hR4, k4, nD⟩ := hR3.new (o := .lst []) hD
    have nD3 := hR3.free hD
    refine lc_range (lo := 0) (n := (1 + r3).toNat) (fun i H' => ∃ (vs : List V) (ds : List PyData) (C' M : Nat), vs.length = i ∧ H' D = some (.lst vs) ∧ Kp [w, l, rm] H3 H' ∧ Rm w l rm C' (r - ((1 + M : Nat) : Int)) (D :: S) H' ∧ GenL (D :: S) H' vs ds (30 * M) (2 * m + 1) ∧ C' ≤ C + 2 + 20 * M ∧ (i = 0 → M = 0) ∧ (1 ≤ i → -(3 * (m : Int)) - i + 1 ≤ r - ((1 + M : Nat) : Int)))
      ⟨[], [], C + 2, 0, rfl, upd_same, k4, hR4.more (by rw [upd_same]; exact fun z => nomatch z), GenL.nil.mono (Nat.zero_le _) (Nat.zero_le _), by omega, fun _ => rfl, fun h => nomatch h⟩ ?_ ?_
    · rintro i H' hi ⟨vs, ds, C', M, hl, hHD, k', hR', g', c', m0, m1⟩
      refine ⟨rfl, _, rfl, _, rfl, _, rfl, _, _, rfl, rfl, w, l, rm, _, _, D :: S, ea, hR', ⟨by omega, by omega, by omega⟩, by omega, (fun z => nomatch z), fun H5 a d C5 M2 k5 hR5 c5 l5 o5 z5 g5 => ?_⟩
      have e : r - ((1 + M : Nat) : Int) - (M2 : Nat) = r - ((1 + (M + M2) : Nat) : Int) := by omega
      rw [e] at hR5
      have kf : Kp (D :: S) H5 (upd H5 D (.lst (vs ++ [.ref a]))) := (Kp.refl _ _).wr (.inl List.mem_cons_self)
      refine ⟨vs, k5 _ _ nD3 hHD, by rw [sizeLine_eq]; omega, vs ++ [.ref a], ds ++ [.tuple d], C5, M + M2, by rw [List.length_append, List.length_singleton, hl], upd_same, (k'.trans k5).wr (.inr hD), hR5.put nD3, ?_, by omega, by omega, by omega⟩
      exact (((g'.kp (k5.sub hR'.sub3)).append g5.one).kp kf).mono (by omega) (Nat.le_refl _)
    · rintro H' ⟨vs, ds, C', M, hl, hHD, k', hR', g', c', m0, m1⟩
      refine ⟨by show 1 ≤ sizeLine; decide, fun p1 hp1 => ?_⟩
      obtain ⟨hR5, k5, np1⟩ := hR'.new (o := .tup [.str "pick"]) hp1
      refine ⟨_, rfl, D, vs, rfl, .inl ⟨SqL.of (k5 _ _ nD3 hHD), fun p2 hp2 => ?_⟩⟩
      obtain ⟨hR6, k6, np2⟩ := hR5.new (o := .tup vs) hp2
      have hp1' : (upd (upd H' p1 (.tup [.str "pick"])) p2 (.tup vs)) p1 = some (.tup [.str "pick"]) := k6 _ _ (hR'.free hp1) upd_same
      have hvs : vs ≠ [] := fun z => by rw [z] at hl; have := hl; simp only [List.length_nil] at this; omega
      refine ⟨p1, p2, [.str "pick"], vs, rfl, rfl, SqT.of hp1', SqT.of upd_same, by rw [List.length_singleton, sizeLine_eq]; omega, (fun z => nomatch z), (fun _ z => absurd z hvs), fun _ _ p hp => ?_⟩
      obtain ⟨hR7, k7, np⟩ := hR6.new (o := .tup ([.str "pick"] ++ vs)) hp
      refine q _ p (.str "pick" :: ds) C' (1 + M) (((((k2.trans k3).trans k').trans k5).trans k6).trans k7) (hR3.fewer hR7) (by omega) (by omega) (by omega) (by omega) ?_
      have nD : ∀ a ∈ S, a ∈ D :: S := fun a m => List.mem_cons_of_mem _ m
      exact (Gen.tup (GenL.cons (Gen.wd (by decide +kernel)) ((g'.sub nD).kp (((k5.trans k6).trans k7).sub hR.sub3))) upd_same (fun m => np (nD _ m)) (by rw [List.length_cons]; omega)).mono (by omega) (by omega)
  · -- call
    refine ⟨_, rfl, _, rfl, _, rfl, _, _, rfl, rfl, w, l, rm, C + 1, r - 1, S, "call", ?_, by decide, hR2, ⟨by omega, by omega, by omega⟩, by omega, by omega, fun H3 a d C3 N k3 hR3 c3 z3 l3 g3 => ?_⟩
    · show [V.ref w, V.ref rm, V.int (((Nat.succ m : Nat) : Int) - 1), V.str "call"] = _
      rw [em]
    · have e : r - 1 - (N : Nat) = r - ((N + 1 : Nat) : Int) := by omega
      rw [e] at hR3
      exact q H3 a d C3 (N + 1) (k2.trans k3) hR3 (by omega) (by omega) (by omega) (by omega) (g3.mono (by omega) (by omega))
/-- no promise at all -/
theorem fn_none {k : Nat} {f : Addr} {fd : FuncData} {ps : List PySem.Str} : FnOk P w K mg base CX0 k f fd ps (fun _ _ _ _ => False) := ⟨fun _ _ _ _ h => h.elim, fun _ _ _ _ _ _ _ _ _ _ _ _ _ h => h.elim⟩
theorem ok_gen (T : Txt K mg) : ∀ n : Nat, FnOk P w K mg base CX0 (3 * n + 4) T.a_function T.d_function P_function (sp_gen true n) ∧ FnOk P w K mg base CX0 (3 * n + 4) T.a_task T.d_task P_task (sp_gen false n)
  | 0 => ⟨ok_function_of T fn_none (fun m e => nomatch e), ok_task_of T fn_none fn_none (fun m e => nomatch e) (fun m e => nomatch e)⟩
  | n + 1 => by
    obtain ⟨f, t⟩ := ok_gen T n
    have c := ok_call_of T (ok_parts_of T f t)
    refine ⟨ok_function_of T (n := n + 1) (c.mono (by omega)) (fun m e => ?_), ok_task_of T (n := n + 1) (c.mono (by omega)) (t.mono (by omega)) (fun m e => ?_) (fun m e => ?_)⟩
    all_goals
      have e : n = m := by omega
      rw [e]
end
end K05
set_option Elab.async false
set_option Elab.async false
set_option linter.all false
set_option maxRecDepth 100000
set_option maxHeartbeats 4000000
/-! k05: displays, and what is drawn from them. -/
namespace K05
open PySem PySem.Spec PyProof.Rows L2 Zg Zr Zd Zv
/-! ### displays -/
/-- t makes a value of so much -/
def Mk (S : List Addr) (H0 : Hp) (t : TE) (σ : L2.St) (k dp : Nat) : Prop := ∀ (H : Hp) (Q : VK), Same H0 H → Trk S H → (∀ v d H', Same H H' → Trk S H' → Gen S H' v d k dp → Q v H') → t σ H Q
def MkL (S : List Addr) (H0 : Hp) (t : TA) (σ : L2.St) (k dp n : Nat) : Prop := ∀ (H : Hp) (Q : List V → Hp → Prop), Same H0 H → Trk S H → (∀ vs ds H', Same H H' → Trk S H' → GenL S H' vs ds k dp → vs.length = n → Q vs H') → t σ H Q
/-- all values of so much -/
def Every (S : List Addr) (H : Hp) (vs : List V) (k dp : Nat) : Prop := ∀ v ∈ vs, ∃ d, Gen S H v d k dp
def MkA (S : List Addr) (H0 : Hp) (t : TA) (σ : L2.St) (k dp n : Nat) : Prop := ∀ (H : Hp) (Q : List V → Hp → Prop), Same H0 H → Trk S H → (∀ vs H', Same H H' → Trk S H' → Every S H' vs k dp → vs.length = n → Q vs H') → t σ H Q
theorem Every.same {S : List Addr} {H H' : Hp} {vs : List V} {k dp : Nat} (h : Every S H vs k dp) (q : Same H H') : Every S H' vs k dp := fun v m => by
  obtain ⟨d, g⟩ := h v m
  exact ⟨d, g.kp (Kp.of q)⟩
theorem Every.kp {S : List Addr} {H H' : Hp} {vs : List V} {k dp : Nat} (h : Every S H vs k dp) (q : Kp S H H') : Every S H' vs k dp := fun v m => by
  obtain ⟨d, g⟩ := h v m
  exact ⟨d, g.kp q⟩
section
variable {S : List Addr} {H0 : Hp} {σ : L2.St} {k k2 dp n K : Nat} {t : TE} {ts : TA}
theorem mk_c {v : V} {d : PyData} (h : ∀ H, Gen S H v d k dp) : Mk S H0 (tC v) σ k dp := fun H Q _ tr q => q v d H (fun _ _ e => e) tr (h H)
theorem mk_str {x : PySem.Str} (h : okv (.str x) = true) : Mk S H0 (tC (.str x)) σ (x.length + 1) dp := mk_c fun H => ⟨.str x, h, Nat.le_refl _, Nat.succ_le_succ (Nat.zero_le _), Nat.zero_le _, rfl⟩
theorem mk_int {i : Int} (h : okv (.int i) = true) : Mk S H0 (tC (.int i)) σ 1 dp := mk_c fun H => ⟨.int i, h, Nat.le_refl 1, Nat.le_refl 1, Nat.zero_le _, rfl⟩
theorem mk_non : Mk S H0 (tC .non) σ 1 dp := mk_c fun H => ⟨.non, rfl, Nat.le_refl 1, Nat.le_refl 1, Nat.zero_le _, rfl⟩
theorem mk_bl {b : Bool} : Mk S H0 (tC (.bl b)) σ 1 dp := mk_c fun H => ⟨.bl b, rfl, Nat.le_refl 1, Nat.le_refl 1, Nat.zero_le _, rfl⟩
theorem mk_neg {i : Int} (h : okv (.int (-i)) = true) : Mk S H0 (tUn (rU fun i => .int (-i)) (tC (.int i))) σ 1 dp := fun H Q _ tr q => ⟨i, rfl, q _ (.int (-i)) H (fun _ _ e => e) tr ⟨.int _, h, Nat.le_refl 1, Nat.le_refl 1, Nat.zero_le _, rfl⟩⟩
theorem mk_pow : Mk S H0 (tOp (rI CPow fun i j => .int (i ^ j.toNat)) (tC (.int 10)) (tC (.int 39))) σ 1 dp := fun H Q _ tr q =>
  ⟨10, 39, rfl, rfl, ⟨by decide, by decide, by decide⟩, q _ (.int (10 ^ 39)) H (fun _ _ e => e) tr ⟨.int _, by decide +kernel, Nat.le_refl 1, Nat.le_refl 1, Nat.zero_le _, rfl⟩⟩
theorem mk_dic : Mk S H0 tDNewK σ 1 (dp + 1) := fun H Q _ tr q p hp =>
  q _ (.dict []) _ (same_new hp) (tr.same (same_new hp)) ⟨.dic upd_same (tr.out hp), rfl, Nat.le_refl 1, Nat.le_refl 1, Nat.succ_le_succ (Nat.zero_le _), rfl⟩
theorem mk_var {i : Nat} {v : V} {d : PyData} (e : σ[i]? = some (some v)) (h : Gen S H0 v d k dp) : Mk S H0 (tVar i) σ k dp := fun H Q sm tr q => ⟨v, e, q v d H (fun _ _ e => e) tr (h.kp (Kp.of sm))⟩
theorem mk_tup (h : MkL S H0 ts σ k dp n) (hn : n ≤ 400) : Mk S H0 (tTup ts) σ (k + 1) (dp + 1) := fun H Q sm tr q => h H _ sm tr fun vs ds H1 s1 t1 g l =>
  ⟨by rw [l, sizeLine_eq]; omega, fun p hp => q _ (.tuple ds) _ (s1.trans (same_new hp)) (t1.same (same_new hp)) (Gen.tup (g.kp (Kp.new hp)) upd_same (t1.out hp) (by rw [l]; exact hn))⟩
theorem mk_lst (h : MkL S H0 ts σ k dp n) (hn : n ≤ 400) : Mk S H0 (tLst ts) σ (k + 1) (dp + 1) := fun H Q sm tr q => h H _ sm tr fun vs ds H1 s1 t1 g l =>
  ⟨by rw [l, sizeLine_eq]; omega, fun p hp => q _ (.list ds) _ (s1.trans (same_new hp)) (t1.same (same_new hp)) (Gen.lst (g.kp (Kp.new hp)) upd_same (t1.out hp) (by rw [l]; exact hn))⟩
theorem mk_nil : MkL S H0 tNil σ 0 dp 0 := fun H Q sm tr q => q [] [] H (fun _ _ e => e) tr (GenL.nil.mono (Nat.le_refl 0) (Nat.zero_le _)) rfl
theorem mk_cons (h : Mk S H0 t σ k dp) (hs : MkL S H0 ts σ k2 dp n) : MkL S H0 (tCons t ts) σ (k + k2) dp (n + 1) := fun H Q sm tr q => h H _ sm tr fun v d H1 s1 t1 g1 =>
  hs H1 _ (sm.trans s1) t1 fun vs ds H2 s2 t2 g2 l => q (v :: vs) (d :: ds) H2 (s1.trans s2) t2 (GenL.cons (g1.kp (Kp.of s2)) g2) (by rw [List.length_cons, l])
theorem mka_nil : MkA S H0 tNil σ K dp 0 := fun H Q sm tr q => q [] H (fun _ _ e => e) tr (fun v m => nomatch m) rfl
theorem mka_cons (h : Mk S H0 t σ k dp) (hk : k ≤ K) (hs : MkA S H0 ts σ K dp n) : MkA S H0 (tCons t ts) σ K dp (n + 1) := fun H Q sm tr q => h H _ sm tr fun v d H1 s1 t1 g1 =>
  hs H1 _ (sm.trans s1) t1 fun vs H2 s2 t2 g2 l => q (v :: vs) H2 (s1.trans s2) t2 (fun u m => by
    rcases List.mem_cons.mp m with rfl | m
    · exact ⟨d, (g1.kp (Kp.of s2)).mono hk (Nat.le_refl _)⟩
    · exact g2 u m) (by rw [List.length_cons, l])
theorem mka_lst {H : Hp} {Q : VK} (h : MkA S H ts σ K dp n) (tr : Trk S H) (hn : n ≤ 100000) (q : ∀ (p : Addr) (H' : Hp) (vs : List V), Same H H' → Trk S H' → H' p = some (.lst vs) → p ∉ S → vs.length = n → Every S H' vs K dp → Q (.ref p) H') : tLst ts σ H Q :=
  h H _ (fun _ _ e => e) tr fun vs H1 s1 t1 g l => ⟨by rw [l, sizeLine_eq]; omega, fun p hp => q p _ vs (s1.trans (same_new hp)) (t1.same (same_new hp)) upd_same (t1.out hp) l (g.same (same_new hp))⟩
/-- a list's display, set to a name -/
theorem set_lst {H : Hp} {g : TG} {u : TS} {D : Ends} (h : MkA S H ts σ K dp n) (tr : Trk S H) (hn : n ≤ 100000) (q : ∀ (p : Addr) (H' : Hp) (vs : List V), Same H H' → Trk S H' → H' p = some (.lst vs) → p ∉ S → vs.length = n → Every S H' vs K dp → g (.ref p) σ H' (u D)) : tSeq (tAsg (tLst ts) g) u D σ H :=
  mka_lst (Q := fun x H1 => g x σ H1 (u D)) h tr hn q
theorem mk_up {dp' : Nat} (h : Mk S H0 t σ k dp) (e : dp ≤ dp') : Mk S H0 t σ k dp' := fun H Q sm tr q => h H Q sm tr fun v d H' s1 t1 g => q v d H' s1 t1 (g.mono (Nat.le_refl _) e)
theorem mk_iflt {i : Nat} {x y : Int} {a b : TE} (e : σ[i]? = some (some (.int x))) (ha : Mk S H0 a σ k dp) (hb : Mk S H0 b σ k dp) : Mk S H0 (tIf (tTest (tOp (rI0 fun i j => V.bl (decide (i < j))) (tVar i) (tC (.int y)))) a b) σ k dp := fun H Q sm tr q =>
  ⟨_, e, _, _, rfl, rfl, _, rfl, ite2 (fun _ => ha H Q sm tr q) (fun _ => hb H Q sm tr q)⟩
/-- a display, set to a name -/
theorem set_mk {H : Hp} {g : TG} {D : Ends} (h : Mk S H t σ k dp) (tr : Trk S H) (q : ∀ (v : V) (d : PyData) (H' : Hp), Same H H' → Trk S H' → Gen S H' v d k dp → g v σ H' D.nx) : tAsg t g D σ H := h H (fun x H1 => g x σ H1 D.nx) (fun _ _ e => e) tr q
/-- and one more behind it -/
theorem set_cat {H : Hp} {g : TG} {u : TS} {D : Ends} {i m : Nat} {p0 : Addr} {v0 : List V} (e : σ[i]? = some (some (.ref p0))) (e0 : H p0 = some (.lst v0)) (l0 : v0.length = m) (g0 : Every S H v0 K dp) (h : MkA S H ts σ K dp n) (tr : Trk S H) (hn : m + n ≤ 100000)
    (q : ∀ (p : Addr) (H' : Hp) (vs : List V), Same H H' → Trk S H' → H' p = some (.lst vs) → p ∉ S → vs.length = m + n → Every S H' vs K dp → g (.ref p) σ H' (u D)) : tSeq (tAsg (tOp rCat (tVar i) (tLst ts)) g) u D σ H :=
  ⟨_, e, mka_lst h tr (by omega) fun p H1 vs s1 t1 hp np hl g1 => ⟨p0, p, v0, vs, rfl, rfl, s1 _ _ e0, hp, by rw [l0, hl, sizeLine_eq]; omega, fun p2 hp2 => q p2 _ _ (s1.trans (same_new hp2)) (t1.same (same_new hp2)) upd_same (t1.out hp2) (by rw [List.length_append, l0, hl])
    (Every.same (H := H1) (fun v hv => by
      rcases List.mem_append.mp hv with hv | hv
      · exact (g0.same s1) v hv
      · exact g1 v hv) (same_new hp2))⟩⟩
end
/-! ### a well, and what is not of it -/
structure Wl (w l : Addr) (C : Nat) (S : List Addr) (H : Hp) : Prop where
  well : Well H w l C
  trk : Trk S H
  hw : w ∈ S
  hl : l ∈ S
theorem Wl.sub2 {w l : Addr} {C : Nat} {S : List Addr} {H : Hp} (h : Wl w l C S H) : ∀ a ∈ [w, l], a ∈ S := fun a m => by
  rcases List.mem_cons.mp m with rfl | m
  · exact h.hw
  · rw [List.mem_singleton] at m
    subst m
    exact h.hl
theorem Wl.draw {w l : Addr} {C C' : Nat} {S : List Addr} {H H' : Hp} (h : Wl w l C S H) (k : Kp [w, l] H H') (hW : Well H' w l C') : Wl w l C' S H' := by
  refine ⟨hW, trk_kp h.trk k fun a m => ?_, h.hw, h.hl⟩
  obtain ⟨_, b, c, ns, h1, h2, _⟩ := hW
  rcases List.mem_cons.mp m with rfl | m
  · rw [h1]; exact fun z => nomatch z
  · rw [List.mem_singleton] at m
    subst m
    rw [h2]; exact fun z => nomatch z
theorem Wl.same {w l : Addr} {C : Nat} {S : List Addr} {H H' : Hp} (h : Wl w l C S H) (k : Same H H') : Wl w l C S H' := ⟨h.well.same k, h.trk.same k, h.hw, h.hl⟩
theorem Wl.out {w l p : Addr} {C : Nat} {S : List Addr} {H : Hp} (h : Wl w l C S H) (n : p ∉ S) : p ∉ [w, l] := fun m => n (h.sub2 p m)
theorem Wl.put {w l p : Addr} {C : Nat} {S : List Addr} {H : Hp} {o : HO} (h : Wl w l C S H) (n : p ∉ [w, l]) : Wl w l C S (upd H p o) := ⟨h.well.new n, fun a m q => by
  by_cases e : a = p
  · rw [e, upd_same] at q
    cases q
  · rw [upd_ne e] at q
    exact h.trk a m q, h.hw, h.hl⟩
/-- a draw out of a display -/
theorem Every.get {S : List Addr} {H : Hp} {vs : List V} {k dp i : Nat} (h : Every S H vs k dp) (hi : i < vs.length) : ∃ d, Gen S H vs[i] d k dp := h _ (List.getElem_mem hi)
section
variable {P : Program} {w : World} {K : PySem.W.Frag} {mg : PySem.Str → Option Value} {base : Heap}
def sp_odd : Sp := fun vs H Q _ => ∃ (w l : Addr) (C : Nat) (S : List Addr), vs = [.ref w] ∧ Wl w l C S H ∧ C + 1 < LIM ∧
  ∀ (H' : Hp) (v : V) (d : PyData), Kp [w, l] H H' → Wl w l (C + 1) S H' → Gen S H' v d 100 4 → Q v H'
set_option maxHeartbeats 400000 in
theorem ok_odd (T : Txt K mg) : FnOk P w K mg base CX0 3 T.a_odd T.d_odd P_odd sp_odd := by
  refine T.F_odd.ok sc_odd (fun vs H Q E h => by obtain ⟨w, l, C, S, rfl, _⟩ := h; rfl) (fun cdv A outer s H vs Q E hr h => ?_)
  refine ⟨_, (pss_cons (ps_set (i := 1) sc_odd.nd rfl (Or.inl rfl) (pe_lst (pa_cons pe_non (pa_cons pe_bl (pa_cons pe_int (pa_cons (pe_un un_neg pe_int) (pa_cons (pe_op op_pow pe_int pe_int) (pa_cons pe_str (pa_cons pe_str (pa_cons pe_str (pa_cons pe_str (pa_cons pe_str (pa_cons (pe_tup pa_nil) (pa_cons (pe_tup (pa_cons pe_int pa_nil)) (pa_cons (pe_tup (pa_cons pe_int (pa_cons pe_int pa_nil))) (pa_cons (pe_tup (pa_cons pe_int (pa_cons pe_int pa_nil))) (pa_cons (pe_tup (pa_cons pe_int pa_nil)) (pa_cons (pe_tup (pa_cons pe_bl pa_nil)) (pa_cons (pe_lst pa_nil) pa_nil)))))))))))))))))))
    (pss_cons (ps_set (i := 1) sc_odd.nd rfl (Or.inl rfl) (pe_op op_cat (pv 1) (pe_lst (pa_cons pe_dnewK (pa_cons (pe_tup (pa_cons pe_str pa_nil)) (pa_cons (pe_tup (pa_cons pe_str (pa_cons pe_int pa_nil))) (pa_cons (pe_tup (pa_cons pe_str (pa_cons pe_str pa_nil))) (pa_cons (pe_tup (pa_cons pe_str pa_nil)) (pa_cons (pe_tup (pa_cons pe_str (pa_cons pe_str pa_nil))) (pa_cons (pe_tup (pa_cons pe_str (pa_cons pe_str pa_nil))) (pa_cons (pe_tup (pa_cons pe_str (pa_cons pe_str (pa_cons (pe_tup pa_nil) pa_nil)))) pa_nil)))))))))))
    (pss_cons (ps_set (i := 1) sc_odd.nd rfl (Or.inl rfl) (pe_op op_cat (pv 1) (pe_lst (pa_cons (pe_tup (pa_cons pe_str pa_nil)) (pa_cons (pe_tup (pa_cons pe_str pa_nil)) (pa_cons (pe_tup (pa_cons pe_str (pa_cons pe_int (pa_cons (pe_tup (pa_cons pe_str pa_nil)) (pa_cons (pe_tup (pa_cons pe_str pa_nil)) pa_nil))))) pa_nil))))))
    (pss_cons (ps_set (i := 1) sc_odd.nd rfl (Or.inl rfl) (pe_op op_cat (pv 1) (pe_lst (pa_cons (pe_tup (pa_cons pe_str (pa_cons pe_str (pa_cons (pe_tup pa_nil) (pa_cons (pe_tup pa_nil) pa_nil))))) (pa_cons (pe_tup (pa_cons pe_str (pa_cons pe_str (pa_cons (pe_tup pa_nil) (pa_cons (pe_tup pa_nil) pa_nil))))) (pa_cons (pe_tup (pa_cons pe_str (pa_cons pe_str (pa_cons (pe_tup pa_nil) pa_nil)))) (pa_cons (pe_tup (pa_cons pe_str (pa_cons pe_str (pa_cons (pe_lst pa_nil) (pa_cons (pe_tup pa_nil) pa_nil))))) (pa_cons (pe_lst (pa_cons pe_str pa_nil)) pa_nil))))))))
    (pss_cons (ps_set (i := 1) sc_odd.nd rfl (Or.inl rfl) (pe_op op_cat (pv 1) (pe_lst (pa_cons (pe_tup (pa_cons pe_str (pa_cons pe_str (pa_cons (pe_tup (pa_cons pe_str pa_nil)) pa_nil)))) (pa_cons (pe_tup (pa_cons pe_str (pa_cons pe_str pa_nil))) (pa_cons (pe_tup (pa_cons pe_str (pa_cons (pe_tup (pa_cons pe_int pa_nil)) (pa_cons (pe_tup (pa_cons pe_str pa_nil)) (pa_cons (pe_tup (pa_cons pe_str pa_nil)) pa_nil))))) (pa_cons (pe_tup (pa_cons pe_str (pa_cons (pe_tup (pa_cons pe_int pa_nil)) (pa_cons (pe_tup (pa_cons pe_str pa_nil)) pa_nil)))) pa_nil)))))))
    (pss_cons (ps_set (i := 1) sc_odd.nd rfl (Or.inl rfl) (pe_op op_cat (pv 1) (pe_lst (pa_cons (pe_tup (pa_cons pe_str (pa_cons (pe_tup (pa_cons pe_str pa_nil)) (pa_cons (pe_tup (pa_cons pe_str pa_nil)) (pa_cons (pe_tup (pa_cons pe_str pa_nil)) (pa_cons (pe_tup (pa_cons pe_str pa_nil)) (pa_cons (pe_tup (pa_cons pe_str pa_nil)) pa_nil))))))) (pa_cons (pe_tup (pa_cons pe_str (pa_cons pe_str (pa_cons (pe_tup (pa_cons (pe_tup (pa_cons pe_str pa_nil)) pa_nil)) (pa_cons (pe_tup pa_nil) pa_nil))))) pa_nil)))))
    (pss_cons (ps_set (i := 1) sc_odd.nd rfl (Or.inl rfl) (pe_op op_cat (pv 1) (pe_lst (pa_cons (pe_tup (pa_cons pe_str (pa_cons pe_str (pa_cons (pe_tup pa_nil) (pa_cons (pe_tup (pa_cons (pe_tup (pa_cons pe_str (pa_cons pe_str pa_nil))) pa_nil)) pa_nil))))) (pa_cons (pe_tup (pa_cons pe_str (pa_cons pe_str (pa_cons (pe_tup (pa_cons (pe_tup (pa_cons pe_str (pa_cons pe_str pa_nil))) pa_nil)) (pa_cons (pe_tup pa_nil) pa_nil))))) pa_nil)))))
    (pss_one (ps_ret (pe_call (ok_one_of T) (hr.mono (by decide)) (by rfl) T.g_one_of T.F_one_of.kp T.b_one_of .nil pass0 (pa_cons (pv 0) (pa_cons (pv 1) pa_nil)))))))))))), ?_⟩
  obtain ⟨w, l, C, S, rfl, hW, hC, q⟩ := h
  have m : ∀ H σ, MkA S H _ σ 100 4 _ := fun H σ => (mka_cons mk_non (by decide +kernel) (mka_cons (mk_bl (b := true)) (by decide +kernel) (mka_cons (mk_int (i := 0) (by decide +kernel)) (by decide +kernel) (mka_cons (mk_neg (i := 1) (by decide +kernel)) (by decide +kernel) (mka_cons mk_pow (by decide +kernel) (mka_cons (mk_str (x := "") (by decide +kernel)) (by decide +kernel) (mka_cons (mk_str (x := "end") (by decide +kernel)) (by decide +kernel) (mka_cons (mk_str (x := "a") (by decide +kernel)) (by decide +kernel) (mka_cons (mk_str (x := "A") (by decide +kernel)) (by decide +kernel) (mka_cons (mk_str (x := "aaaaaaaaa") (by decide +kernel)) (by decide +kernel) (mka_cons (mk_tup mk_nil (by decide)) (by decide +kernel) (mka_cons (mk_tup (mk_cons (mk_int (i := 0) (by decide +kernel)) mk_nil) (by decide)) (by decide +kernel) (mka_cons (mk_tup (mk_cons (mk_int (i := 1) (by decide +kernel)) (mk_cons (mk_int (i := 0) (by decide +kernel)) mk_nil)) (by decide)) (by decide +kernel) (mka_cons (mk_tup (mk_cons (mk_int (i := 0) (by decide +kernel)) (mk_cons (mk_int (i := 0) (by decide +kernel)) mk_nil)) (by decide)) (by decide +kernel) (mka_cons (mk_tup (mk_cons (mk_int (i := 3) (by decide +kernel)) mk_nil) (by decide)) (by decide +kernel) (mka_cons (mk_tup (mk_cons (mk_bl (b := true)) mk_nil) (by decide)) (by decide +kernel) (mka_cons (mk_lst mk_nil (by decide)) (by decide +kernel) mka_nil)))))))))))))))))
  refine set_lst (m _ _) hW.trk (by decide) (fun p1 H1 v1 s1 t1 hp1 np1 l1 g1 => ?_)
  clear m
  have m : ∀ H σ, MkA S H _ σ 100 4 _ := fun H σ => (mka_cons mk_dic (by decide +kernel) (mka_cons (mk_tup (mk_cons (mk_str (x := "end") (by decide +kernel)) mk_nil) (by decide)) (by decide +kernel) (mka_cons (mk_tup (mk_cons (mk_str (x := "wait") (by decide +kernel)) (mk_cons (mk_int (i := 0) (by decide +kernel)) mk_nil)) (by decide)) (by decide +kernel) (mka_cons (mk_tup (mk_cons (mk_str (x := "go") (by decide +kernel)) (mk_cons (mk_str (x := "x") (by decide +kernel)) mk_nil)) (by decide)) (by decide +kernel) (mka_cons (mk_tup (mk_cons (mk_str (x := "go") (by decide +kernel)) mk_nil) (by decide)) (by decide +kernel) (mka_cons (mk_tup (mk_cons (mk_str (x := "go") (by decide +kernel)) (mk_cons (mk_str (x := "X") (by decide +kernel)) mk_nil)) (by decide)) (by decide +kernel) (mka_cons (mk_tup (mk_cons (mk_str (x := "given") (by decide +kernel)) (mk_cons (mk_str (x := "f") (by decide +kernel)) mk_nil)) (by decide)) (by decide +kernel) (mka_cons (mk_tup (mk_cons (mk_str (x := "given") (by decide +kernel)) (mk_cons (mk_str (x := "f") (by decide +kernel)) (mk_cons (mk_tup mk_nil (by decide)) mk_nil))) (by decide)) (by decide +kernel) mka_nil))))))))
  refine set_cat rfl hp1 l1 g1 (m _ _) t1 (by decide) (fun p2 H2 v2 s2 t2 hp2 np2 l2 g2 => ?_)
  clear m
  have m : ∀ H σ, MkA S H _ σ 100 4 _ := fun H σ => (mka_cons (mk_tup (mk_cons (mk_str (x := "pick") (by decide +kernel)) mk_nil) (by decide)) (by decide +kernel) (mka_cons (mk_tup (mk_cons (mk_str (x := "stop") (by decide +kernel)) mk_nil) (by decide)) (by decide +kernel) (mka_cons (mk_tup (mk_cons (mk_str (x := "test") (by decide +kernel)) (mk_cons (mk_int (i := 0) (by decide +kernel)) (mk_cons (mk_tup (mk_cons (mk_str (x := "end") (by decide +kernel)) mk_nil) (by decide)) (mk_cons (mk_tup (mk_cons (mk_str (x := "end") (by decide +kernel)) mk_nil) (by decide)) mk_nil)))) (by decide)) (by decide +kernel) mka_nil)))
  refine set_cat rfl hp2 l2 g2 (m _ _) t2 (by decide) (fun p3 H3 v3 s3 t3 hp3 np3 l3 g3 => ?_)
  clear m
  have m : ∀ H σ, MkA S H _ σ 100 4 _ := fun H σ => (mka_cons (mk_tup (mk_cons (mk_str (x := "part") (by decide +kernel)) (mk_cons (mk_str (x := "f") (by decide +kernel)) (mk_cons (mk_tup mk_nil (by decide)) (mk_cons (mk_tup mk_nil (by decide)) mk_nil)))) (by decide)) (by decide +kernel) (mka_cons (mk_tup (mk_cons (mk_str (x := "call") (by decide +kernel)) (mk_cons (mk_str (x := "f") (by decide +kernel)) (mk_cons (mk_tup mk_nil (by decide)) (mk_cons (mk_tup mk_nil (by decide)) mk_nil)))) (by decide)) (by decide +kernel) (mka_cons (mk_tup (mk_cons (mk_str (x := "call") (by decide +kernel)) (mk_cons (mk_str (x := "f") (by decide +kernel)) (mk_cons (mk_tup mk_nil (by decide)) mk_nil))) (by decide)) (by decide +kernel) (mka_cons (mk_tup (mk_cons (mk_str (x := "call") (by decide +kernel)) (mk_cons (mk_str (x := "f") (by decide +kernel)) (mk_cons (mk_lst mk_nil (by decide)) (mk_cons (mk_tup mk_nil (by decide)) mk_nil)))) (by decide)) (by decide +kernel) (mka_cons (mk_lst (mk_cons (mk_str (x := "end") (by decide +kernel)) mk_nil) (by decide)) (by decide +kernel) mka_nil)))))
  refine set_cat rfl hp3 l3 g3 (m _ _) t3 (by decide) (fun p4 H4 v4 s4 t4 hp4 np4 l4 g4 => ?_)
  clear m
  have m : ∀ H σ, MkA S H _ σ 100 4 _ := fun H σ => (mka_cons (mk_tup (mk_cons (mk_str (x := "do") (by decide +kernel)) (mk_cons (mk_str (x := "a") (by decide +kernel)) (mk_cons (mk_tup (mk_cons (mk_str (x := "end") (by decide +kernel)) mk_nil) (by decide)) mk_nil))) (by decide)) (by decide +kernel) (mka_cons (mk_tup (mk_cons (mk_str (x := "do") (by decide +kernel)) (mk_cons (mk_str (x := "a") (by decide +kernel)) mk_nil)) (by decide)) (by decide +kernel) (mka_cons (mk_tup (mk_cons (mk_str (x := "test") (by decide +kernel)) (mk_cons (mk_tup (mk_cons (mk_int (i := 0) (by decide +kernel)) mk_nil) (by decide)) (mk_cons (mk_tup (mk_cons (mk_str (x := "end") (by decide +kernel)) mk_nil) (by decide)) (mk_cons (mk_tup (mk_cons (mk_str (x := "end") (by decide +kernel)) mk_nil) (by decide)) mk_nil)))) (by decide)) (by decide +kernel) (mka_cons (mk_tup (mk_cons (mk_str (x := "test") (by decide +kernel)) (mk_cons (mk_tup (mk_cons (mk_int (i := 0) (by decide +kernel)) mk_nil) (by decide)) (mk_cons (mk_tup (mk_cons (mk_str (x := "end") (by decide +kernel)) mk_nil) (by decide)) mk_nil))) (by decide)) (by decide +kernel) mka_nil))))
  refine set_cat rfl hp4 l4 g4 (m _ _) t4 (by decide) (fun p5 H5 v5 s5 t5 hp5 np5 l5 g5 => ?_)
  clear m
  have m : ∀ H σ, MkA S H _ σ 100 4 _ := fun H σ => (mka_cons (mk_tup (mk_cons (mk_str (x := "pick") (by decide +kernel)) (mk_cons (mk_tup (mk_cons (mk_str (x := "end") (by decide +kernel)) mk_nil) (by decide)) (mk_cons (mk_tup (mk_cons (mk_str (x := "end") (by decide +kernel)) mk_nil) (by decide)) (mk_cons (mk_tup (mk_cons (mk_str (x := "end") (by decide +kernel)) mk_nil) (by decide)) (mk_cons (mk_tup (mk_cons (mk_str (x := "end") (by decide +kernel)) mk_nil) (by decide)) (mk_cons (mk_tup (mk_cons (mk_str (x := "end") (by decide +kernel)) mk_nil) (by decide)) mk_nil)))))) (by decide)) (by decide +kernel) (mka_cons (mk_tup (mk_cons (mk_str (x := "part") (by decide +kernel)) (mk_cons (mk_str (x := "f") (by decide +kernel)) (mk_cons (mk_tup (mk_cons (mk_tup (mk_cons (mk_str (x := "end") (by decide +kernel)) mk_nil) (by decide)) mk_nil) (by decide)) (mk_cons (mk_tup mk_nil (by decide)) mk_nil)))) (by decide)) (by decide +kernel) mka_nil))
  refine set_cat rfl hp5 l5 g5 (m _ _) t5 (by decide) (fun p6 H6 v6 s6 t6 hp6 np6 l6 g6 => ?_)
  clear m
  have m : ∀ H σ, MkA S H _ σ 100 4 _ := fun H σ => (mka_cons (mk_tup (mk_cons (mk_str (x := "call") (by decide +kernel)) (mk_cons (mk_str (x := "f") (by decide +kernel)) (mk_cons (mk_tup mk_nil (by decide)) (mk_cons (mk_tup (mk_cons (mk_tup (mk_cons (mk_str (x := "given") (by decide +kernel)) (mk_cons (mk_str (x := "f") (by decide +kernel)) mk_nil)) (by decide)) mk_nil) (by decide)) mk_nil)))) (by decide)) (by decide +kernel) (mka_cons (mk_tup (mk_cons (mk_str (x := "call") (by decide +kernel)) (mk_cons (mk_str (x := "f") (by decide +kernel)) (mk_cons (mk_tup (mk_cons (mk_tup (mk_cons (mk_str (x := "go") (by decide +kernel)) (mk_cons (mk_str (x := "x") (by decide +kernel)) mk_nil)) (by decide)) mk_nil) (by decide)) (mk_cons (mk_tup mk_nil (by decide)) mk_nil)))) (by decide)) (by decide +kernel) mka_nil))
  refine set_cat rfl hp6 l6 g6 (m _ _) t6 (by decide) (fun p7 H7 v7 s7 t7 hp7 np7 l7 g7 => ?_)
  clear m
  have sm := ((((s1.trans s2).trans s3).trans s4).trans (s5.trans s6)).trans s7
  have hW7 := hW.same sm
  refine ⟨_, rfl, _, rfl, w, l, p7, v7, C, rfl, hW7.well, by omega, hW.out np7, SqL.of hp7, by omega, by omega, fun H8 i hi k8 hW8 => ?_⟩
  obtain ⟨d, g8⟩ := g7.get hi
  exact q H8 _ d ((Kp.of sm).trans k8) (hW7.draw k8 hW8) (g8.kp (k8.sub hW.sub2))
def sp_chain : Sp := fun vs H Q _ => ∃ (w l : Addr) (C : Nat) (S : List Addr) (v : V) (d : PyData), vs = [.ref w, v] ∧ Wl w l C S H ∧ C + 1 < LIM ∧ Gen S H v d 100 4 ∧
  ∀ (H' : Hp) (v' : V) (d' : PyData), Kp [w, l] H H' → Wl w l (C + 1) S H' → Gen S H' v' d' 400 30 → Q v' H'
theorem ok_chain (T : Txt K mg) : FnOk P w K mg base CX0 2 T.a_chain T.d_chain P_chain sp_chain := by
  refine T.F_chain.ok sc_chain (fun vs H Q E h => by obtain ⟨w, l, C, S, v, d, rfl, _⟩ := h; rfl) (fun cdv A outer s H vs Q E hr h => ?_)
  refine ⟨_, (pss_cons (ps_set (i := 2) sc_chain.nd rfl (Or.inl rfl) (pe_call (ok_drawn T) (hr.mono (by decide)) (by rfl) T.g_drawn T.F_drawn.kp T.b_drawn .nil pass0 (pa_cons (pv 0) (pa_cons pe_int pa_nil))))
    (pss_cons (ps_for PassesOwn.never rfl (pi_range1 (by rfl) T.n_range (pa_cons pe_int pa_nil)) (pg_name (i := 3) sc_chain.nd rfl (Or.inl rfl)) (pss_one (ps_if (pt_cmpR op_eq (pv 2) pe_int (nomark _)) (pss_one (ps_set (i := 1) sc_chain.nd rfl (Or.inl rfl) (pe_tup (pa_cons pe_str (pa_cons pe_str (pa_cons (pv 1) pa_nil)))))) (pss_one (ps_if (pt_cmpR op_eq (pv 2) pe_int (nomark _)) (pss_one (ps_set (i := 1) sc_chain.nd rfl (Or.inl rfl) (pe_ifExp (pt_cmpR op_lt (pv 3) pe_int (nomark _)) (pe_tup (pa_cons pe_str (pa_cons pe_str (pa_cons (pe_tup (pa_cons (pv 1) pa_nil)) (pa_cons (pe_tup pa_nil) pa_nil))))) (pe_tup (pa_cons pe_str (pa_cons pe_str (pa_cons (pe_tup (pa_cons (pv 1) pa_nil)) (pa_cons (pe_tup pa_nil) pa_nil)))))))) (pss_one (ps_set (i := 1) sc_chain.nd rfl (Or.inl rfl) (pe_tup (pa_cons pe_str (pa_cons (pe_tup (pa_cons pe_str pa_nil)) (pa_cons (pv 1) pa_nil)))))))))))
    (pss_one (ps_ret (pv 1))))), ?_⟩
  obtain ⟨w, l, C, S, v, d, rfl, hW, hC, g, q⟩ := h
  refine ⟨_, rfl, w, l, 3, C, rfl, hW.well, by omega, by decide, by decide, fun H1 way k1 hW1 w0 w1 => ?_⟩
  have hW1 := hW.draw k1 hW1
  have g1 := g.kp (k1.sub hW.sub2)
  refine ⟨_, rfl, by decide, by decide, ?_⟩
  refine for_range (lo := 0) (n := 11) (fun i σ H' => ∃ (y3 : Option V) (v : V) (d : PyData), σ = [some (.ref w), some v, some (.int way), y3] ∧ Same H1 H' ∧ Gen S H' v d (100 + 16 * i) (4 + 2 * i)) ⟨_, v, d, rfl, fun _ _ e => e, g1⟩ ?_ ?_
  · rintro i σ H2 hi ⟨y3, v, d, rfl, s2, g2⟩
    have t2 := hW1.trk.same s2
    refine ⟨_, rfl, rfl, _, rfl, ite2 (fun e => ?_) (fun e => ?_)⟩
    · refine set_mk (mk_tup (mk_cons (mk_str (x := "do") (by decide +kernel)) (mk_cons (mk_str (x := "act") (by decide +kernel)) (mk_cons (mk_var rfl g2) mk_nil))) (by decide)) t2 (fun v' d' H3 s3 t3 g3 => ?_)
      exact ⟨_, v', d', rfl, s2.trans s3, g3.mono (by show 3 + (4 + _) + 1 ≤ _; omega) (by omega)⟩
    · refine ⟨_, rfl, rfl, _, rfl, ite2 (fun e2 => ?_) (fun e2 => ?_)⟩
      · have dis : ∀ x : PySem.Str, okv (.str x) = true → x.length = 4 → Mk S H2 (tTup (tCons (tC (V.str x)) (tCons (tC (V.str "f")) (tCons (tTup (tCons (tVar 1) tNil)) (tCons (tTup tNil) tNil))))) [some (V.ref w), some v, some (V.int way), some (V.int (0 + (i : Int)))] (5 + (2 + ((100 + 16 * i) + 0 + 1 + (0 + 1 + 0))) + 1) (4 + 2 * i + 1 + 1) := by
          intro x hx h4
          have m : Mk S H2 _ [some (V.ref w), some v, some (V.int way), some (V.int (0 + (i : Int)))] _ _ := mk_tup (mk_cons (mk_str (x := x) hx) (mk_cons (mk_str (x := "f") (by decide +kernel)) (mk_cons (mk_tup (mk_cons (mk_var (i := 1) rfl g2) mk_nil) (by decide)) (mk_cons (mk_tup mk_nil (by decide)) mk_nil)))) (by decide)
          rw [h4] at m
          exact m
        refine set_mk (mk_iflt rfl (dis "part" (by decide +kernel) (by decide)) (dis "call" (by decide +kernel) (by decide))) t2 (fun v' d' H3 s3 t3 g3 => ?_)
        exact ⟨_, v', d', rfl, s2.trans s3, g3.mono (by omega) (by omega)⟩
      · refine set_mk (mk_tup (mk_cons (mk_str (x := "pick") (by decide +kernel)) (mk_cons (mk_up (mk_tup (dp := 0) (mk_cons (mk_str (x := "end") (by decide +kernel)) mk_nil) (by decide)) (by omega)) (mk_cons (mk_var rfl g2) mk_nil))) (by decide)) t2 (fun v' d' H3 s3 t3 g3 => ?_)
        exact ⟨_, v', d', rfl, s2.trans s3, g3.mono (by show 5 + (5 + _) + 1 ≤ _; omega) (by omega)⟩
  · rintro σ H2 ⟨y3, v, d, rfl, s2, g2⟩
    exact ⟨_, rfl, q H2 v d (k1.trans (Kp.of s2)) (hW1.same s2) (g2.mono (by decide) (by decide))⟩
end
end K05
set_option Elab.async false
set_option Elab.async false
set_option linter.all false
set_option maxRecDepth 100000
set_option maxHeartbeats 4000000
/-! k05: a drawn term. -/
namespace K05
open PySem PySem.Spec PyProof.Rows L2 Zg Zr Zd Zv
section
variable {P : Program} {w : World} {K : PySem.W.Frag} {mg : PySem.Str → Option Value} {base : Heap}
def sp_any (b : Bool) : Sp := fun vs H Q E => ∃ n, n ≤ 11 ∧ sp_gen b n vs H Q E
theorem ok_function (T : Txt K mg) : FnOk P w K mg base CX0 37 T.a_function T.d_function P_function (sp_any true) :=
  ⟨fun vs H Q E ⟨n, _, h⟩ => (ok_gen (P := P) (w := w) (base := base) T n).1.len vs H Q E h, fun A outer s H args us vs Q E hr he hb hv ⟨n, hn, h⟩ => ((ok_gen T n).1.mono (by omega)).run A outer s H args us vs Q E hr he hb hv h⟩
theorem ok_task (T : Txt K mg) : FnOk P w K mg base CX0 37 T.a_task T.d_task P_task (sp_any false) :=
  ⟨fun vs H Q E ⟨n, _, h⟩ => (ok_gen (P := P) (w := w) (base := base) T n).2.len vs H Q E h, fun A outer s H args us vs Q E hr he hb hv ⟨n, hn, h⟩ => ((ok_gen T n).2.mono (by omega)).run A outer s H args us vs Q E hr he hb hv h⟩
def sp_term : Sp := fun vs H Q _ => ∃ (w l : Addr) (C : Nat) (S : List Addr), vs = [.ref w] ∧ Wl w l C S H ∧ C + 20000 < LIM ∧
  ∀ (H' : Hp) (a : Addr) (ds : List PyData) (C' : Nat), Kp [w, l] H H' → Wl w l C' S H' → C' ≤ C + 3000 → Gen S H' (.ref a) (.tuple ds) 3000 23 → Q (.ref a) H'
theorem ok_term (T : Txt K mg) : FnOk P w K mg base CX0 38 T.a_term T.d_term P_term sp_term := by
  refine T.F_term.ok sc_term (fun vs H Q E h => by obtain ⟨w, l, C, S, rfl, _⟩ := h; rfl) (fun cdv A outer s H vs Q E hr h => ?_)
  refine ⟨_, (pss_cons (ps_par (i := 1) (j := 2) (by rfl) sc_term.nd rfl rfl (by decide) rfl rfl (pa_cons (pe_lst (pa_cons (pe_call (ok_one_of T) (hr.mono (by decide)) (by rfl) T.g_one_of T.F_one_of.kp T.b_one_of .nil pass0 (pa_cons (pv 0) (pa_cons (pe_lst (pa_cons pe_int (pa_cons pe_int (pa_cons pe_int pa_nil)))) pa_nil))) pa_nil)) (pa_cons (pe_call (ok_one_of T) (hr.mono (by decide)) (by rfl) T.g_one_of T.F_one_of.kp T.b_one_of .nil pass0 (pa_cons (pv 0) (pa_cons (pe_lst (pa_cons pe_int (pa_cons pe_int (pa_cons pe_int (pa_cons pe_int pa_nil))))) pa_nil))) pa_nil)) (by rfl))
    (pss_one (ps_ret (pe_ifExp (pt_cmpR op_eq (pe_call (ok_drawn T) (hr.mono (by decide)) (by rfl) T.g_drawn T.F_drawn.kp T.b_drawn .nil pass0 (pa_cons (pv 0) (pa_cons pe_int pa_nil))) pe_int (nomark _)) (pe_call (ok_function T) (hr.mono (by decide)) (by rfl) T.g_function T.F_function.kp T.b_function .nil pass0 (pa_cons (pv 0) (pa_cons (pv 1) (pa_cons (pv 2) pa_nil)))) (pe_call (ok_task T) (hr.mono (by decide)) (by rfl) T.g_task T.F_task.kp T.b_task .nil pass0 (pa_cons (pv 0) (pa_cons (pv 1) (pa_cons (pv 2) pa_nil)))))))), ?_⟩
  obtain ⟨w, l, C, S, rfl, hW, hC, q⟩ := h
  refine ⟨_, rfl, by show 3 ≤ sizeLine; decide, fun p1 hp1 => ?_⟩
  have np1 := hW.trk.out hp1
  have hW1 := hW.same (same_new (o := .lst [.int 3, .int 12, .int 59]) hp1)
  refine ⟨w, l, p1, [.int 3, .int 12, .int 59], C, rfl, hW1.well, by omega, hW.out np1, SqL.of upd_same, by decide, by decide, fun H2 i hi k2 hW2 => ?_⟩
  obtain ⟨r, er, r1, r2⟩ : ∃ r : Int, [V.int 3, V.int 12, V.int 59][i] = .int r ∧ 1 ≤ r ∧ r ≤ 59 := by
    have hi : i < 3 := hi
    rcases (show i = 0 ∨ i = 1 ∨ i = 2 by omega) with rfl | rfl | rfl
    · exact ⟨3, rfl, by decide, by decide⟩
    · exact ⟨12, rfl, by decide, by decide⟩
    · exact ⟨59, rfl, by decide, by decide⟩
  rw [er]
  have hW2 := hW1.draw k2 hW2
  refine ⟨by show 1 ≤ sizeLine; decide, fun rm hrm => ⟨_, rfl, by show 4 ≤ sizeLine; decide, fun p2 hp2 => ?_⟩⟩
  have nrm := hW2.trk.out hrm
  have hW3 := hW2.same (same_new (o := .lst [.int r]) hrm)
  have np2 := hW3.trk.out hp2
  have hW4 := hW3.same (same_new (o := .lst [.int 1, .int 3, .int 6, .int 11]) hp2)
  refine ⟨w, l, p2, [.int 1, .int 3, .int 6, .int 11], C + 1, rfl, hW4.well, by omega, hW.out np2, SqL.of upd_same, by decide, by decide, fun H5 j hj k5 hW5 => ?_⟩
  obtain ⟨n, en, n1⟩ : ∃ n : Nat, [V.int 1, V.int 3, V.int 6, V.int 11][j] = .int (n : Nat) ∧ n ≤ 11 := by
    have hj : j < 4 := hj
    rcases (show j = 0 ∨ j = 1 ∨ j = 2 ∨ j = 3 by omega) with rfl | rfl | rfl | rfl
    · exact ⟨1, rfl, by decide⟩
    · exact ⟨3, rfl, by decide⟩
    · exact ⟨6, rfl, by decide⟩
    · exact ⟨11, rfl, by decide⟩
  rw [en]
  have hW5 := hW4.draw k5 hW5
  have nr2 : rm ∉ [w, l] := hW.out nrm
  have ne2 : rm ≠ p2 := fun e => by rw [← e, upd_same] at hp2; cases hp2
  have hrm5 : H5 rm = some (.lst [.int r]) := k5 _ _ nr2 (by rw [upd_ne ne2]; exact upd_same)
  refine ⟨_, _, rfl, _, rfl, w, l, 3, C + 1 + 1, rfl, hW5.well, by omega, by decide, by decide, fun H6 z k6 hW6 z0 z1 => ?_⟩
  have hW6 := hW5.draw k6 hW6
  have hrm6 := k6 _ _ nr2 hrm5
  have kk : Kp [w, l] H H6 := (((Kp.of (same_new hp1)).trans k2).trans (Kp.of (same_new hrm))).trans (((Kp.of (same_new hp2)).trans k5).trans k6)
  have hR : Rm w l rm (C + 1 + 1 + 1) r (rm :: S) H6 := ⟨hW6.well, hrm6, nr2, fun a m => by
    rcases List.mem_cons.mp m with e | m
    · rw [e, hrm6]; exact fun z => nomatch z
    · exact hW6.trk a m, List.mem_cons_of_mem _ hW.hw, List.mem_cons_of_mem _ hW.hl, List.mem_cons_self⟩
  have fin : ∀ (H' : Hp) (a : Addr) (ds : List PyData) (C' N : Nat), Kp [w, l, rm] H6 H' → Rm w l rm C' (r - (N : Nat)) (rm :: S) H' → C' ≤ C + 1 + 1 + 1 + 20 * N → (1 ≤ r → -(3 * (n : Int)) ≤ r - (N : Nat)) → Gen (rm :: S) H' (.ref a) (.tuple ds) (30 * N) (2 * n + 1) → Q (.ref a) H' := by
    intro H' a ds C' N k' hR' c' l' g'
    have hn : H rm = none := ((Kp.of (same_new hp1)).trans k2).free nr2 hrm
    refine q H' a ds C' (fun b o nb e => ?_) ⟨hR'.well, fun b m => hR'.trk b (List.mem_cons_of_mem _ m), hW.hw, hW.hl⟩ (by omega) ((g'.sub fun b m => List.mem_cons_of_mem _ m).mono (by omega) (by omega))
    refine k' b o (fun m => ?_) (kk b o nb e)
    rcases List.mem_cons.mp m with z | m
    · exact nb (z ▸ List.mem_cons_self)
    · rcases List.mem_cons.mp m with z | m
      · exact nb (z ▸ List.mem_cons_of_mem _ List.mem_cons_self)
      · rw [List.mem_singleton] at m
        rw [m, hn] at e
        cases e
  refine ⟨rfl, _, rfl, ite2 (fun e => ?_) (fun e => ?_)⟩
  · exact ⟨_, rfl, _, rfl, _, rfl, n, n1, w, l, rm, _, r, rm :: S, rfl, hR, ⟨by omega, by omega, by omega⟩, n1, fun _ => r1, fun H' a ds C' N k' hR' c' _ _ l' g' => fin H' a ds C' N k' hR' c' l' g'⟩
  · exact ⟨_, rfl, _, rfl, _, rfl, n, n1, w, l, rm, _, r, rm :: S, rfl, hR, ⟨by omega, by omega, by omega⟩, n1, fun _ => r1, fun H' a ds C' N k' hR' c' _ _ l' g' => fin H' a ds C' N k' hR' c' l' g'⟩
end
end K05
set_option Elab.async false
set_option Elab.async false
set_option linter.all false
set_option maxRecDepth 100000
set_option maxHeartbeats 4000000
/-! k05: the law's own answers. -/
namespace K05
open PySem PySem.Spec PyProof.Rows L2 Zg Zr Zd Zv
section
variable {P : Program} {w : World} {K : PySem.W.Frag} {mg : PySem.Str → Option Value} {base : Heap}
theorem ok_w_is_name (T : Txt K mg) : FnOk P w K mg base CX0 1 T.a_w_is_name T.d_w_is_name P_w_is_name (sp_val isName) := by
  refine T.F_w_is_name.ok sc_w_is_name (fun vs H Q E h => by obtain ⟨S, v, d, rfl, _⟩ := h; rfl) (fun cdv A outer s H vs Q E hr h => ?_)
  refine ⟨_, (pss_cons (ps_if (PW.pt (pw_or (pt_not (pt_val (pe_callB call_isi (by rfl) T.n_isinstance (by decide +kernel) (pa_cons (pv 0) (pa_cons (pe_bltn (v := .ty "str") (u := .type "str") (by rfl) T.n_str (by decide +kernel) rfl) pa_nil))))) (pw_or (pt_cmpR op_eq (pe_callB call_len_str (by rfl) T.n_len (by decide +kernel) (pa_cons (pv 0) pa_nil)) pe_int (nomark _)) (pw_or1 (pt_cmpR op_gt (pe_callB call_len_str (by rfl) T.n_len (by decide +kernel) (pa_cons (pv 0) pa_nil)) pe_int (nomark _)))))) (pss_one (ps_ret pe_bl)) pss_nil)
    (pss_one (ps_ret (pe_cmpR (op_eqE (Nat.lt_of_le_of_lt (Nat.le_add_right _ 64) hr.units)) (pe_lc (own := [("sign", 1)]) rfl sc_w_is_name.nd (pi_str (pv 0)) (blkOk_by (own := [("sign", 1)]) (N := N_w_is_name) (sc := defScope s_w_is_name) (by decide +kernel)) (fun _ _ _ _ _ => (pg_name (i := 1) sc_w_is_name.nd rfl (Or.inl rfl))) (fun _ _ _ _ _ => (pts_one (pt_cmpR op_notIn_sign (pv 1) pe_str rfl))) (fun _ _ _ _ _ => (pv 1))) (pe_lst pa_nil) (nomark _))))), ?_⟩
  obtain ⟨S, v, d, rfl, hd, hv, q⟩ := h
  refine ⟨_, rfl, v, .ty "str", _, _, _, rfl, .ty _, hd.ty, kit_all K _ (by decide) _ (tyD_mem d), ?_⟩
  have qF : isName d = false → Q (.bl false) H := fun e => by
    have q' := q H (Same.refl H)
    rw [e] at q'
    exact q'
  by_cases hs : isB "str" (tyD d) = true
  · rw [hs]
    obtain ⟨x, rfl, rfl⟩ := hd.text hs
    have hx : x.length ≤ 1000 := by
      have h' : (PyData.strOk x && decide (x.length ≤ 1000)) = true := hv
      rw [Bool.and_eq_true] at h'
      exact of_decide_eq_true h'.2
    refine ⟨_, rfl, iteF ?_⟩
    refine ⟨_, rfl, x, rfl, by rw [sizeLine_eq]; omega, rfl, _, rfl, ite2 (fun e => ?_) (fun e => ?_)⟩
    · refine iteT (qF ?_)
      have e := of_decide_eq_true e
      have e : (x.length : Int) = 0 := V.int.inj e
      show (decide (1 ≤ x.length) && decide (x.length ≤ 8) && x.cps.toList.all fun c => decide (c ∈ ABC)) = false
      rw [decide_eq_false (by omega : ¬ 1 ≤ x.length)]
      rfl
    · have h1 : 1 ≤ x.length := Nat.pos_of_ne_zero fun z => e (decide_eq_true (by rw [z]; rfl))
      refine ⟨_, rfl, x, rfl, by rw [sizeLine_eq]; omega, _, _, rfl, rfl, _, rfl, ite2 (fun e2 => ?_) (fun e2 => ?_)⟩
      · refine qF ?_
        have e2 := of_decide_eq_true e2
        show (decide (1 ≤ x.length) && decide (x.length ≤ 8) && x.cps.toList.all fun c => decide (c ∈ ABC)) = false
        rw [decide_eq_false (by omega : ¬ x.length ≤ 8), Bool.and_false]
        rfl
      · have h8 : x.length ≤ 8 := by
          have := of_decide_eq_false (Bool.eq_false_iff.mpr e2)
          omega
        refine ⟨_, rfl, x, rfl, fun D hD => ?_⟩
        refine lc_it (walk_str (z := x)) (fun i H' => Same H H' ∧ H' D = some (.lst (((x.cps.toList.take i).filter fun c => !decide (c ∈ ABC)).map fun c => V.str ⟨#[c]⟩))) ⟨same_new hD, upd_same⟩ (fun _ _ _ _ => True.intro) ?_ ?_
        · rintro i y H1 H2 hi ⟨k, hDl⟩ ⟨rfl, c, hc, rfl⟩
          have hc' : x.cps.toList[i]? = some c := by simpa using hc
          refine ⟨rfl, _, rfl, c, _, rfl, rfl, _, rfl, ite2 (fun e3 => ?_) (fun e3 => ?_)⟩
          · refine ⟨_, rfl, _, hDl, ?_, ?_, ?_⟩
            · rw [List.length_map, sizeLine_eq]
              have q1 := List.length_filter_le (fun c => !decide (c ∈ ABC)) (x.cps.toList.take i)
              rw [List.length_take] at q1
              have : x.cps.toList.length = x.length := by simp [PySem.Str.length]
              omega
            · exact fun b o eb => by rw [upd_ne (ne_of_none eb hD)]; exact k _ _ eb
            · have e4 : (!decide (c ∈ ABC)) = true := e3
              rw [upd_same, List.take_succ, hc', List.filter_append, List.map_append]
              show some (HO.lst (_ ++ [V.str ⟨#[c]⟩])) = some (HO.lst (_ ++ List.map _ (List.filter _ [c])))
              rw [List.filter_cons_of_pos (p := fun c => !decide (c ∈ ABC)) e4]
              rfl
          · have e4 : ¬ (!decide (c ∈ ABC)) = true := e3
            refine ⟨k, ?_⟩
            rw [List.take_succ, hc', List.filter_append, List.map_append]
            show _ = some (HO.lst (_ ++ List.map _ (List.filter _ [c])))
            rw [List.filter_cons_of_neg (p := fun c => !decide (c ∈ ABC)) e4, List.filter_nil, List.map_nil, List.append_nil]
            exact hDl
        · rintro H1 ⟨k, hDl⟩
          refine ⟨by show 0 ≤ sizeLine; decide, fun p hp => ⟨D, p, _, rfl, rfl, .inl ⟨SqL.of (same_new hp _ _ hDl), SqL.of upd_same⟩, ?_⟩⟩
          have q' := q _ (k.trans (same_new (o := .lst []) hp))
          have e3 : isName (.str x) = List.isEmpty (((x.cps.toList.take x.cps.size).filter fun c => !decide (c ∈ ABC)).map fun c => V.str ⟨#[c]⟩) := by
            show (decide (1 ≤ x.length) && decide (x.length ≤ 8) && x.cps.toList.all fun c => decide (c ∈ ABC)) = _
            rw [decide_eq_true h1, decide_eq_true h8, show x.cps.size = x.cps.toList.length by simp, List.take_length]
            generalize x.cps.toList = zs
            induction zs with
            | nil => rfl
            | cons z zs ih =>
              by_cases hz : z ∈ ABC
              · rw [List.filter_cons_of_neg (p := fun c => !decide (c ∈ ABC)) (by rw [decide_eq_true hz]; decide), ← ih, List.all_cons, decide_eq_true hz]
                rfl
              · rw [List.filter_cons_of_pos (p := fun c => !decide (c ∈ ABC)) (by rw [decide_eq_false hz]; rfl), List.all_cons, decide_eq_false hz]
                rfl
          rw [e3] at q'
          exact q'
  · have e : isB "str" (tyD d) = false := by rw [Bool.not_eq_true] at hs; exact hs
    rw [e]
    refine ⟨_, rfl, iteT (iteT (qF ?_))⟩
    cases d with
    | str x => exact absurd rfl hs
    | _ => rfl
end
end K05
set_option Elab.async false
set_option Elab.async false
set_option linter.all false
set_option maxRecDepth 100000
set_option maxHeartbeats 4000000
/-! k05: the law's own reading of states. -/
namespace K05
open PySem PySem.Spec PyProof.Rows L2 Zg Zr Zd Zv
/-- the states' texts -/
def STS : List PyData := [.tuple [], .tuple [.int 0], .tuple [.int 1], .tuple [.int 2], .tuple [.int 0, .int 1], .tuple [.int 0, .int 2], .tuple [.int 1, .int 2], .tuple [.int 0, .int 1, .int 2]]
def wStates (d : PyData) : Bool := isA "tuple" d && decide (d.shown ∈ STS.map PyData.shown)
/-! ### displays of known data -/
def MkD (t : TE) (σ : L2.St) (d : PyData) : Prop := ∀ (H : Hp) (Q : VK), (∀ v H', Same H H' → Dv [] H' v d → Q v H') → t σ H Q
def MkDL (t : TA) (σ : L2.St) (ds : List PyData) : Prop := ∀ (H : Hp) (Q : List V → Hp → Prop), (∀ vs H', Same H H' → DvAll [] H' vs ds → Q vs H') → t σ H Q
section
variable {σ : L2.St} {t : TE} {ts : TA} {d : PyData} {ds : List PyData}
theorem mkd_int {i : Int} : MkD (tC (.int i)) σ (.int i) := fun H Q q => q _ H (fun _ _ e => e) (.int i)
theorem mkd_str {x : PySem.Str} : MkD (tC (.str x)) σ (.str x) := fun H Q q => q _ H (fun _ _ e => e) (.str x)
theorem mkd_tup (h : MkDL ts σ ds) (hn : ds.length ≤ 1000) : MkD (tTup ts) σ (.tuple ds) := fun H Q q => h H _ fun vs H1 s1 g =>
  ⟨by rw [g.length, sizeLine_eq]; omega, fun p hp => q _ _ (s1.trans (same_new hp)) (.tup upd_same (fun m => nomatch m) (g.kp (Kp.new hp)))⟩
theorem mkd_nil : MkDL tNil σ [] := fun H Q q => q [] H (fun _ _ e => e) .nil
theorem mkd_cons (h : MkD t σ d) (hs : MkDL ts σ ds) : MkDL (tCons t ts) σ (d :: ds) := fun H Q q => h H _ fun v H1 s1 g1 => hs H1 _ fun vs H2 s2 g2 => q _ H2 (s1.trans s2) (.cons (g1.kp (Kp.of s2)) g2)
theorem set_lstD {H : Hp} {g : TG} {u : TS} {D : Ends} (h : MkDL ts σ ds) (hn : ds.length ≤ 1000) (q : ∀ (p : Addr) (H' : Hp) (vs : List V), Same H H' → H' p = some (.lst vs) → DvAll [] H' vs ds → g (.ref p) σ H' (u D)) : tSeq (tAsg (tLst ts) g) u D σ H :=
  h H (fun xs H1 => xs.length ≤ sizeLine ∧ ∀ p, H1 p = none → g (.ref p) σ (upd H1 p (.lst xs)) (u D)) fun vs H1 s1 g1 => ⟨by rw [g1.length, sizeLine_eq]; omega, fun p hp => q p _ vs (s1.trans (same_new hp)) upd_same (g1.kp (Kp.new hp))⟩
end
/-! ### the plain law of states -/
theorem all_flat_str (l : List PySem.Str) : (l.map V.str).all flatV = true := by
  rw [List.all_eq_true]
  intro x hx
  obtain ⟨y, _, rfl⟩ := List.mem_map.mp hx
  rfl
theorem sts_ok : ∀ t ∈ STS, okv t = true ∧ t.depth ≤ 60 ∧ t.bulk ≤ 300000 := by decide +kernel
def FIGS : List (List Nat) := [[], [0], [1], [2], [0, 1], [0, 2], [1, 2], [0, 1, 2]]
theorem sts_figs : STS = FIGS.map fun ns => .tuple (Zx.fig ns) := by rfl
theorem figs_ok : ∀ ns ∈ FIGS, (∀ n ∈ ns, n < 10) ∧ areStates (.tuple (Zx.fig ns)) = true := by decide +kernel
theorem st_figs : ∀ l : List PyData, areStates (.tuple l) = true → ∃ ns ∈ FIGS, l = Zx.fig ns := by
  have one : ∀ d : PyData, isSt d = true → d = .int 0 ∨ d = .int 1 ∨ d = .int 2 := by
    intro d h
    cases d with
    | int i =>
      have h' : (decide (0 ≤ i) && decide (i < 3)) = true := h
      rw [Bool.and_eq_true, decide_eq_true_iff, decide_eq_true_iff] at h'
      rcases (show i = 0 ∨ i = 1 ∨ i = 2 by omega) with rfl | rfl | rfl
      · exact .inl rfl
      · exact .inr (.inl rfl)
      · exact .inr (.inr rfl)
    | _ => cases h
  intro l h
  have h' : (l.all isSt && asc (l.map intOf)) = true := h
  rw [Bool.and_eq_true] at h'
  obtain ⟨ha, hb⟩ := h'
  have ha := List.all_eq_true.mp ha
  match l, ha, hb with
  | [], _, _ => exact ⟨[], by decide, rfl⟩
  | [a], ha, _ =>
    rcases one a (ha a (by simp)) with rfl | rfl | rfl
    · exact ⟨[0], by decide, rfl⟩
    · exact ⟨[1], by decide, rfl⟩
    · exact ⟨[2], by decide, rfl⟩
  | [a, b], ha, hb =>
    rcases one a (ha a (by simp)) with rfl | rfl | rfl <;> rcases one b (ha b (by simp)) with rfl | rfl | rfl
    all_goals first
      | exact ⟨[0, 1], by decide, rfl⟩
      | exact ⟨[0, 2], by decide, rfl⟩
      | exact ⟨[1, 2], by decide, rfl⟩
      | exact absurd hb (by decide)
  | [a, b, c], ha, hb =>
    rcases one a (ha a (by simp)) with rfl | rfl | rfl <;> rcases one b (ha b (by simp)) with rfl | rfl | rfl <;> rcases one c (ha c (by simp)) with rfl | rfl | rfl
    all_goals first
      | exact ⟨[0, 1, 2], by decide, rfl⟩
      | exact absurd hb (by decide)
  | a :: b :: c :: d :: r, ha, hb =>
    exfalso
    have hb' : (decide (intOf a < intOf b) && (decide (intOf b < intOf c) && (decide (intOf c < intOf d) && asc (intOf d :: r.map intOf)))) = true := hb
    rw [Bool.and_eq_true, Bool.and_eq_true, Bool.and_eq_true, decide_eq_true_iff, decide_eq_true_iff, decide_eq_true_iff] at hb'
    have lo : 0 ≤ intOf a := by rcases one a (ha a (by simp)) with rfl | rfl | rfl <;> decide
    have hi : intOf d ≤ 2 := by rcases one d (ha d (by simp)) with rfl | rfl | rfl <;> decide
    omega
theorem wStates_is (d : PyData) : wStates d = areStates d := by
  cases d with
  | tuple ds =>
    show (true && decide ((PyData.tuple ds).shown ∈ STS.map PyData.shown)) = areStates (.tuple ds)
    rw [Bool.true_and, Bool.eq_iff_iff, decide_eq_true_iff]
    constructor
    · intro h
      obtain ⟨t, ht, e⟩ := List.mem_map.mp h
      rw [sts_figs] at ht
      obtain ⟨ns, hns, rfl⟩ := List.mem_map.mp ht
      rw [Zx.tup_inj ds ns (figs_ok ns hns).1 e.symm]
      exact (figs_ok ns hns).2
    · intro h
      obtain ⟨ns, hns, rfl⟩ := st_figs ds h
      refine List.mem_map.mpr ⟨_, ?_, rfl⟩
      rw [sts_figs]
      exact List.mem_map.mpr ⟨ns, hns, rfl⟩
  | _ => rfl
/-- a number that shows as one or two -/
theorem shown_ar (d : PyData) : decide (d.shown ∈ (["1", "2"] : List PySem.Str)) = isAr d := by
  rw [Bool.eq_iff_iff, decide_eq_true_iff]
  have c1 : Zx.ch ("1" : PySem.Str) = [48 + 1] := by decide +kernel
  have c2 : Zx.ch ("2" : PySem.Str) = [48 + 2] := by decide +kernel
  constructor
  · intro h
    rcases List.mem_cons.mp h with h | h
    · have e := Zx.figure (d := d) (n := 1) (by decide) (by rw [h]; exact c1)
      rw [e]
      rfl
    · rw [List.mem_singleton] at h
      have e := Zx.figure (d := d) (n := 2) (by decide) (by rw [h]; exact c2)
      rw [e]
      rfl
  · intro h
    cases d with
    | int i =>
      have h' : (decide (i = 1) || decide (i = 2)) = true := h
      rw [Bool.or_eq_true, decide_eq_true_iff, decide_eq_true_iff] at h'
      rcases h' with rfl | rfl
      · decide +kernel
      · decide +kernel
    | _ => cases h
section
variable {P : Program} {w : World} {K : PySem.W.Frag} {mg : PySem.Str → Option Value} {base : Heap}
def sp_valG (F : PyData → Bool) : Sp := fun vs H Q _ => ∃ (S : List Addr) (v : V) (d : PyData), vs = [v] ∧ Dv S H v d ∧ okv d = true ∧ d.bulk ≤ 300000 ∧ d.depth ≤ 60 ∧ ∀ (H' : Hp), Same H H' → Q (.bl (F d)) H'
theorem ok_w_are_states (T : Txt K mg) : FnG P w K mg base 1 T.a_w_are_states T.d_w_are_states P_w_are_states (sp_valG wStates) := by
  refine okG T.F_w_are_states sc_w_are_states (fun vs H Q E h => by obtain ⟨S, v, d, rfl, _⟩ := h; rfl) (fun cdv A outer s H vs Q hgd hr h => ?_)
  refine ⟨_, (pss_cons (ps_set (i := 1) sc_w_are_states.nd rfl (Or.inl rfl) (pe_lst (pa_cons (pe_tup pa_nil) (pa_cons (pe_tup (pa_cons pe_int pa_nil)) (pa_cons (pe_tup (pa_cons pe_int pa_nil)) (pa_cons (pe_tup (pa_cons pe_int pa_nil)) (pa_cons (pe_tup (pa_cons pe_int (pa_cons pe_int pa_nil))) (pa_cons (pe_tup (pa_cons pe_int (pa_cons pe_int pa_nil))) (pa_cons (pe_tup (pa_cons pe_int (pa_cons pe_int pa_nil))) (pa_cons (pe_tup (pa_cons pe_int (pa_cons pe_int (pa_cons pe_int pa_nil)))) pa_nil))))))))))
    (pss_one (ps_ret (pe_and (pe_callB call_isi (by rfl) T.n_isinstance (by decide +kernel) (pa_cons (pv 0) (pa_cons (pe_bltn (v := .ty "tuple") (u := .type "tuple") (by rfl) T.n_tuple (by decide +kernel) rfl) pa_nil))) (pe_one (pe_cmpR op_in_seq (pe_callB (cr_reprV (S := []) hgd hr) (by rfl) T.n_repr (by decide +kernel) (pa_cons (pv 0) pa_nil)) (pe_lc (own := [("one", 2)]) rfl sc_w_are_states.nd (pi_list (pv 1)) (blkOk_by (own := [("one", 2)]) (N := N_w_are_states) (sc := defScope s_w_are_states) (by decide +kernel)) (fun _ _ _ _ _ => (pg_name (i := 2) sc_w_are_states.nd rfl (Or.inl rfl))) (fun _ _ _ _ _ => pts_nil) (fun _ _ _ _ _ => (pe_callB (cr_reprV (S := []) hgd hr) (by rfl) T.n_repr (by decide +kernel) (pa_cons (pv 2) pa_nil)))) (by rfl))))))), ?_⟩
  obtain ⟨S, v, d, rfl, hd, hv, hb, hdp, q⟩ := h
  refine set_lstD (ds := STS) (mkd_cons (mkd_tup mkd_nil (by decide)) (mkd_cons (mkd_tup (mkd_cons mkd_int mkd_nil) (by decide)) (mkd_cons (mkd_tup (mkd_cons mkd_int mkd_nil) (by decide)) (mkd_cons (mkd_tup (mkd_cons mkd_int mkd_nil) (by decide)) (mkd_cons (mkd_tup (mkd_cons mkd_int (mkd_cons mkd_int mkd_nil)) (by decide)) (mkd_cons (mkd_tup (mkd_cons mkd_int (mkd_cons mkd_int mkd_nil)) (by decide)) (mkd_cons (mkd_tup (mkd_cons mkd_int (mkd_cons mkd_int mkd_nil)) (by decide)) (mkd_cons (mkd_tup (mkd_cons mkd_int (mkd_cons mkd_int (mkd_cons mkd_int mkd_nil))) (by decide)) mkd_nil)))))))) (by decide) (fun p1 H1 vs s1 hp1 hvs => ?_)
  have hd := hd.sub (S' := []) fun a h => nomatch h
  refine ⟨_, rfl, v, .ty "tuple", _, _, _, rfl, .ty _, (hd.kp (Kp.of s1)).ty, kit_all K _ (by decide) _ (tyD_mem d), ?_⟩
  have e0 : wStates d = (isA "tuple" d && decide (d.shown ∈ STS.map PyData.shown)) := rfl
  refine ⟨_, rfl, ite2 (fun e => ?_) (fun e => ?_)⟩
  · have e' : isA "tuple" d = true := e
    refine ⟨_, rfl, v, d, rfl, hd.kp (Kp.of s1), (okv_short d hv).2, hdp, okv_fits hv hb, ?_⟩
    refine ⟨_, rfl, p1, rfl, ⟨_, SqL.of hp1⟩, fun D hD => ?_⟩
    refine lc_list (K := K) (a := p1) (xs := vs) (fun i H' => Same H1 H' ∧ H' D = some (.lst (((STS.take i).map PyData.shown).map V.str))) ⟨same_new hD, upd_same⟩ (fun i H' _ p => SqL.of (p.1 _ _ hp1)) ?_ ?_
    · rintro i x H' hi ⟨k, hDl⟩
      obtain ⟨t, hti, htx⟩ := hvs.get hi
      have ht := sts_ok t (List.mem_of_getElem? hti)
      refine ⟨rfl, _, rfl, x, t, rfl, htx.kp (Kp.of k), (okv_short t ht.1).2, ht.2.1, okv_fits ht.1 ht.2.2, ?_⟩
      refine ⟨_, hDl, ?_, ?_, ?_⟩
      · rw [List.length_map, List.length_map, List.length_take, sizeLine_eq]
        have : STS.length = 8 := rfl
        omega
      · exact fun b o eb => by
          rw [upd_ne (ne_of_none eb hD)]
          exact k _ _ eb
      · rw [upd_same, List.take_succ, hti, List.map_append, List.map_append]
        rfl
    · rintro H' ⟨k, hDl⟩
      rw [hvs.length, List.take_length] at hDl
      refine ⟨D, _, rfl, .inl (SqL.of hDl), rfl, all_flat_str _, ?_⟩
      have q' := q H' (s1.trans k)
      rw [e0, e'] at q'
      show Q (V.bl (inV (.str d.shown) ((STS.map PyData.shown).map V.str))) H'
      rw [inV_str]
      exact q'
  · have e' : isA "tuple" d = false := Bool.eq_false_iff.mpr e
    have q' := q H1 s1
    rw [e0, e'] at q'
    exact q'
end
end K05
set_option Elab.async false
set_option Elab.async false
set_option linter.all false
set_option maxRecDepth 100000
/-! k05: the law's own reading of terms. -/
namespace K05
open PySem PySem.Spec PyProof.Rows L2 Zg Zr Zd Zv
/-- what is wanted -/
def wants (b : Bool) : PySem.Str := if b = true then "function" else "task"
def allT (n : Nat) (b : Bool) : PyData → Bool
  | .tuple ds => ds.all (okT n b)
  | _ => false
def sp_gI (n : Nat) : Sp := fun vs H Q _ => ∃ (S : List Addr) (v : V) (d : PyData) (b : Bool), vs = [v, .str (wants b)] ∧ Dv S H v d ∧ okv d = true ∧ d.bulk ≤ 300000 ∧ d.depth ≤ 60 ∧ d.depth < n ∧ ∀ (H' : Hp), Same H H' → Q (.bl (okT n b d)) H'
def sp_gA (n : Nat) : Sp := fun vs H Q _ => ∃ (S : List Addr) (v : V) (d : PyData) (b : Bool), vs = [v, .str (wants b)] ∧ Dv S H v d ∧ okv d = true ∧ d.bulk ≤ 300000 ∧ d.depth ≤ 60 ∧ d.depth ≤ n ∧ ∀ (H' : Hp), Same H H' → Q (.bl (allT n b d)) H'
theorem bulk_mem : ∀ {l : List PyData} {d : PyData}, d ∈ l → d.bulk + 1 ≤ PyData.bulkAll l
  | x :: l, d, h => by
    show _ ≤ x.bulk + 1 + PyData.bulkAll l
    rcases List.mem_cons.mp h with rfl | h
    · omega
    · have := bulk_mem h
      omega
/-- what holds of the parts of a tuple -/
theorem part_ok {ds : List PyData} {d : PyData} (h : d ∈ ds) (hv : okv (.tuple ds) = true) (hb : (PyData.tuple ds).bulk ≤ 300000) (hdp : (PyData.tuple ds).depth ≤ 60) : okv d = true ∧ d.bulk ≤ 300000 ∧ d.depth ≤ 60 ∧ d.depth < (PyData.tuple ds).depth := by
  have h1 := bulk_mem h
  have h2 := depth_mem h
  have hb' : PyData.bulkAll ds ≤ 300000 := hb
  have hdp' : PyData.depthAll ds + 1 ≤ 60 := hdp
  refine ⟨(okv_tup hv).2 d h, by omega, by omega, ?_⟩
  show d.depth < PyData.depthAll ds + 1
  omega
theorem callT (n : Nat) (b : Bool) (x nm fs ts : PyData) : (callParts [x, nm, fs, ts]).elim false (fun l => l.all fun p => okT n p.1 p.2) = (isName nm && (allT n true fs && allT n false ts)) := by
  have no : ∀ fs ts, callParts [x, nm, fs, ts] = none → (allT n true fs && allT n false ts) = false → (callParts [x, nm, fs, ts]).elim false (fun l => l.all fun p => okT n p.1 p.2) = (isName nm && (allT n true fs && allT n false ts)) := fun fs ts h1 h2 => by
    rw [h1, h2, Bool.and_false]
    rfl
  cases fs with
  | tuple fs =>
    cases ts with
    | tuple ts =>
      show (if isName nm = true then some _ else none).elim false _ = _
      rcases bool2 (isName nm) with h | h
      · rw [h]; rfl
      · rw [h]
        show (fs.map (fun d => (true, d)) ++ ts.map fun d => (false, d)).all _ = (true && (fs.all (okT n true) && ts.all (okT n false)))
        rw [Bool.true_and, List.all_append, List.all_map, List.all_map]
        rfl
    | _ => exact no _ _ rfl (Bool.and_false _)
  | _ => exact no _ _ rfl rfl
theorem okT_part (n : Nat) (nm fs ts : PyData) : okT (n + 1) true (.tuple [.str "part", nm, fs, ts]) = (isName nm && (allT n true fs && allT n false ts)) := by
  have e : partsF [.str "part", nm, fs, ts] = callParts [.str "part", nm, fs, ts] := by
    show (if ("part" : PySem.Str) = "given" then (if oneName [nm, fs, ts] = true then some [] else none) else if ("part" : PySem.Str) = "part" ∧ [nm, fs, ts].length = 3 then callParts [.str "part", nm, fs, ts] else none) = _
    rw [if_neg (by decide +kernel), if_pos ⟨rfl, rfl⟩]
  show (partsF [.str "part", nm, fs, ts]).elim false _ = _
  rw [e]
  exact callT n true _ nm fs ts
theorem okT_call (n : Nat) (nm fs ts : PyData) : okT (n + 1) false (.tuple [.str "call", nm, fs, ts]) = (isName nm && (allT n true fs && allT n false ts)) := by
  have e : partsT [.str "call", nm, fs, ts] = callParts [.str "call", nm, fs, ts] := by
    show (if ("call" : PySem.Str) ∈ (["end", "wait", "fail"] : List PySem.Str) then (if [nm, fs, ts] = [] then some [] else none)
      else if ("call" : PySem.Str) = "go" then (if oneName [nm, fs, ts] = true then some [] else none)
      else if ("call" : PySem.Str) = "do" then actionParts (.str "call" :: [nm, fs, ts])
      else if ("call" : PySem.Str) = "test" then testParts (.str "call" :: [nm, fs, ts])
      else if ("call" : PySem.Str) = "pick" then (if 0 < [nm, fs, ts].length ∧ [nm, fs, ts].length ≤ 4 then some ([nm, fs, ts].map fun d => (false, d)) else none)
      else if ("call" : PySem.Str) = "call" ∧ [nm, fs, ts].length = 3 then callParts (.str "call" :: [nm, fs, ts]) else none) = _
    rw [if_neg (by decide +kernel), if_neg (by decide +kernel), if_neg (by decide +kernel), if_neg (by decide +kernel), if_neg (by decide +kernel), if_pos ⟨rfl, rfl⟩]
  show (partsT [.str "call", nm, fs, ts]).elim false _ = _
  rw [e]
  exact callT n true _ nm fs ts
theorem if_viaH {S1 B : TS} {D : Ends} {σ : L2.St} {H : Hp} (Pc : Hp → Prop) (h1 : ∀ H', Pc H' → B D σ H') (h2 : ∀ nx : L2.St → Hp → Prop, (∀ H', Pc H' → nx σ H') → S1 { D with nx := nx } σ H) : tSeq S1 B D σ H := h2 _ h1
theorem not_four {wd x : PySem.Str} (h : wd = x) (d : x ∉ (["end", "wait", "fail"] : List PySem.Str)) : wd ∉ (["end", "wait", "fail"] : List PySem.Str) := h ▸ d
theorem not_word {wd x y : PySem.Str} (h : wd = x) (d : x ≠ y) : wd ≠ y := h ▸ d
theorem parts_go {wd : PySem.Str} {rest : List PyData} (h : wd = "go") : partsT (.str wd :: rest) = if oneName rest = true then some [] else none := (if_neg (not_four h (by decide +kernel))).trans (if_pos h)
theorem parts_given {wd : PySem.Str} {rest : List PyData} (h : wd = "given") : partsF (.str wd :: rest) = if oneName rest = true then some [] else none := if_pos h
theorem parts_do {wd : PySem.Str} {rest : List PyData} (h : wd = "do") : partsT (.str wd :: rest) = actionParts (.str wd :: rest) := (if_neg (not_four h (by decide +kernel))).trans ((if_neg (not_word h (by decide +kernel))).trans (if_pos h))
theorem parts_test {wd : PySem.Str} {rest : List PyData} (h : wd = "test") : partsT (.str wd :: rest) = testParts (.str wd :: rest) :=
  (if_neg (not_four h (by decide +kernel))).trans ((if_neg (not_word h (by decide +kernel))).trans ((if_neg (not_word h (by decide +kernel))).trans (if_pos h)))
theorem parts_pick {wd : PySem.Str} {rest : List PyData} (h : wd = "pick") : partsT (.str wd :: rest) = if 0 < rest.length ∧ rest.length ≤ 4 then some (rest.map fun d => (false, d)) else none :=
  (if_neg (not_four h (by decide +kernel))).trans ((if_neg (not_word h (by decide +kernel))).trans ((if_neg (not_word h (by decide +kernel))).trans ((if_neg (not_word h (by decide +kernel))).trans (if_pos h))))
theorem okT_end {n : Nat} {wd : PySem.Str} {rest : List PyData} (h : wd ∈ (["end", "wait", "fail"] : List PySem.Str)) : okT (n + 1) false (.tuple (.str wd :: rest)) = decide (rest.length = 0) := by
  have e : partsT (.str wd :: rest) = if rest = [] then some [] else none := if_pos h
  show (partsT (.str wd :: rest)).elim false _ = _
  rw [e]
  cases rest <;> rfl
theorem okT_go {n : Nat} {rest : List PyData} : okT (n + 1) false (.tuple (.str "go" :: rest)) = oneName rest := by
  have e : partsT (.str "go" :: rest) = if oneName rest = true then some [] else none := parts_go rfl
  show (partsT (.str "go" :: rest)).elim false _ = _
  rw [e]
  cases oneName rest <;> rfl
theorem okT_given {n : Nat} {rest : List PyData} : okT (n + 1) true (.tuple (.str "given" :: rest)) = oneName rest := by
  have e : partsF (.str "given" :: rest) = if oneName rest = true then some [] else none := parts_given rfl
  show (partsF (.str "given" :: rest)).elim false _ = _
  rw [e]
  cases oneName rest <;> rfl
theorem okT_do {n : Nat} {nm t : PyData} : okT (n + 1) false (.tuple [.str "do", nm, t]) = (isName nm && okT n false t) := by
  show (partsT [.str "do", nm, t]).elim false _ = _
  rw [parts_do rfl]
  show (if isName nm = true then some [(false, t)] else none).elim false _ = _
  cases isName nm
  · rfl
  · show (okT n false t && true) = (true && _)
    rw [Bool.and_true, Bool.true_and]
theorem okT_do_not {n : Nat} {rest : List PyData} (h : rest.length ≠ 2) : okT (n + 1) false (.tuple (.str "do" :: rest)) = false := by
  show (partsT (.str "do" :: rest)).elim false _ = _
  rw [parts_do rfl, actionParts_not (fun z => h (by rw [List.length_cons] at z; omega))]
  rfl
theorem okT_test {n : Nat} {s y z : PyData} : okT (n + 1) false (.tuple [.str "test", s, y, z]) = (areStates s && allT n false (.tuple [y, z])) := by
  show (partsT [.str "test", s, y, z]).elim false _ = _
  rw [parts_test rfl]
  show (if areStates s = true then some [(false, y), (false, z)] else none).elim false _ = _
  cases areStates s
  · rfl
  · rfl
theorem okT_test_not {n : Nat} {rest : List PyData} (h : rest.length ≠ 3) : okT (n + 1) false (.tuple (.str "test" :: rest)) = false := by
  show (partsT (.str "test" :: rest)).elim false _ = _
  rw [parts_test rfl, testParts_not (fun z => h (by rw [List.length_cons] at z; omega))]
  rfl
theorem okT_pick (n : Nat) (rest : List PyData) : okT (n + 1) false (.tuple (.str "pick" :: rest)) = (decide (0 < rest.length ∧ rest.length ≤ 4) && allT n false (.tuple rest)) := by
  have e : partsT (.str "pick" :: rest) = if 0 < rest.length ∧ rest.length ≤ 4 then some (rest.map fun d => (false, d)) else none := parts_pick rfl
  show (partsT (.str "pick" :: rest)).elim false _ = _
  rw [e]
  by_cases h : 0 < rest.length ∧ rest.length ≤ 4
  · rw [if_pos h, decide_eq_true h]
    show (rest.map fun d => (false, d)).all _ = (true && rest.all (okT n false))
    rw [List.all_map, Bool.true_and]
    rfl
  · rw [if_neg h, decide_eq_false h]
    rfl
theorem okT_noneF {n : Nat} {wd : PySem.Str} {rest : List PyData} (e : wd ∉ (["end", "wait", "fail"] : List PySem.Str)) (g : wd ≠ "go") (o : wd ≠ "do") (t : wd ≠ "test") (p : wd ≠ "pick") (c : ¬ (wd = "call" ∧ rest.length = 3)) : okT (n + 1) false (.tuple (.str wd :: rest)) = false := by
  have e : partsT (.str wd :: rest) = none := (if_neg e).trans ((if_neg g).trans ((if_neg o).trans ((if_neg t).trans ((if_neg p).trans (if_neg c)))))
  show (partsT (.str wd :: rest)).elim false _ = _
  rw [e]
  rfl
theorem okT_noneT {n : Nat} {wd : PySem.Str} {rest : List PyData} (g : wd ≠ "given") (c : ¬ (wd = "part" ∧ rest.length = 3)) : okT (n + 1) true (.tuple (.str wd :: rest)) = false := by
  have e : partsF (.str wd :: rest) = none := (if_neg g).trans (if_neg c)
  show (partsF (.str wd :: rest)).elim false _ = _
  rw [e]
  rfl
theorem in_2345 (m : Nat) : inV (V.int ((m + 1 : Nat) : Int)) [.int 2, .int 3, .int 4, .int 5] = decide (0 < m ∧ m ≤ 4) := by
  show ((2 == ((m + 1 : Nat) : Int)) || ((3 == ((m + 1 : Nat) : Int)) || ((4 == ((m + 1 : Nat) : Int)) || ((5 == ((m + 1 : Nat) : Int)) || false)))) = _
  rw [Bool.eq_iff_iff, decide_eq_true_iff]
  simp only [Bool.or_eq_true, beq_iff_eq, Bool.false_eq_true, or_false]
  omega
theorem okv_tail {d : PyData} {ds : List PyData} (h : okv (.tuple (d :: ds)) = true) : okv (.tuple ds) = true := by
  obtain ⟨h1, h2⟩ := okv_tup h
  rw [List.length_cons] at h1
  show (decide (ds.length ≤ 1000) && okvAll ds) = true
  rw [decide_eq_true (by omega), okvAll_iff.mpr fun x hx => h2 x (List.mem_cons_of_mem _ hx)]
  rfl
theorem bulk_tail {d : PyData} {ds : List PyData} (h : (PyData.tuple (d :: ds)).bulk ≤ 300000) : (PyData.tuple ds).bulk ≤ 300000 := by
  have h' : d.bulk + 1 + PyData.bulkAll ds ≤ 300000 := h
  show PyData.bulkAll ds ≤ 300000
  omega
theorem depth_tail {d : PyData} {ds : List PyData} : (PyData.tuple ds).depth ≤ (PyData.tuple (d :: ds)).depth := by
  show PyData.depthAll ds + 1 ≤ max d.depth (PyData.depthAll ds) + 1
  omega
theorem if_via {S1 B : TS} {D : Ends} {σ : L2.St} {H : Hp} (Pc : Prop) (h1 : Pc → B D σ H) (h2 : ∀ nx : L2.St → Hp → Prop, (Pc → nx σ H) → S1 { D with nx := nx } σ H) : tSeq S1 B D σ H := h2 _ h1
section
variable {P : Program} {w : World} {K : PySem.W.Frag} {mg : PySem.Str → Option Value} {base : Heap}
theorem ok_are_all_of (T : Txt K mg) {n : Nat} (hI : FnG P w K mg base (2 * n + 2) T.a_is_term T.d_is_term P_is_term (sp_gI n)) : FnG P w K mg base (2 * n + 3) T.a_are_all T.d_are_all P_are_all (sp_gA n) := by
  refine okG T.F_are_all sc_are_all (fun vs H Q E h => by obtain ⟨S, v, d, b, rfl, _⟩ := h; rfl) (fun cdv A outer s H vs Q hgd hr h => ?_)
  refine ⟨_, (pss_cons (ps_if (pt_not (pt_val (pe_callB call_isi (by rfl) T.n_isinstance (by decide +kernel) (pa_cons (pv 0) (pa_cons (pe_bltn (v := .ty "tuple") (u := .type "tuple") (by rfl) T.n_tuple (by decide +kernel) rfl) pa_nil))))) (pss_one (ps_ret pe_bl)) pss_nil)
    (pss_one (ps_ret (pe_cmpR (op_eqE (Nat.lt_of_le_of_lt (Nat.le_add_right _ 64) hr.units)) (pe_lc (own := [("one", 2)]) rfl sc_are_all.nd (pi_tup (pv 0)) (blkOk_by (own := [("one", 2)]) (N := N_are_all) (sc := defScope s_are_all) (by decide +kernel)) (fun _ _ _ _ _ => (pg_name (i := 2) sc_are_all.nd rfl (Or.inl rfl))) (fun _ _ _ _ _ => (pts_one (pt_not (pt_val (pe_callG hI hgd (hr.mono (by omega)) (by rfl) T.g_is_term T.F_is_term.kp T.b_is_term .nil (pa_cons (pv 2) (pa_cons (pv 1) pa_nil))))))) (fun _ _ _ _ _ => pe_int)) (pe_lst pa_nil) (nomark _))))), ?_⟩
  obtain ⟨S, v, d, b, rfl, hd, hv, hb, hdp, hn, q⟩ := h
  refine ⟨_, rfl, v, .ty "tuple", _, _, _, rfl, .ty _, hd.ty, kit_all K _ (by decide) _ (tyD_mem d), ?_⟩
  rcases bool2 (isA "tuple" d) with et | et
  · have et' : isB "tuple" (tyD d) = false := et
    rw [et']
    refine ⟨_, rfl, iteT ?_⟩
    have q' := q H (Same.refl H)
    have e2 : allT n b d = false := by
      cases d with
      | tuple l => cases et
      | _ => rfl
    rw [e2] at q'
    exact q'
  have et' : isB "tuple" (tyD d) = true := et
  rw [et']
  refine ⟨_, rfl, iteF ?_⟩
  obtain ⟨a, xs, ds, rfl, rfl, ha, _, hx⟩ := hd.tuple et
  obtain ⟨hl, _⟩ := okv_tup hv
  refine ⟨_, rfl, a, rfl, ⟨_, SqT.of ha⟩, fun D hD => ?_⟩
  refine lc_tup (K := K) (a := a) (xs := xs) (fun i H' => Same H H' ∧ H' D = some (.lst (((ds.take i).filter fun d => !okT n b d).map fun _ => V.int 1))) ⟨same_new hD, upd_same⟩ (fun i H' _ p => SqT.of (p.1 _ _ ha)) ?_ ?_
  · rintro i x H1 hi ⟨k, hDl⟩
    obtain ⟨d, hdi, hdx⟩ := hx.get hi
    have hm := List.mem_of_getElem? hdi
    obtain ⟨o1, o2, o3, o4⟩ := part_ok hm hv hb hdp
    refine ⟨rfl, _, rfl, _, rfl, S, x, d, b, rfl, hdx.kp (Kp.of k), o1, o2, o3, by omega, fun H2 k2 => ?_⟩
    refine ⟨_, rfl, ite2 (fun e => ?_) (fun e => ?_)⟩
    · refine ⟨_, k2 _ _ hDl, ?_, ?_, ?_⟩
      · rw [List.length_map, sizeLine_eq]
        have q1 := List.length_filter_le (fun d => !okT n b d) (ds.take i)
        rw [List.length_take] at q1
        omega
      · exact fun c o eb => by rw [upd_ne (ne_of_none eb hD)]; exact k2 _ _ (k _ _ eb)
      · have e4 : (!okT n b d) = true := e
        rw [upd_same, List.take_succ, hdi, List.filter_append, List.map_append]
        show some (HO.lst (_ ++ [V.int 1])) = some (HO.lst (_ ++ List.map _ (List.filter _ [d])))
        rw [List.filter_cons_of_pos (p := fun d => !okT n b d) e4]
        rfl
    · have e4 : ¬ (!okT n b d) = true := e
      refine ⟨k.trans k2, ?_⟩
      rw [List.take_succ, hdi, List.filter_append, List.map_append]
      show _ = some (HO.lst (_ ++ List.map _ (List.filter _ [d])))
      rw [List.filter_cons_of_neg (p := fun d => !okT n b d) e4, List.filter_nil, List.map_nil, List.append_nil]
      exact k2 _ _ hDl
  · rintro H1 ⟨k, hDl⟩
    rw [hx.length, List.take_length] at hDl
    refine ⟨by show 0 ≤ sizeLine; decide, fun p hp => ⟨D, p, _, rfl, rfl, .inl ⟨SqL.of (same_new hp _ _ hDl), SqL.of upd_same⟩, ?_⟩⟩
    have q' := q _ (k.trans (same_new (o := .lst []) hp))
    have e3 : ∀ l : List PyData, l.all (okT n b) = List.isEmpty ((l.filter fun d => !okT n b d).map fun _ => V.int 1) := by
      intro l
      induction l with
      | nil => rfl
      | cons z zs ih =>
        rcases bool2 (okT n b z) with hz | hz
        · rw [List.filter_cons_of_pos (p := fun d => !okT n b d) (by rw [hz]; rfl), List.all_cons, hz]
          rfl
        · rw [List.filter_cons_of_neg (p := fun d => !okT n b d) (by rw [hz]; decide), ← ih, List.all_cons, hz]
          rfl
    have q'' : Q (V.bl (ds.all (okT n b))) _ := q'
    rw [e3] at q''
    exact q''
theorem ok_is_term_of (T : Txt K mg) {n : Nat} (hA : FnG P w K mg base (2 * n + 3) T.a_are_all T.d_are_all P_are_all (sp_gA n)) (hI : FnG P w K mg base (2 * n + 2) T.a_is_term T.d_is_term P_is_term (sp_gI n)) : FnG P w K mg base (2 * n + 4) T.a_is_term T.d_is_term P_is_term (sp_gI (n + 1)) := by
  refine okG T.F_is_term sc_is_term (fun vs H Q E h => by obtain ⟨S, v, d, b, rfl, _⟩ := h; rfl) (fun cdv A outer s H vs Q hgd hr h => ?_)
  refine ⟨_, (pss_cons (ps_if (PW.pt (pw_or (pt_not (pt_val (pe_callB call_isi (by rfl) T.n_isinstance (by decide +kernel) (pa_cons (pv 0) (pa_cons (pe_bltn (v := .ty "tuple") (u := .type "tuple") (by rfl) T.n_tuple (by decide +kernel) rfl) pa_nil))))) (pw_or (pt_cmpR op_eq (pe_callB call_len_seq (by rfl) T.n_len (by decide +kernel) (pa_cons (pv 0) pa_nil)) pe_int (nomark _)) (pw_or1 (pt_not (pt_val (pe_callB call_isi (by rfl) T.n_isinstance (by decide +kernel) (pa_cons (pe_ix ix_tup (pv 0) pe_int (fun _ _ => rfl)) (pa_cons (pe_bltn (v := .ty "str") (u := .type "str") (by rfl) T.n_str (by decide +kernel) rfl) pa_nil))))))))) (pss_one (ps_ret pe_bl)) pss_nil)
    (pss_cons (ps_par (i := 2) (j := 3) (by rfl) sc_is_term.nd rfl rfl (by decide) rfl rfl (pa_cons (pe_ix ix_tup (pv 0) pe_int (fun _ _ => rfl)) (pa_cons (pe_callB call_len_seq (by rfl) T.n_len (by decide +kernel) (pa_cons (pv 0) pa_nil)) pa_nil)) (by rfl))
    (pss_cons (ps_if (PW.pt (pw_and (pt_cmpR op_eq (pv 2) (pe_ifExp (pt_cmpR op_eq (pv 1) pe_str (nomark _)) pe_str pe_str) (nomark _)) (pw_and1 (pt_cmpR op_eq (pv 3) pe_int (nomark _))))) (pss_one (ps_ret (pe_and (pe_call (ok_w_is_name T) (hr.mono (by omega)) (by rfl) T.g_w_is_name T.F_w_is_name.kp T.b_w_is_name .nil pass0 (pa_cons (pe_ix ix_tup (pv 0) pe_int (fun _ _ => rfl)) pa_nil)) (pe_and (pe_callG hA hgd (hr.mono (by omega)) (by rfl) T.g_are_all T.F_are_all.kp T.b_are_all .nil (pa_cons (pe_ix ix_tup (pv 0) pe_int (fun _ _ => rfl)) (pa_cons pe_str pa_nil))) (pe_one (pe_callG hA hgd (hr.mono (by omega)) (by rfl) T.g_are_all T.F_are_all.kp T.b_are_all .nil (pa_cons (pe_ix ix_tup (pv 0) pe_int (fun _ _ => rfl)) (pa_cons pe_str pa_nil)))))))) pss_nil)
    (pss_cons (ps_if (pt_cmpR op_eq (pv 1) pe_str (nomark _)) (pss_one (ps_ret (pe_and (pe_cmpR op_eq (pv 2) pe_str (nomark _)) (pe_and (pe_cmpR op_eq (pv 3) pe_int (nomark _)) (pe_one (pe_call (ok_w_is_name T) (hr.mono (by omega)) (by rfl) T.g_w_is_name T.F_w_is_name.kp T.b_w_is_name .nil pass0 (pa_cons (pe_ix ix_tup (pv 0) pe_int (fun _ _ => rfl)) pa_nil))))))) pss_nil)
    (pss_cons (ps_if (pt_cmpR op_in_seq (pv 2) (pe_tup (pa_cons pe_str (pa_cons pe_str (pa_cons pe_str pa_nil)))) (by rfl)) (pss_one (ps_ret (pe_cmpR op_eq (pv 3) pe_int (nomark _)))) pss_nil)
    (pss_cons (ps_if (pt_cmpR op_eq (pv 2) pe_str (nomark _)) (pss_one (ps_ret (pe_and (pe_cmpR op_eq (pv 3) pe_int (nomark _)) (pe_one (pe_call (ok_w_is_name T) (hr.mono (by omega)) (by rfl) T.g_w_is_name T.F_w_is_name.kp T.b_w_is_name .nil pass0 (pa_cons (pe_ix ix_tup (pv 0) pe_int (fun _ _ => rfl)) pa_nil)))))) pss_nil)
    (pss_cons (ps_if (pt_cmpR op_eq (pv 2) pe_str (nomark _)) (pss_one (ps_ret (pe_and (pe_cmpR op_eq (pv 3) pe_int (nomark _)) (pe_and (pe_call (ok_w_is_name T) (hr.mono (by omega)) (by rfl) T.g_w_is_name T.F_w_is_name.kp T.b_w_is_name .nil pass0 (pa_cons (pe_ix ix_tup (pv 0) pe_int (fun _ _ => rfl)) pa_nil)) (pe_one (pe_callG hI hgd (hr.mono (by omega)) (by rfl) T.g_is_term T.F_is_term.kp T.b_is_term .nil (pa_cons (pe_ix ix_tup (pv 0) pe_int (fun _ _ => rfl)) (pa_cons pe_str pa_nil)))))))) pss_nil)
    (pss_cons (ps_if (pt_cmpR op_eq (pv 2) pe_str (nomark _)) (pss_one (ps_ret (pe_and (pe_cmpR op_eq (pv 3) pe_int (nomark _)) (pe_and (pe_callG (ok_w_are_states T) hgd (hr.mono (by omega)) (by rfl) T.g_w_are_states T.F_w_are_states.kp T.b_w_are_states .nil (pa_cons (pe_ix ix_tup (pv 0) pe_int (fun _ _ => rfl)) pa_nil)) (pe_one (pe_callG hA hgd (hr.mono (by omega)) (by rfl) T.g_are_all T.F_are_all.kp T.b_are_all .nil (pa_cons (pe_slice sl_tupA (pv 0) (po_some pe_int) po_none) (pa_cons pe_str pa_nil)))))))) pss_nil)
    (pss_one (ps_ret (pe_and (pe_cmpR op_eq (pv 2) pe_str (nomark _)) (pe_and (pe_cmpR op_in_seq (pv 3) (pe_tup (pa_cons pe_int (pa_cons pe_int (pa_cons pe_int (pa_cons pe_int pa_nil))))) (by rfl)) (pe_one (pe_callG hA hgd (hr.mono (by omega)) (by rfl) T.g_are_all T.F_are_all.kp T.b_are_all .nil (pa_cons (pe_slice sl_tupA (pv 0) (po_some pe_int) po_none) (pa_cons pe_str pa_nil)))))))))))))))), ?_⟩
  obtain ⟨S, v, d, b, rfl, hd, hv, hb, hdp, hn, q⟩ := h
  replace hd := hd.sub (S' := []) fun a h => nomatch h
  have qF : okT (n + 1) b d = false → ∀ H', Same H H' → Q (.bl false) H' := fun e H' k => by
    have q' := q H' k
    rw [e] at q'
    exact q'
  refine ⟨_, rfl, v, .ty "tuple", _, _, _, rfl, .ty _, hd.ty, kit_all K _ (by decide) _ (tyD_mem d), ?_⟩
  rcases bool2 (isA "tuple" d) with et | et
  · have et' : isB "tuple" (tyD d) = false := et
    rw [et']
    refine ⟨_, rfl, iteT (iteT (qF ?_ H (Same.refl H)))⟩
    cases d with
    | tuple l => cases et
    | _ => rfl
  have et' : isB "tuple" (tyD d) = true := et
  rw [et']
  refine ⟨_, rfl, iteF ?_⟩
  obtain ⟨a, xs, ds, rfl, rfl, ha, _, hx⟩ := hd.tuple et
  obtain ⟨hl, hok⟩ := okv_tup hv
  have hxl := hx.length
  refine ⟨_, rfl, a, _, rfl, .inr (SqT.of ha), rfl, _, rfl, ?_⟩
  show if decide (V.int (xs.length : Int) = V.int ((0 : Nat) : Int)) = true then _ else _
  rw [dec_nat]
  refine ite2 (fun e0 => ?_) (fun e0 => ?_)
  · refine iteT (qF ?_ H (Same.refl H))
    have : ds = [] := List.length_eq_zero_iff.mp (by rw [← hxl]; exact of_decide_eq_true e0)
    rw [this]
    rfl
  cases hx with
  | nil => exact absurd rfl e0
  | @cons v0 vs d0 rest h0 hx =>
  rw [List.length_cons, List.length_cons] at hxl
  have hxl : vs.length = rest.length := by omega
  refine ⟨_, rfl, a, _, 0, _, rfl, rfl, SqT.of ha, atI_nat (j := 0) rfl, v0, .ty "str", _, _, _, rfl, .ty _, h0.ty, kit_all K _ (by decide) _ (tyD_mem d0), ?_⟩
  rcases bool2 (isA "str" d0) with es | es
  · have es' : isB "str" (tyD d0) = false := es
    rw [es']
    refine ⟨_, rfl, iteT (qF ?_ H (Same.refl H))⟩
    cases d0 with
    | str x => cases es
    | _ => rfl
  have es' : isB "str" (tyD d0) = true := es
  rw [es']
  refine ⟨_, rfl, iteF ?_⟩
  obtain ⟨wd, rfl, rfl⟩ := h0.text es
  refine ⟨_, rfl, a, _, 0, _, rfl, rfl, SqT.of ha, atI_nat (j := 0) rfl, ?_⟩
  refine ⟨_, rfl, a, _, rfl, .inr (SqT.of ha), ?_⟩
  refine ⟨_, _, rfl, ?_⟩
  rcases bool2 b with rfl | rfl
  · try dsimp only [tNext]
    show tSeq (tIfS _ _ _) _ _ _ _
    refine if_via (¬ (wd = "call" ∧ rest.length = 3)) (fun nC => ?_) (fun nx cont => ?_)
    · refine ⟨_, rfl, rfl, _, rfl, ?_⟩
      rw [dec_str, (by decide +kernel : (wants false == ("function" : PySem.Str)) = false)]
      refine iteF ?_
      -- end, wait, fail
      try dsimp only [tNext]
      show tSeq (tIfS _ _ _) _ _ _ _
      refine if_viaH (fun H0 => wd ∉ (["end", "wait", "fail"] : List PySem.Str) ∧ Same H H0) (fun H0 e' => ?_) (fun nx cont => ?_)
      · obtain ⟨e', k0⟩ := e'
        replace ha := k0 _ _ ha
        replace hx := hx.kp (Kp.of k0)
        replace qF := fun (e : okT (n + 1) false (.tuple (.str wd :: rest)) = false) H' k => qF e H' (Same.trans k0 k)
        replace q := fun H' k => q H' (Same.trans k0 k)
        -- go
        try dsimp only [tNext]
        show tSeq (tIfS _ _ _) _ _ _ _
        refine if_via (wd ≠ "go") (fun g' => ?_) (fun nx cont => ?_)
        · -- do
          try dsimp only [tNext]
          show tSeq (tIfS _ _ _) _ _ _ _
          refine if_via (wd ≠ "do") (fun o' => ?_) (fun nx cont => ?_)
          · -- test
            try dsimp only [tNext]
            show tSeq (tIfS _ _ _) _ _ _ _
            refine if_via (wd ≠ "test") (fun t' => ?_) (fun nx cont => ?_)
            · -- pick
              refine ⟨_, rfl, rfl, _, rfl, ?_⟩
              rw [dec_str]
              refine ite2 (fun p => ?_) (fun p => ?_)
              · have p' : wd = "pick" := beq_iff_eq.mp p
                have eP : okT (n + 1) false (.tuple (.str wd :: rest)) = (decide (0 < rest.length ∧ rest.length ≤ 4) && allT n false (.tuple rest)) := by
                  rw [p']
                  exact okT_pick n rest
                rw [eP] at q
                refine ⟨_, rfl, by show 4 ≤ sizeLine; decide, fun r hr => ⟨r, _, rfl, .inr (SqT.of upd_same), rfl, rfl, _, rfl, ?_⟩⟩
                have kr := same_new (o := .tup [V.int 2, .int 3, .int 4, .int 5]) hr
                show if inV (V.int ((V.str wd :: vs).length : Int)) [.int 2, .int 3, .int 4, .int 5] = true then _ else _
                rw [List.length_cons, hxl, in_2345]
                refine ite2 (fun e2 => ?_) (fun e2 => ?_)
                · refine ⟨_, rfl, 1, rfl, ?_⟩
                  dsimp only [tNoPart]
                  refine slA_from (K := K) (n := 1) (k := 1) rfl (kr _ _ ha) fun H2 b k2 hb2 hbf => ?_
                  have kk := kr.trans k2
                  have ht : Dv [] H2 (.ref b) (.tuple rest) := .tup hb2 (fun m => nomatch m) (hx.kp (Kp.of kk))
                  have b1 := bulk_tail (d := .str wd) (ds := rest) hb
                  have d1 := depth_tail (d := .str wd) (ds := rest)
                  refine ⟨[], _, .tuple rest, false, rfl, ht, okv_tail hv, b1, Nat.le_trans d1 hdp, by omega, fun H3 k3 => ?_⟩
                  have q' := q H3 (kk.trans k3)
                  rw [e2] at q'
                  exact q'
                · have q' := q _ kr
                  rw [Bool.not_eq_true] at e2
                  rw [e2] at q'
                  exact q'
              · refine qF (okT_noneF e' g' o' t' (fun z => p (beq_iff_eq.mpr z)) nC) _ (Same.refl _)
            · refine ⟨_, rfl, rfl, _, rfl, ?_⟩
              rw [dec_str]
              refine ite2 (fun t => ?_) (fun t => ?_)
              · have t' : wd = "test" := beq_iff_eq.mp t
                subst t'
                refine ⟨_, rfl, rfl, _, rfl, ?_⟩
                show if decide (V.int ((V.str _ :: vs).length : Int) = V.int ((4 : Nat) : Int)) = true then _ else _
                rw [dec_nat]
                refine ite2 (fun e2 => ?_) (fun e2 => ?_)
                · have e2' : rest.length = 3 := by
                    have := of_decide_eq_true e2
                    rw [List.length_cons, hxl] at this
                    omega
                  obtain ⟨s', y, z, rfl⟩ := three e2'
                  rw [okT_test] at q
                  have hx' := hx
                  cases hx with
                  | @cons v1 vs1 _ _ h1 hx =>
                  have p1 := part_ok (ds := [.str "test", s', y, z]) (d := s') (by simp) hv hb hdp
                  refine ⟨_, rfl, a, _, 1, _, rfl, rfl, SqT.of ha, atI_nat (j := 1) rfl, [], v1, s', rfl, h1, p1.1, p1.2.1, p1.2.2.1, fun H1 k1 => ⟨_, rfl, ?_⟩⟩
                  rw [wStates_is]
                  refine ite2 (fun e3 => ?_) (fun e3 => ?_)
                  · refine ⟨_, rfl, 2, rfl, ?_⟩
                    dsimp only [tNoPart]
                    refine slA_from (K := K) (n := 2) (k := 2) rfl (k1 _ _ ha) fun H2 b k2 hb2 hbf => ?_
                    have kk := k1.trans k2
                    have ht : Dv [] H2 (.ref b) (.tuple [y, z]) := .tup hb2 (fun m => nomatch m) (hx.kp (Kp.of kk))
                    have b1 := bulk_tail (d := .str "test") (ds := [s', y, z]) hb
                    have d1 := depth_tail (d := .str "test") (ds := [s', y, z])
                    have b2 := bulk_tail (d := s') (ds := [y, z]) b1
                    have d2 := depth_tail (d := s') (ds := [y, z])
                    refine ⟨[], _, .tuple [y, z], false, rfl, ht, okv_tail (okv_tail hv), b2, by omega, by omega, fun H3 k3 => ?_⟩
                    have q' := q H3 (kk.trans k3)
                    rw [e3] at q'
                    exact q'
                  · have q' := q _ k1
                    rw [Bool.not_eq_true] at e3
                    rw [e3] at q'
                    exact q'
                · refine qF (okT_test_not fun h => e2 (decide_eq_true (by rw [List.length_cons, hxl, h]))) _ (Same.refl _)
              · exact cont fun z => t (beq_iff_eq.mpr z)
          · refine ⟨_, rfl, rfl, _, rfl, ?_⟩
            rw [dec_str]
            refine ite2 (fun o => ?_) (fun o => ?_)
            · have o' : wd = "do" := beq_iff_eq.mp o
              subst o'
              refine ⟨_, rfl, rfl, _, rfl, ?_⟩
              show if decide (V.int ((V.str _ :: vs).length : Int) = V.int ((3 : Nat) : Int)) = true then _ else _
              rw [dec_nat]
              refine ite2 (fun e2 => ?_) (fun e2 => ?_)
              · have e2' : rest.length = 2 := by
                  have := of_decide_eq_true e2
                  rw [List.length_cons, hxl] at this
                  omega
                obtain ⟨nm, t, rfl⟩ := two_of e2'
                rw [okT_do] at q
                cases hx with
                | @cons v1 vs1 _ _ h1 hx =>
                cases hx with
                | @cons v2 vs2 _ _ h2 hx =>
                cases hx
                have p2 := part_ok (ds := [.str "do", nm, t]) (d := t) (by simp) hv hb hdp
                refine ⟨_, rfl, a, _, 1, _, rfl, rfl, SqT.of ha, atI_nat (j := 1) rfl, [], v1, nm, rfl, h1, hok nm (by simp), fun H1 k1 => ⟨_, rfl, ite2 (fun e3 => ?_) (fun e3 => ?_)⟩⟩
                · refine ⟨_, rfl, a, _, 2, _, rfl, rfl, SqT.of (k1 _ _ ha), atI_nat (j := 2) rfl, [], v2, t, false, rfl, h2.kp (Kp.of k1), p2.1, p2.2.1, p2.2.2.1, by omega, fun H2 k2 => ?_⟩
                  have q' := q H2 (k1.trans k2)
                  rw [e3] at q'
                  exact q'
                · have q' := q H1 k1
                  rw [Bool.not_eq_true] at e3
                  rw [e3] at q'
                  exact q'
              · refine qF (okT_do_not fun h => e2 (decide_eq_true (by rw [List.length_cons, hxl, h]))) _ (Same.refl _)
            · exact cont fun z => o (beq_iff_eq.mpr z)
        · refine ⟨_, rfl, rfl, _, rfl, ?_⟩
          rw [dec_str]
          refine ite2 (fun g => ?_) (fun g => ?_)
          · have g' : wd = "go" := beq_iff_eq.mp g
            subst g'
            rw [okT_go] at q qF
            refine ⟨_, rfl, rfl, _, rfl, ?_⟩
            show if decide (V.int ((V.str _ :: vs).length : Int) = V.int ((2 : Nat) : Int)) = true then _ else _
            rw [dec_nat]
            refine ite2 (fun e2 => ?_) (fun e2 => ?_)
            · have e2' : rest.length = 1 := by
                have := of_decide_eq_true e2
                rw [List.length_cons, hxl] at this
                omega
              obtain ⟨nm, rfl⟩ := one_of_len e2'
              cases hx with
              | @cons v1 vs1 _ _ h1 hx =>
              cases hx
              exact ⟨_, rfl, a, _, 1, _, rfl, rfl, SqT.of ha, atI_nat (j := 1) rfl, [], v1, nm, rfl, h1, hok nm (by simp), fun H1 k1 => q H1 k1⟩
            · refine qF (oneName_not fun h => e2 (decide_eq_true (by rw [List.length_cons, hxl, h]))) _ (Same.refl _)
          · exact cont fun z => g (beq_iff_eq.mpr z)
      · refine ⟨_, rfl, by show 3 ≤ sizeLine; decide, fun r hr => ⟨r, _, rfl, .inr (SqT.of upd_same), rfl, rfl, _, rfl, ?_⟩⟩
        have kr := same_new (o := .tup [V.str "end", .str "wait", .str "fail"]) hr
        show if inV (.str wd) ((["end", "wait", "fail"] : List PySem.Str).map V.str) = true then _ else _
        rw [inV_str]
        refine ite2 (fun e => ?_) (fun e => ?_)
        · have e' : wd ∈ (["end", "wait", "fail"] : List PySem.Str) := of_decide_eq_true e
          refine ⟨_, rfl, rfl, ?_⟩
          have q' := q _ kr
          rw [okT_end e'] at q'
          show Q (V.bl (decide (V.int ((V.str wd :: vs).length : Int) = V.int ((1 : Nat) : Int)))) _
          rw [dec_nat, List.length_cons, hxl]
          rw [decide_eq_decide.mpr (show rest.length = 0 ↔ rest.length + 1 = 1 by omega)] at q'
          exact q'
        · exact cont _ ⟨fun h => e (decide_eq_true h), kr⟩
    · refine ⟨_, rfl, _, rfl, rfl, _, rfl, ?_⟩
      rw [dec_str, (by decide +kernel : (wants false == ("function" : PySem.Str)) = false)]
      refine iteF ?_
      refine ⟨rfl, _, rfl, ?_⟩
      rw [dec_str]
      refine ite2 (fun e1 => ?_) (fun e1 => ?_)
      · have e1' : wd = "call" := beq_iff_eq.mp e1
        refine ⟨_, rfl, rfl, _, rfl, ?_⟩
        show if decide (V.int ((V.str wd :: vs).length : Int) = V.int ((4 : Nat) : Int)) = true then _ else _
        rw [dec_nat]
        refine ite2 (fun e2 => ?_) (fun e2 => ?_)
        · -- a call
          have e2' : rest.length = 3 := by
            have := of_decide_eq_true e2
            rw [List.length_cons, hxl] at this
            omega
          obtain ⟨nm, fs, ts, rfl⟩ := three e2'
          cases hx with
          | @cons v1 vs1 _ _ h1 hx =>
          cases hx with
          | @cons v2 vs2 _ _ h2 hx =>
          cases hx with
          | @cons v3 vs3 _ _ h3 hx =>
          cases hx
          have p2 := part_ok (ds := [.str wd, nm, fs, ts]) (d := fs) (by simp) hv hb hdp
          have p3 := part_ok (ds := [.str wd, nm, fs, ts]) (d := ts) (by simp) hv hb hdp
          have eC : okT (n + 1) false (.tuple [.str wd, nm, fs, ts]) = (isName nm && (allT n true fs && allT n false ts)) := by
            rw [e1']
            exact okT_call n nm fs ts
          rw [eC] at q
          refine ⟨_, rfl, a, _, 1, _, rfl, rfl, SqT.of ha, atI_nat (j := 1) rfl, [], v1, nm, rfl, h1, hok nm (by simp), fun H1 k1 => ⟨_, rfl, ite2 (fun e3 => ?_) (fun e3 => ?_)⟩⟩
          · refine ⟨_, rfl, a, _, 2, _, rfl, rfl, SqT.of (k1 _ _ ha), atI_nat (j := 2) rfl, [], v2, fs, true, rfl, h2.kp (Kp.of k1), p2.1, p2.2.1, p2.2.2.1, by omega, fun H2 k2 => ⟨_, rfl, ite2 (fun e4 => ?_) (fun e4 => ?_)⟩⟩
            · refine ⟨_, rfl, a, _, 3, _, rfl, rfl, SqT.of (k2 _ _ (k1 _ _ ha)), atI_nat (j := 3) rfl, [], v3, ts, false, rfl, h3.kp (Kp.of (k1.trans k2)), p3.1, p3.2.1, p3.2.2.1, by omega, fun H3 k3 => ?_⟩
              have q' := q H3 ((k1.trans k2).trans k3)
              rw [e3, e4] at q'
              exact q'
            · have q' := q H2 (k1.trans k2)
              rw [Bool.not_eq_true] at e4
              rw [e3, e4] at q'
              exact q'
          · have q' := q H1 k1
            rw [Bool.not_eq_true] at e3
            rw [e3] at q'
            exact q'
        · exact cont fun z => e2 (decide_eq_true (by rw [List.length_cons, hxl, z.2]))
      · exact cont fun z => e1 (beq_iff_eq.mpr z.1)
  · try dsimp only [tNext]
    show tSeq (tIfS _ _ _) _ _ _ _
    refine if_via (¬ (wd = "part" ∧ rest.length = 3)) (fun nC => ?_) (fun nx cont => ?_)
    · refine ⟨_, rfl, rfl, _, rfl, ?_⟩
      rw [dec_str, (by decide +kernel : (wants true == ("function" : PySem.Str)) = true)]
      refine iteT ?_
      refine ⟨_, rfl, rfl, _, rfl, ?_⟩
      rw [dec_str]
      refine ite2 (fun g => ?_) (fun g => ?_)
      · have g' : wd = "given" := beq_iff_eq.mp g
        subst g'
        rw [okT_given] at q qF
        refine ⟨_, rfl, rfl, _, rfl, ?_⟩
        show if decide (V.int ((V.str _ :: vs).length : Int) = V.int ((2 : Nat) : Int)) = true then _ else _
        rw [dec_nat]
        refine ite2 (fun e2 => ?_) (fun e2 => ?_)
        · have e2' : rest.length = 1 := by
            have := of_decide_eq_true e2
            rw [List.length_cons, hxl] at this
            omega
          obtain ⟨nm, rfl⟩ := one_of_len e2'
          cases hx with
          | @cons v1 vs1 _ _ h1 hx =>
          cases hx
          exact ⟨_, rfl, a, _, 1, _, rfl, rfl, SqT.of ha, atI_nat (j := 1) rfl, [], v1, nm, rfl, h1, hok nm (by simp), fun H1 k1 => q H1 k1⟩
        · refine qF (oneName_not fun h => e2 (decide_eq_true (by rw [List.length_cons, hxl, h]))) _ (Same.refl _)
      · exact qF (okT_noneT (fun z => g (beq_iff_eq.mpr z)) nC) _ (Same.refl _)
    · refine ⟨_, rfl, _, rfl, rfl, _, rfl, ?_⟩
      rw [dec_str, (by decide +kernel : (wants true == ("function" : PySem.Str)) = true)]
      refine iteT ?_
      refine ⟨rfl, _, rfl, ?_⟩
      rw [dec_str]
      refine ite2 (fun e1 => ?_) (fun e1 => ?_)
      · have e1' : wd = "part" := beq_iff_eq.mp e1
        refine ⟨_, rfl, rfl, _, rfl, ?_⟩
        show if decide (V.int ((V.str wd :: vs).length : Int) = V.int ((4 : Nat) : Int)) = true then _ else _
        rw [dec_nat]
        refine ite2 (fun e2 => ?_) (fun e2 => ?_)
        · -- a call
          have e2' : rest.length = 3 := by
            have := of_decide_eq_true e2
            rw [List.length_cons, hxl] at this
            omega
          obtain ⟨nm, fs, ts, rfl⟩ := three e2'
          cases hx with
          | @cons v1 vs1 _ _ h1 hx =>
          cases hx with
          | @cons v2 vs2 _ _ h2 hx =>
          cases hx with
          | @cons v3 vs3 _ _ h3 hx =>
          cases hx
          have p2 := part_ok (ds := [.str wd, nm, fs, ts]) (d := fs) (by simp) hv hb hdp
          have p3 := part_ok (ds := [.str wd, nm, fs, ts]) (d := ts) (by simp) hv hb hdp
          have eC : okT (n + 1) true (.tuple [.str wd, nm, fs, ts]) = (isName nm && (allT n true fs && allT n false ts)) := by
            rw [e1']
            exact okT_part n nm fs ts
          rw [eC] at q
          refine ⟨_, rfl, a, _, 1, _, rfl, rfl, SqT.of ha, atI_nat (j := 1) rfl, [], v1, nm, rfl, h1, hok nm (by simp), fun H1 k1 => ⟨_, rfl, ite2 (fun e3 => ?_) (fun e3 => ?_)⟩⟩
          · refine ⟨_, rfl, a, _, 2, _, rfl, rfl, SqT.of (k1 _ _ ha), atI_nat (j := 2) rfl, [], v2, fs, true, rfl, h2.kp (Kp.of k1), p2.1, p2.2.1, p2.2.2.1, by omega, fun H2 k2 => ⟨_, rfl, ite2 (fun e4 => ?_) (fun e4 => ?_)⟩⟩
            · refine ⟨_, rfl, a, _, 3, _, rfl, rfl, SqT.of (k2 _ _ (k1 _ _ ha)), atI_nat (j := 3) rfl, [], v3, ts, false, rfl, h3.kp (Kp.of (k1.trans k2)), p3.1, p3.2.1, p3.2.2.1, by omega, fun H3 k3 => ?_⟩
              have q' := q H3 ((k1.trans k2).trans k3)
              rw [e3, e4] at q'
              exact q'
            · have q' := q H2 (k1.trans k2)
              rw [Bool.not_eq_true] at e4
              rw [e3, e4] at q'
              exact q'
          · have q' := q H1 k1
            rw [Bool.not_eq_true] at e3
            rw [e3] at q'
            exact q'
        · exact cont fun z => e2 (decide_eq_true (by rw [List.length_cons, hxl, z.2]))
      · exact cont fun z => e1 (beq_iff_eq.mpr z.1)
theorem fnG_none {k : Nat} {f : Addr} {fd : FuncData} {ps : List PySem.Str} {sp : Sp} (h : ∀ vs H Q E, ¬ sp vs H Q E) : FnG P w K mg base k f fd ps sp := ⟨fun vs H Q E q => (h vs H Q E q).elim, fun A outer s H args us vs Q hgd hr e0 hb r q => (h _ _ _ _ q).elim⟩
theorem ok_tm (T : Txt K mg) : ∀ n : Nat, FnG P w K mg base (2 * n + 2) T.a_is_term T.d_is_term P_is_term (sp_gI n)
  | 0 => fnG_none fun vs H Q E h => by
    obtain ⟨_, _, d, _, _, _, _, _, _, h, _⟩ := h
    exact absurd h (Nat.not_lt_zero _)
  | n + 1 => ok_is_term_of T (ok_are_all_of T (ok_tm T n)) (ok_tm T n)
theorem ok_is_term (T : Txt K mg) : FnG P w K mg base 124 T.a_is_term T.d_is_term P_is_term (sp_gI 61) := ok_tm T 61
end
end K05
set_option Elab.async false
set_option Elab.async false
set_option linter.all false
/-! k05: the law's own reading of definitions. -/
namespace K05
open PySem PySem.Spec PyProof.Rows L2 Zg Zr Zd Zv
def P2 : PyData → Bool
  | .tuple [_, ar] => isAr ar
  | _ => false
def fst : PyData → PyData
  | .tuple (x :: _) => x
  | _ => .none
theorem isParam_P2 (d : PyData) : isParam d = (P2 d && isName (fst d)) := by
  cases d with
  | tuple ds =>
    match ds with
    | [] => rfl
    | [_] => rfl
    | [x, ar] => exact Bool.and_comm _ _
    | _ :: _ :: _ :: _ => rfl
  | _ => rfl
theorem nameOf_fst {d : PyData} (h : P2 d = true) (h2 : isName (fst d) = true) : nameOf d = nameOf (fst d) := by
  cases d with
  | tuple ds =>
    match ds, h, h2 with
    | [x, ar], _, h2 =>
      cases x with
      | str x => rfl
      | _ => cases h2
  | _ => cases h
theorem all_param (ps : List PyData) : ps.all isParam = (ps.all P2 && (ps.map fst).all isName) := by
  induction ps with
  | nil => rfl
  | cons d ps ih =>
    rw [List.all_cons, List.all_cons, List.map_cons, List.all_cons, ih, isParam_P2]
    cases P2 d <;> cases isName (fst d) <;> cases ps.all P2 <;> cases (ps.map fst).all isName <;> rfl
theorem isDef_eq (n : Nat) (ps ns : List PyData) (body : PyData) : isDef n (.tuple [.tuple ps, .tuple ns, body]) = (okT n false body && (ps.all P2 && ((ns ++ ps.map fst).all isName && decide (((ns ++ ps.map fst).map nameOf).Nodup)))) := by
  show (ps.all isParam && ns.all isName && decide ((ps.map nameOf ++ ns.map nameOf).Nodup) && okT n false body) = _
  rw [all_param, List.all_append]
  rcases bool2 (ps.all P2) with h1 | h1
  · rw [h1]
    cases okT n false body <;> rfl
  rcases bool2 ((ps.map fst).all isName) with h2 | h2
  · rw [h2]
    cases okT n false body <;> cases ns.all isName <;> cases ps.all P2 <;> rfl
  have e : ps.map nameOf = (ps.map fst).map nameOf := by
    rw [List.map_map]
    refine List.map_congr_left fun d hd => ?_
    exact nameOf_fst (List.all_eq_true.mp h1 d hd) (List.all_eq_true.mp h2 _ (List.mem_map.mpr ⟨d, hd, rfl⟩))
  have e2 : decide ((ps.map nameOf ++ ns.map nameOf).Nodup) = decide (((ns ++ ps.map fst).map nameOf).Nodup) := by
    refine decide_eq_decide.mpr ?_
    rw [e, List.map_append]
    exact List.Perm.nodup_iff List.perm_append_comm
  rw [h1, h2, e2]
  cases okT n false body <;> cases ns.all isName <;> cases decide (((ns ++ ps.map fst).map nameOf).Nodup) <;> rfl
theorem isDef_no {n : Nat} {f t b : PyData} (h : isA "tuple" f = false ∨ isA "tuple" t = false) : isDef n (.tuple [f, t, b]) = false := by
  show isDef3 n f t b = false
  rcases h with h | h
  · cases f with
    | tuple l => cases h
    | _ => rfl
  · cases t with
    | tuple l => cases h
    | _ => cases f <;> rfl
def sp_defG : Sp := fun vs H Q _ => ∃ (S : List Addr) (v : V) (d : PyData), vs = [v] ∧ Dv S H v d ∧ okv d = true ∧ d.bulk ≤ 300000 ∧ d.depth ≤ 60 ∧ ∀ (H' : Hp), Same H H' → Q (.bl (isDef 61 d)) H'
theorem same_put {H H' : Hp} {L : Addr} {o : HO} (k : Same H H') (n : H L = none) : Same H (upd H' L o) := fun c o eb => by
  rw [upd_ne (ne_of_none eb n)]
  exact k _ _ eb
section
variable {P : Program} {w : World} {K : PySem.W.Frag} {mg : PySem.Str → Option Value} {base : Heap}
theorem ok_w_is_definition (T : Txt K mg) : FnG P w K mg base 125 T.a_w_is_definition T.d_w_is_definition P_w_is_definition sp_defG := by
  refine okG T.F_w_is_definition sc_w_is_definition (fun vs H Q E h => by obtain ⟨S, v, d, rfl, _⟩ := h; rfl) (fun cdv A outer s H vs Q hgd hr h => ?_)
  refine ⟨_, (pss_cons (ps_if (PW.pt (pw_or (pt_not (pt_val (pe_callB call_isi (by rfl) T.n_isinstance (by decide +kernel) (pa_cons (pv 0) (pa_cons (pe_bltn (v := .ty "tuple") (u := .type "tuple") (by rfl) T.n_tuple (by decide +kernel) rfl) pa_nil))))) (pw_or (pt_cmpR op_ne (pe_callB call_len_seq (by rfl) T.n_len (by decide +kernel) (pa_cons (pv 0) pa_nil)) pe_int (nomark _)) (pw_or1 (pt_not (pt_val (pe_callB call_isi (by rfl) T.n_isinstance (by decide +kernel) (pa_cons (pe_ix ix_tup (pv 0) pe_int (fun _ _ => rfl)) (pa_cons (pe_bltn (v := .ty "tuple") (u := .type "tuple") (by rfl) T.n_tuple (by decide +kernel) rfl) pa_nil))))))))) (pss_one (ps_ret pe_bl)) pss_nil)
    (pss_cons (ps_if (PW.pt (pw_or (pt_not (pt_val (pe_callB call_isi (by rfl) T.n_isinstance (by decide +kernel) (pa_cons (pe_ix ix_tup (pv 0) pe_int (fun _ _ => rfl)) (pa_cons (pe_bltn (v := .ty "tuple") (u := .type "tuple") (by rfl) T.n_tuple (by decide +kernel) rfl) pa_nil))))) (pw_or1 (pt_not (pt_val (pe_callG (ok_is_term T) hgd (hr.mono (by decide)) (by rfl) T.g_is_term T.F_is_term.kp T.b_is_term .nil (pa_cons (pe_ix ix_tup (pv 0) pe_int (fun _ _ => rfl)) (pa_cons pe_str pa_nil)))))))) (pss_one (ps_ret pe_bl)) pss_nil)
    (pss_cons (ps_set (i := 1) sc_w_is_definition.nd rfl (Or.inl rfl) (pe_callTy call_list_of (by rfl) T.n_list (by decide +kernel) (pa_cons (pe_ix ix_tup (pv 0) pe_int (fun _ _ => rfl)) pa_nil)))
    (pss_cons (ps_for PassesOwn.never rfl (pi_tup (pe_ix ix_tup (pv 0) pe_int (fun _ _ => rfl))) (pg_name (i := 2) sc_w_is_definition.nd rfl (Or.inl rfl)) (pss_cons (ps_if (PW.pt (pw_or (pt_not (pt_val (pe_callB call_isi (by rfl) T.n_isinstance (by decide +kernel) (pa_cons (pv 2) (pa_cons (pe_bltn (v := .ty "tuple") (u := .type "tuple") (by rfl) T.n_tuple (by decide +kernel) rfl) pa_nil))))) (pw_or (pt_cmpR op_ne (pe_callB call_len_seq (by rfl) T.n_len (by decide +kernel) (pa_cons (pv 2) pa_nil)) pe_int (nomark _)) (pw_or1 (pt_cmpR op_notIn_seq (pe_callB (cr_reprV (S := []) hgd hr) (by rfl) T.n_repr (by decide +kernel) (pa_cons (pe_ix ix_tup (pv 2) pe_int (fun _ _ => rfl)) pa_nil)) (pe_tup (pa_cons pe_str (pa_cons pe_str pa_nil))) (by rfl)))))) (pss_one (ps_ret pe_bl)) pss_nil)
    (pss_one (ps_expr (pe_bm PySem.F.plainAttrs_list PySem.F.slot_list_append PySem.F.type_list_append mt_append (pv 1) (pa_cons (pe_ix ix_tup (pv 2) pe_int (fun _ _ => rfl)) pa_nil))))))
    (pss_cons (ps_if (pt_cmpR (op_neE (Nat.lt_of_le_of_lt (Nat.le_add_right _ 64) hr.units)) (pe_lc (own := [("name", 3)]) rfl sc_w_is_definition.nd (pi_list (pv 1)) (blkOk_by (own := [("name", 3)]) (N := N_w_is_definition) (sc := defScope s_w_is_definition) (by decide +kernel)) (fun _ _ _ _ _ => (pg_name (i := 3) sc_w_is_definition.nd rfl (Or.inl rfl))) (fun _ _ _ _ _ => (pts_one (pt_not (pt_val (pe_call (ok_w_is_name T) (hr.mono (by decide)) (by rfl) T.g_w_is_name T.F_w_is_name.kp T.b_w_is_name .nil pass0 (pa_cons (pv 3) pa_nil)))))) (fun _ _ _ _ _ => (pv 3))) (pe_lst pa_nil) (nomark _)) (pss_one (ps_ret pe_bl)) pss_nil)
    (pss_one (ps_ret (pe_cmpR op_eq (pe_callB call_len_seq (by rfl) T.n_len (by decide +kernel) (pa_cons (pv 1) pa_nil)) (Zq.pe_lenSetN rfl (by rfl) T.n_len (by rfl) T.n_set (pv 1)) (nomark _))))))))), ?_⟩
  obtain ⟨S, v, d, rfl, hd, hv, hb, hdp, q⟩ := h
  replace hd := hd.sub (S' := []) fun a h => nomatch h
  have qF : isDef 61 d = false → ∀ H', Same H H' → Q (.bl false) H' := fun e H' k => by
    have q' := q H' k
    rw [e] at q'
    exact q'
  refine ⟨_, rfl, v, .ty "tuple", _, _, _, rfl, .ty _, hd.ty, kit_all K _ (by decide) _ (tyD_mem d), ?_⟩
  rcases bool2 (isA "tuple" d) with et | et
  · have et' : isB "tuple" (tyD d) = false := et
    rw [et']
    refine ⟨_, rfl, iteT (iteT (qF ?_ H (Same.refl H)))⟩
    cases d with
    | tuple l => cases et
    | _ => rfl
  have et' : isB "tuple" (tyD d) = true := et
  rw [et']
  refine ⟨_, rfl, iteF ?_⟩
  obtain ⟨a, xs, ds, rfl, rfl, ha, _, hx⟩ := hd.tuple et
  obtain ⟨hl, hok⟩ := okv_tup hv
  have hxl := hx.length
  refine ⟨_, rfl, a, _, rfl, .inr (SqT.of ha), rfl, _, rfl, ?_⟩
  show if (!decide (V.int (xs.length : Int) = V.int ((3 : Nat) : Int))) = true then _ else _
  rw [dec_nat]
  by_cases h3 : xs.length = 3
  · rw [decide_eq_true h3]
    refine iteF ?_
    obtain ⟨fs, ts, body, rfl⟩ := three (hxl.symm.trans h3)
    have m0 := part_ok (ds := [fs, ts, body]) (d := fs) (by simp) hv hb hdp
    have m1 := part_ok (ds := [fs, ts, body]) (d := ts) (by simp) hv hb hdp
    have m2 := part_ok (ds := [fs, ts, body]) (d := body) (by simp) hv hb hdp
    cases hx with
    | @cons v0 vs0 _ _ h0 hx =>
    cases hx with
    | @cons v1 vs1 _ _ h1 hx =>
    cases hx with
    | @cons v2 vs2 _ _ h2 hx =>
    cases hx
    refine ⟨_, rfl, a, _, 0, _, rfl, rfl, SqT.of ha, atI_nat (j := 0) rfl, v0, .ty "tuple", _, _, _, rfl, .ty _, h0.ty, kit_all K _ (by decide) _ (tyD_mem fs), ?_⟩
    rcases bool2 (isA "tuple" fs) with ef | ef
    · have ef' : isB "tuple" (tyD fs) = false := ef
      rw [ef']
      exact ⟨_, rfl, iteT (qF (isDef_no (.inl ef)) H (Same.refl H))⟩
    have ef' : isB "tuple" (tyD fs) = true := ef
    rw [ef']
    refine ⟨_, rfl, iteF ?_⟩
    refine ⟨_, rfl, a, _, 1, _, rfl, rfl, SqT.of ha, atI_nat (j := 1) rfl, v1, .ty "tuple", _, _, _, rfl, .ty _, h1.ty, kit_all K _ (by decide) _ (tyD_mem ts), ?_⟩
    rcases bool2 (isA "tuple" ts) with eg | eg
    · have eg' : isB "tuple" (tyD ts) = false := eg
      rw [eg']
      exact ⟨_, rfl, iteT (iteT (qF (isDef_no (.inr eg)) H (Same.refl H)))⟩
    have eg' : isB "tuple" (tyD ts) = true := eg
    rw [eg']
    refine ⟨_, rfl, iteF ?_⟩
    obtain ⟨a0, xs0, ps, rfl, rfl, ha0, _, hx0⟩ := h0.tuple ef
    obtain ⟨l0, ok0⟩ := okv_tup m0.1
    obtain ⟨a1, xs1, ns, rfl, rfl, ha1, _, hx1⟩ := h1.tuple eg
    obtain ⟨l1, ok1⟩ := okv_tup m1.1
    rw [isDef_eq] at q qF
    refine ⟨_, rfl, a, _, 2, _, rfl, rfl, SqT.of ha, atI_nat (j := 2) rfl, [], v2, body, false, rfl, h2, m2.1, m2.2.1, m2.2.2.1, by omega, fun H1 k1 => ⟨_, rfl, ?_⟩⟩
    rcases bool2 (okT 61 false body) with eb | eb
    · rw [eb]
      refine iteT (qF ?_ H1 k1)
      rw [eb]
      rfl
    rw [eb]
    refine iteF ?_
    rw [eb, Bool.true_and] at q qF
    -- names
    refine ⟨_, rfl, a, _, 1, _, rfl, rfl, SqT.of (k1 _ _ ha), atI_nat (j := 1) rfl, a1, _, rfl, .inr (SqT.of (k1 _ _ ha1)), fun L hL => ?_⟩
    dsimp only [gName]
    have kL := same_new (o := .lst xs1) hL
    have hy0 : DvAll [L] (upd H1 L (.lst xs1)) xs1 ns := ((hx1.kp (Kp.of k1)).fresh hL).kp (Kp.new hL)
    have hp0 : DvAll [L] (upd H1 L (.lst xs1)) xs0 ps := ((hx0.kp (Kp.of k1)).fresh hL).kp (Kp.new hL)
    have hHL : (upd H1 L (.lst xs1)) L = some (.lst xs1) := upd_same
    have k2 := k1.trans kL
    have hHL0 : H L = none := (Kp.of (S := []) k1).free (fun m => nomatch m) hL
    generalize upd H1 L (.lst xs1) = H2 at hy0 hp0 hHL k2 ⊢
    refine ⟨_, rfl, a, _, 0, _, rfl, rfl, SqT.of (k2 _ _ ha), atI_nat (j := 0) rfl, a0, rfl, ⟨_, SqT.of (k2 _ _ ha0)⟩, ?_⟩
    refine for_tup (K := K) (a := a0) (xs := xs0) (fun i σ H' => ∃ (y2 y3 : Option V) (ys : List V), σ = [some (.ref a), some (.ref L), y2, y3] ∧ Same H H' ∧ Kp [L] H2 H' ∧ H' L = some (.lst ys) ∧ DvAll [L] H' ys (ns ++ (ps.take i).map fst) ∧ (ps.take i).all P2 = true)
      ⟨_, _, xs1, rfl, k2, Kp.refl _ _, hHL, by rw [List.take_zero, List.map_nil, List.append_nil]; exact hy0, rfl⟩ (fun i σ H' _ p => by obtain ⟨_, _, _, _, k, _⟩ := p; exact SqT.of (k _ _ ha0)) ?_ ?_
    · rintro i x σ H3 hi ⟨y2, y3, ys, rfl, k3, kk3, hL3, hy3, hP⟩
      obtain ⟨d, hdi, hdx⟩ := (hp0.kp kk3).get hi
      have hm := List.mem_of_getElem? hdi
      have no : P2 d = false → ∀ H', Same H3 H' → Q (.bl false) H' := fun e H' k => by
        refine qF ?_ H' (k3.trans k)
        have : ps.all P2 = false := by
          rw [List.all_eq_false]
          exact ⟨d, hm, by rw [e]; decide⟩
        rw [this]
        rfl
      have md := part_ok (ds := ps) hm m0.1 m0.2.1 m0.2.2.1
      refine ⟨_, rfl, x, .ty "tuple", _, _, _, rfl, .ty _, hdx.ty, kit_all K _ (by decide) _ (tyD_mem d), ?_⟩
      rcases bool2 (isA "tuple" d) with ed | ed
      · have ed' : isB "tuple" (tyD d) = false := ed
        rw [ed']
        refine ⟨_, rfl, iteT (iteT (no ?_ H3 (Same.refl H3)))⟩
        cases d with
        | tuple l => cases ed
        | _ => rfl
      have ed' : isB "tuple" (tyD d) = true := ed
      rw [ed']
      refine ⟨_, rfl, iteF ?_⟩
      obtain ⟨b, zs, es, rfl, rfl, hb0, nb, hz⟩ := hdx.tuple ed
      refine ⟨_, rfl, b, _, rfl, .inr (SqT.of hb0), rfl, _, rfl, ?_⟩
      show if (!decide (V.int (zs.length : Int) = V.int ((2 : Nat) : Int))) = true then _ else _
      rw [dec_nat]
      by_cases h2' : zs.length = 2
      · rw [decide_eq_true h2']
        refine iteF ?_
        obtain ⟨nm, ar, rfl⟩ := two_of (hz.length.symm.trans h2')
        have mr := part_ok (ds := [nm, ar]) (d := ar) (by simp) md.1 md.2.1 md.2.2.1
        cases hz with
        | @cons w0 ws0 _ _ z0 hz =>
        cases hz with
        | @cons w1 ws1 _ _ z1 hz =>
        cases hz
        refine ⟨_, rfl, b, _, 1, _, rfl, rfl, SqT.of hb0, atI_nat (j := 1) rfl, w1, ar, rfl, z1.sub (S' := []) (fun m h => absurd h (by simp)), (okv_short ar mr.1).2, mr.2.2.1, okv_fits mr.1 mr.2.1, by show 2 ≤ sizeLine; decide, fun r hr => ⟨r, _, rfl, .inr (SqT.of upd_same), rfl, rfl, _, rfl, ?_⟩⟩
        have kr := same_new (o := .tup [V.str "1", .str "2"]) hr
        show if (!inV (.str ar.shown) ((["1", "2"] : List PySem.Str).map V.str)) = true then _ else _
        rw [inV_str, shown_ar]
        have eP : P2 (.tuple [nm, ar]) = isAr ar := rfl
        rcases bool2 (isAr ar) with er | er
        · rw [er]
          exact iteT (no (eP.trans er) _ kr)
        rw [er]
        refine iteF ?_
        have rL : r ≠ L := fun z => by rw [z, hL3] at hr; cases hr
        have k4 := k3.trans kr
        refine ⟨_, rfl, .inl ⟨rfl, _, SqL.of (kr _ _ hL3)⟩, ?_⟩
        refine ⟨_, rfl, b, _, 0, _, rfl, rfl, SqT.of (kr _ _ hb0), atI_nat (j := 0) rfl, L, ys, w0, rfl, rfl, kr _ _ hL3, ?_, ?_⟩
        · have := hy3.length
          rw [List.length_append, List.length_map, List.length_take] at this
          rw [sizeLine_eq]
          omega
        · have kw : Kp [L] H3 (upd (upd H3 r (.tup [V.str "1", .str "2"])) L (.lst (ys ++ [w0]))) := (Kp.of kr).wr (.inl List.mem_cons_self)
          refine ⟨_, _, ys ++ [w0], rfl, same_put k4 hHL0, kk3.trans kw, upd_same, ?_, ?_⟩
          · rw [List.take_succ, hdi, List.map_append, ← List.append_assoc]
            exact (hy3.kp kw).append (.cons (z0.kp kw) .nil)
          · rw [List.take_succ, hdi, List.all_append, hP]
            show (true && (P2 _ && true)) = true
            rw [eP, er]
            rfl
      · rw [decide_eq_false h2']
        refine iteT (no ?_ H3 (Same.refl H3))
        have e9 := hz.length
        match es, e9 with
        | [], _ => rfl
        | [_], _ => rfl
        | [_, _], e9 => exact absurd e9 h2'
        | _ :: _ :: _ :: _, _ => rfl
    · rintro σ H3 ⟨y2, y3, ys, rfl, k3, kk3, hL3, hy3, hP⟩
      rw [hx0.length, List.take_length] at hy3 hP
      rw [hP, Bool.true_and] at q qF
      have hN : (ns ++ ps.map fst).length ≤ 2000 := by rw [List.length_append, List.length_map]; omega
      have okN : ∀ d ∈ ns ++ ps.map fst, okv d = true := fun d hd => by
        rcases List.mem_append.mp hd with hd | hd
        · exact ok1 d hd
        · obtain ⟨e, he, rfl⟩ := List.mem_map.mp hd
          have me := part_ok (ds := ps) he m0.1 m0.2.1 m0.2.2.1
          have p2 := List.all_eq_true.mp hP e he
          cases e with
          | tuple es =>
            match es, p2, me with
            | [x, ar], _, me => exact (okv_tup me.1).2 x (by simp)
          | _ => cases p2
      generalize ns ++ ps.map fst = N at hy3 q qF hN okN
      refine ⟨_, rfl, L, rfl, ⟨_, SqL.of hL3⟩, fun D hD => ?_⟩
      have nLD : L ≠ D := fun z => by rw [← z, hL3] at hD; cases hD
      refine lc_list (K := K) (a := L) (xs := ys) (fun i H' => ∃ zs : List V, Same H3 H' ∧ H' D = some (.lst zs) ∧ zs.length ≤ i ∧ zs.isEmpty = (N.take i).all isName) ⟨[], same_new hD, upd_same, Nat.le_refl _, rfl⟩ (fun i H' _ p => by obtain ⟨_, k, _⟩ := p; exact SqL.of (k _ _ hL3)) ?_ ?_
      · rintro i x H4 hi ⟨zs, k, hDl, hzl, hze⟩
        obtain ⟨d, hdi, hdx⟩ := hy3.get hi
        have hil := (List.getElem?_eq_some_iff.mp hi).1
        have hyl := hy3.length
        refine ⟨rfl, _, rfl, [L], x, d, rfl, hdx.kp (Kp.of k), okN d (List.mem_of_getElem? hdi), fun H5 k5 => ?_⟩
        refine ⟨_, rfl, ite2 (fun e => ?_) (fun e => ?_)⟩
        · refine ⟨_, rfl, zs, k5 _ _ hDl, by rw [sizeLine_eq]; omega, zs ++ [x], same_put (k.trans k5) hD, upd_same, by rw [List.length_append, List.length_singleton]; omega, ?_⟩
          have e' : isName d = false := by
            cases h : isName d
            · rfl
            · rw [h] at e; cases e
          rw [List.take_succ, hdi, List.all_append]
          show _ = (_ && (isName d && true))
          rw [e', Bool.false_and, Bool.and_false, List.isEmpty_eq_false_iff]
          simp
        · refine ⟨zs, k.trans k5, k5 _ _ hDl, by omega, ?_⟩
          have e' : isName d = true := by
            cases h : isName d
            · rw [h] at e; exact absurd rfl e
            · rfl
          rw [List.take_succ, hdi, List.all_append, hze]
          show _ = (_ && (isName d && true))
          rw [e', Bool.true_and, Bool.and_true]
      · rintro H4 ⟨zs, k, hDl, hzl, hze⟩
        rw [hy3.length, List.take_length] at hze
        refine ⟨by show 0 ≤ sizeLine; decide, fun p hp => ⟨D, p, zs, rfl, rfl, .inl ⟨SqL.of (same_new hp _ _ hDl), SqL.of upd_same⟩, _, rfl, ?_⟩⟩
        have kp := same_new (o := .lst []) hp
        have k5 := k3.trans (k.trans kp)
        show if (!zs.isEmpty) = true then _ else _
        rw [hze]
        rcases bool2 (N.all isName) with en | en
        · rw [en]
          refine iteT (qF ?_ _ k5)
          rw [en]
          rfl
        rw [en]
        refine iteF ?_
        rw [en, Bool.true_and] at q
        have hyn := names_of hy3 en
        have hL5 := kp _ _ (k _ _ hL3)
        refine ⟨_, rfl, L, _, rfl, .inl (SqL.of hL5), ?_⟩
        refine ⟨_, rfl, L, N.map nameOf, rfl, by rw [← hyn]; exact SqL.of hL5, by rw [List.length_map]; omega, ?_⟩
        refine ⟨rfl, ?_⟩
        have q' := q _ k5
        show Q (V.bl (decide (V.int (ys.length : Int) = V.int ((Zq.insAll (N.map nameOf)).length : Int)))) _
        have e9 : decide (ys.length = (Zq.insAll (N.map nameOf)).length) = decide ((N.map nameOf).Nodup) := by
          have h8 : ys.length = (N.map nameOf).length := by rw [List.length_map]; exact hy3.length
          rw [h8]
          exact decide_eq_decide.mpr (eq_comm.trans (Zq.insAll_all _))
        rw [dec_nat, e9]
        exact q'
  · rw [decide_eq_false h3]
    exact iteT (qF (isDef_three fun h => h3 (hxl.trans h)) H (Same.refl H))
end
end K05
set_option Elab.async false
set_option Elab.async false
/-! k05: definitions that are drawn. -/
namespace K05
open PySem PySem.Spec PyProof.Rows L2 Zg Zr Zd Zv
/-! ### a drawn definition -/
def pairK (d : PyData) : Prop := ∃ (x : PySem.Str) (i : Int), d = .tuple [.str x, .int i] ∧ Nm x ∧ i.natAbs < 10 ^ 40
def nameK (d : PyData) : Prop := ∃ x : PySem.Str, d = .str x ∧ Nm x
def DefV (S : List Addr) (H : Hp) (v : V) (d : PyData) : Prop := ∃ (a f t : Addr) (fl tl : List V) (vb : V) (fd td : List PyData) (db : PyData), v = .ref a ∧ H a = some (.tup [.ref f, .ref t, vb]) ∧ a ∉ S ∧ d = .tuple [.tuple fd, .tuple td, db] ∧
  H f = some (.tup fl) ∧ f ∉ S ∧ DvAll S H fl fd ∧ H t = some (.tup tl) ∧ t ∉ S ∧ DvAll S H tl td ∧ Gen S H vb db 3000 23 ∧ (∀ d ∈ fd, pairK d) ∧ (∀ d ∈ td, nameK d) ∧ fd.length ≤ 3 ∧ td.length ≤ 4
theorem DefV.kp {S : List Addr} {H H' : Hp} {v : V} {d : PyData} (h : DefV S H v d) (q : Kp S H H') : DefV S H' v d := by
  obtain ⟨a, f, t, fl, tl, vb, fd, td, db, e1, e2, e3, e4, e5, e6, e7, e8, e9, e10, e11, e12, e13, e14, e15⟩ := h
  exact ⟨a, f, t, fl, tl, vb, fd, td, db, e1, q _ _ e3 e2, e3, e4, q _ _ e6 e5, e6, e7.kp q, q _ _ e9 e8, e9, e10.kp q, e11.kp q, e12, e13, e14, e15⟩
theorem gen_pair {S : List Addr} {H : Hp} {v : V} {d : PyData} (h : Dv S H v d) (p : pairK d) : Gen S H v d 12 1 := by
  obtain ⟨x, i, rfl, hx, hi⟩ := p
  cases h with
  | @tup a xs ds ha na hx' =>
  cases hx' with
  | @cons v0 vs0 _ _ h0 hx' =>
  cases hx' with
  | @cons v1 vs1 _ _ h1 hx' =>
  cases hx'
  cases h0
  cases h1
  exact (Gen.tup (GenL.cons (Gen.nm hx) (Gen.int hi).one) ha na (by show 2 ≤ 400; decide)).mono (by decide) (by decide)
theorem gen_name {S : List Addr} {H : Hp} {v : V} {d : PyData} (h : Dv S H v d) (p : nameK d) : Gen S H v d 9 0 := by
  obtain ⟨x, rfl, hx⟩ := p
  cases h
  exact Gen.nm hx
theorem genL_of {S : List Addr} {H : Hp} {p : PyData → Prop} {k dp : Nat} (hp : ∀ v d, Dv S H v d → p d → Gen S H v d k dp) : ∀ {vs : List V} {ds : List PyData}, DvAll S H vs ds → (∀ d ∈ ds, p d) → GenL S H vs ds (k * ds.length) dp
  | _, _, .nil, _ => GenL.nil.mono (Nat.zero_le _) (Nat.zero_le _)
  | _, _, .cons h t, e => (GenL.cons (hp _ _ h (e _ List.mem_cons_self)) (genL_of hp t fun d m => e d (List.mem_cons_of_mem _ m))).mono (by rw [List.length_cons, Nat.mul_succ]; omega) (Nat.le_refl _)
theorem DefV.gen {S : List Addr} {H : Hp} {v : V} {d : PyData} (h : DefV S H v d) : Gen S H v d 3100 24 := by
  obtain ⟨a, f, t, fl, tl, vb, fd, td, db, rfl, e2, e3, rfl, e5, e6, e7, e8, e9, e10, e11, e12, e13, e14, e15⟩ := h
  have l1 := e7.length
  have l2 := e10.length
  have g1 := Gen.tup (genL_of (p := pairK) (fun _ _ => gen_pair) e7 e12) e5 e6 (by omega)
  have g2 := Gen.tup (genL_of (p := nameK) (fun _ _ => gen_name) e10 e13) e8 e9 (by omega)
  exact (Gen.tup (GenL.cons (g1.mono (Nat.le_refl _) (by decide : 2 ≤ 23)) (GenL.cons (g2.mono (Nat.le_refl _) (by decide : 1 ≤ 23)) e11.one)) e2 e3 (by show 3 ≤ 400; decide)).mono (by omega) (Nat.le_refl _)
theorem Wl.mono {w l : Addr} {C C' : Nat} {S : List Addr} {H : Hp} (h : Wl w l C S H) (q : C ≤ C') : Wl w l C' S H := ⟨h.well.mono q, h.trk, h.hw, h.hl⟩
theorem Wl.more {w l p : Addr} {C : Nat} {S : List Addr} {H : Hp} (h : Wl w l C S H) (n : H p ≠ none) : Wl w l C (p :: S) H := ⟨h.well, fun a m => by
  rcases List.mem_cons.mp m with e | m
  · exact e ▸ n
  · exact h.trk a m, List.mem_cons_of_mem _ h.hw, List.mem_cons_of_mem _ h.hl⟩
theorem Wl.fewer {w l p : Addr} {C C' : Nat} {S : List Addr} {H H' : Hp} (h : Wl w l C S H) (h' : Wl w l C' (p :: S) H') : Wl w l C' S H' := ⟨h'.well, fun a m => h'.trk a (List.mem_cons_of_mem _ m), h.hw, h.hl⟩
section
variable {P : Program} {w : World} {K : PySem.W.Frag} {mg : PySem.Str → Option Value} {base : Heap}
def sp_definition : Sp := fun vs H Q _ => ∃ (w l : Addr) (C : Nat) (S : List Addr) (v : V) (d : PyData), vs = [.ref w, v] ∧ Wl w l C S H ∧ C + 20 < LIM ∧ Gen S H v d 3000 23 ∧
  ∀ (H' : Hp) (v' : V) (d' : PyData), Kp [w, l] H H' → Wl w l (C + 10) S H' → DefV S H' v' d' → Q v' H'
theorem ok_definition (T : Txt K mg) : FnOk P w K mg base CX0 3 T.a_definition T.d_definition P_definition sp_definition := by
  refine T.F_definition.ok sc_definition (fun vs H Q E h => by obtain ⟨w, l, C, S, v, d, rfl, _⟩ := h; rfl) (fun cdv A outer s H vs Q E hr h => ?_)
  refine ⟨_, (pss_cons (ps_asg (pe_tup (pa_cons pe_str (pa_cons (pe_call (ok_drawn T) (hr.mono (by decide)) (by rfl) T.g_drawn T.F_drawn.kp T.b_drawn .nil pass0 (pa_cons (pv 0) (pa_cons pe_int pa_nil))) pa_nil))) (pg_tup (by rfl) (pgs_cons (pg_name (i := 2) sc_definition.nd rfl (Or.inr rfl)) (pgs_cons (pg_name (i := 3) sc_definition.nd rfl (Or.inr rfl)) pgs_nil))))
    (pss_cons (ps_asg (pe_tup (pa_cons (pe_call (ok_one_of T) (hr.mono (by decide)) (by rfl) T.g_one_of T.F_one_of.kp T.b_one_of .nil pass0 (pa_cons (pv 0) (pa_cons (pe_lst (pa_cons pe_str (pa_cons pe_str (pa_cons pe_str pa_nil)))) pa_nil))) (pa_cons (pe_call (ok_drawn T) (hr.mono (by decide)) (by rfl) T.g_drawn T.F_drawn.kp T.b_drawn .nil pass0 (pa_cons (pv 0) (pa_cons pe_int pa_nil))) (pa_cons (pe_call (ok_drawn T) (hr.mono (by decide)) (by rfl) T.g_drawn T.F_drawn.kp T.b_drawn .nil pass0 (pa_cons (pv 0) (pa_cons pe_int pa_nil))) pa_nil)))) (pg_tup (by rfl) (pgs_cons (pg_name (i := 4) sc_definition.nd rfl (Or.inr rfl)) (pgs_cons (pg_name (i := 5) sc_definition.nd rfl (Or.inl rfl)) (pgs_cons (pg_name (i := 6) sc_definition.nd rfl (Or.inl rfl)) pgs_nil)))))
    (pss_cons (ps_setLc (i := 7) (own := [("k", 8)]) rfl sc_definition.nd rfl rfl (sw_true rfl rfl rfl (by decide +kernel)) (pi_range1 (by rfl) T.n_range (pa_cons (pe_op op_add (pv 5) (pv 6)) pa_nil)) (blkOk_by (own := [("k", 8)]) (N := N_definition) (sc := defScope s_definition) (by decide +kernel)) (fun _ _ _ _ _ => (pg_name (i := 8) sc_definition.nd rfl (Or.inl rfl))) (fun _ _ _ _ _ => pts_nil) (fun _ _ _ _ _ => (pe_op op_add_str (pv 4) (pe_ix ix_str (pv 2) (pe_op op_mod (pe_callTy call_int1 (by rfl) T.n_int (by decide +kernel) (pa_cons (pe_op op_add (pv 3) (pe_op op_mul pe_int (pv 8))) pa_nil)) pe_int) (fun _ _ => rfl)))))
    (pss_cons (ps_setLc (i := 9) (own := [("name", 10)]) rfl sc_definition.nd rfl rfl (sw_true rfl rfl rfl (by decide +kernel)) (pi_list (pe_slice sl_list (pv 7) po_none (po_some (pv 5)))) (blkOk_by (own := [("name", 10)]) (N := N_definition) (sc := defScope s_definition) (by decide +kernel)) (fun _ _ _ _ _ => (pg_name (i := 10) sc_definition.nd rfl (Or.inl rfl))) (fun _ _ _ _ _ => pts_nil) (fun _ _ _ _ _ => (pe_tup (pa_cons (pv 10) (pa_cons (pe_op op_add pe_int (pe_call (ok_drawn T) (hr.mono (by decide)) (by rfl) T.g_drawn T.F_drawn.kp T.b_drawn .nil pass0 (pa_cons (pv 0) (pa_cons pe_int pa_nil)))) pa_nil)))))
    (pss_one (ps_ret (pe_tup (pa_cons (pe_callTy call_tuple_of (by rfl) T.n_tuple (by decide +kernel) (pa_cons (pv 9) pa_nil)) (pa_cons (pe_callTy call_tuple_of (by rfl) T.n_tuple (by decide +kernel) (pa_cons (pe_slice sl_list (pv 7) (po_some (pv 5)) po_none) pa_nil)) (pa_cons (pv 1) pa_nil)))))))))), ?_⟩
  obtain ⟨w, l, C, S, v, d, rfl, hW, hC, g, q⟩ := h
  refine ⟨_, rfl, w, l, 26, C, rfl, hW.well, by omega, by decide, by decide, fun H1 r1 k1 hW1 r10 r11 => ⟨by show 2 ≤ sizeLine; decide, fun p1 hp1 => ?_⟩⟩
  replace hW1 := hW.draw k1 hW1
  have hW1' := hW1.same (same_new (o := .tup [.str "abcdefghijklmnopqrstuvwxyz", .int r1]) hp1)
  refine ⟨p1, _, rfl, SqT.of upd_same, rfl, _, _, rfl, _, _, rfl, rfl, ?_⟩
  dsimp only [gName]
  generalize hHa : upd H1 p1 (.tup [.str "abcdefghijklmnopqrstuvwxyz", .int r1]) = Ha at hW1'
  have ka : Kp [w, l] H Ha := k1.trans (Kp.of (by rw [← hHa]; exact same_new hp1))
  clear hHa
  refine ⟨_, rfl, by show 3 ≤ sizeLine; decide, fun p2 hp2 => ?_⟩
  have np2 := hW1'.trk.out hp2
  have hW2 := hW1'.same (same_new (o := .lst [.str "", .str "op", .str "aaaaaaa"]) hp2)
  refine ⟨w, l, p2, [.str "", .str "op", .str "aaaaaaa"], C + 1, rfl, hW2.well, by omega, hW.out np2, SqL.of upd_same, by decide, by decide, fun H2 i hi k2 hW3 => ?_⟩
  obtain ⟨ld, er, r2, r3⟩ : ∃ x : PySem.Str, [V.str "", V.str "op", V.str "aaaaaaa"][i] = .str x ∧ x.length ≤ 7 ∧ PyData.strOk x = true := by
    have hi : i < 3 := hi
    rcases (show i = 0 ∨ i = 1 ∨ i = 2 by omega) with rfl | rfl | rfl
    · exact ⟨"", rfl, by decide +kernel, by decide +kernel⟩
    · exact ⟨"op", rfl, by decide +kernel, by decide +kernel⟩
    · exact ⟨"aaaaaaa", rfl, by decide +kernel, by decide +kernel⟩
  rw [er]
  replace hW3 := hW2.draw k2 hW3
  refine ⟨_, rfl, w, l, 4, C + 1 + 1, rfl, hW3.well, by omega, by decide, by decide, fun H3 mz k3 hW4 m0 m1 => ?_⟩
  replace hW4 := hW3.draw k3 hW4
  refine ⟨_, rfl, w, l, 5, C + 1 + 1 + 1, rfl, hW4.well, by omega, by decide, by decide, fun H4 ez k4 hW5 e0 e1 => ⟨by show 3 ≤ sizeLine; decide, fun p3 hp3 => ?_⟩⟩
  replace hW5 := hW4.draw k4 hW5
  have hW6 := hW5.same (same_new (o := .tup [.str ld, .int mz, .int ez]) hp3)
  refine ⟨p3, _, rfl, SqT.of upd_same, rfl, _, _, rfl, _, _, rfl, _, _, rfl, rfl, ?_⟩
  have kb : Kp [w, l] H (upd H4 p3 (.tup [.str ld, .int mz, .int ez])) := ka.trans ((Kp.of (same_new hp2)).trans (k2.trans (k3.trans (k4.trans (Kp.of (same_new hp3))))))
  dsimp only [gName]
  generalize upd H4 p3 (.tup [.str ld, .int mz, .int ez]) = Hb at hW6 kb ⊢
  obtain ⟨m, rfl⟩ := Int.eq_ofNat_of_zero_le m0
  obtain ⟨e, rfl⟩ := Int.eq_ofNat_of_zero_le e0
  have hm : m ≤ 3 := by omega
  have he : e ≤ 4 := by omega
  -- names
  refine ⟨_, rfl, _, rfl, _, _, rfl, rfl, _, rfl, by omega, by omega, fun D hD => ?_⟩
  refine lc_range (lo := 0) (n := ((m : Int) + (e : Int)).toNat) (fun i H' => ∃ zs : List PySem.Str, zs.length = i ∧ (∀ z ∈ zs, Nm z) ∧ H' D = some (.lst (zs.map V.str)) ∧ Same Hb H') ⟨[], rfl, (fun z hz => nomatch hz), upd_same, same_new hD⟩ ?_ ?_
  · rintro i H' hi ⟨zs, hzl, hz, hHD, k'⟩
    refine ⟨rfl, ?_⟩
    refine ⟨_, rfl, _, rfl, _, rfl, _, rfl, _, _, rfl, rfl, .inl ⟨by decide, by decide⟩, _, _, rfl, rfl, .inl ⟨_, rfl, _, _, rfl, rfl, (by show (0 : Int) < 26; decide), ?_⟩⟩
    have h26 := mod_in (a := r1 + 5 * (0 + (i : Int))) (m := 26) (by decide)
    obtain ⟨hi4, e4⟩ := atI_of (xs := ("abcdefghijklmnopqrstuvwxyz" : PySem.Str).cps.toList) (r := (r1 + 5 * (0 + (i : Int))) % 26) h26.1 (by rw [abc_len]; exact h26.2)
    have len1 : ((⟨#[("abcdefghijklmnopqrstuvwxyz" : PySem.Str).cps.toList[((r1 + 5 * (0 + (i : Int))) % 26).toNat]]⟩ : PySem.Str)).length = 1 := rfl
    refine ⟨_, _, _, rfl, rfl, by rw [sizeLine_eq]; decide +kernel, e4, _, _, rfl, rfl, by rw [len1, sizeLine_eq]; omega, zs.map V.str, hHD, by rw [List.length_map, sizeLine_eq]; omega, zs ++ [ld ++ ⟨#[("abcdefghijklmnopqrstuvwxyz" : PySem.Str).cps.toList[((r1 + 5 * (0 + (i : Int))) % 26).toNat]]⟩], ?_, ?_, ?_, same_put k' hD⟩
    · rw [List.length_append, List.length_singleton, hzl]
    · intro z hzm
      rcases List.mem_append.mp hzm with h | h
      · exact hz z h
      · rw [List.mem_singleton] at h
        subst h
        refine ⟨?_, ?_⟩
        · rw [strLen_append, len1]
          omega
        · have q2 := abc_ok _ (List.getElem_mem hi4)
          have q3 : ld.cps.all (· < 0x110000) = true := r3
          show (ld ++ _).cps.all (· < 0x110000) = true
          rw [PySem.Str.cps_append, Array.all_append, q3]
          simpa using q2
    · rw [upd_same, List.map_append]
      rfl
  rintro Hc ⟨zs, hzl, hz, hHD, kc⟩
  have hlz : zs.length = m + e := by omega
  have hW7 := hW6.same kc
  have kd := kb.trans (Kp.of kc)
  have nD : D ∉ S := hW6.trk.out hD
  have nDw := hW.out nD
  have hDb : Hb D = none := hD
  have nDw : D ∉ [w, l] := fun h => hW6.trk D (hW6.sub2 D h) hD
  dsimp only [gName]
  -- functions
  refine ⟨_, rfl, ?_⟩
  dsimp only [tNoPart]
  refine ⟨_, rfl, m, rfl, ?_⟩
  have hzm : m ≤ (zs.map V.str).length := by rw [List.length_map]; omega
  refine ⟨D, zs.map V.str, rfl, SqL.of hHD, fun p4 hp4 => ?_⟩
  rw [cut_to _ _ hzm, ← List.map_take]
  have hW8 := hW7.same (same_new (o := .lst ((zs.take m).map V.str)) hp4)
  have hHD8 := (same_new (o := .lst ((zs.take m).map V.str)) hp4) _ _ hHD
  have hp8 : (upd Hc p4 (.lst ((zs.take m).map V.str))) p4 = some (.lst ((zs.take m).map V.str)) := upd_same
  have ke := kd.trans (Kp.of (same_new (o := .lst ((zs.take m).map V.str)) hp4))
  have np4 := hW7.trk.out hp4
  generalize upd Hc p4 (.lst ((zs.take m).map V.str)) = He at hW8 hHD8 hp8 ke ⊢
  refine ⟨p4, rfl, ⟨_, SqL.of hp8⟩, fun D2 hD2 => ?_⟩
  have nD2 : D2 ∉ S := hW8.trk.out hD2
  have nD2w := hW.out nD2
  have np4w := hW.out np4
  have nDD2 : D ≠ D2 := fun z => by rw [← z, hHD8] at hD2; cases hD2
  have np42 : p4 ≠ D2 := fun z => by rw [← z, hp8] at hD2; cases hD2
  have hlt : (zs.take m).length = m := by rw [List.length_take]; omega
  refine lc_list (K := K) (a := p4) (xs := (zs.take m).map V.str) (fun i H' => ∃ (vs : List V) (ds : List PyData), vs.length = i ∧ H' D2 = some (.lst vs) ∧ Kp [w, l] He H' ∧ Wl w l (C + 4 + i) (D2 :: S) H' ∧ DvAll (D2 :: S) H' vs ds ∧ ∀ d ∈ ds, pairK d)
    ⟨[], [], rfl, upd_same, Kp.new hD2, (((hW8.same (same_new hD2)).more (by rw [upd_same]; exact fun z => nomatch z)).mono (by omega)), .nil, fun d m => nomatch m⟩ (fun i H' _ p => by obtain ⟨_, _, _, _, k, _⟩ := p; exact SqL.of (k _ _ np4w hp8)) ?_ ?_
  · rintro i x H5 hi ⟨vs, ds, hvl, hHD2, k5, hW5', hvs, hds⟩
    obtain ⟨z, rfl, hz2⟩ : ∃ z, x = .str z ∧ Nm z := by
      rw [List.getElem?_map] at hi
      cases h : (zs.take m)[i]? with
      | none => rw [h] at hi; cases hi
      | some z =>
        rw [h] at hi
        cases hi
        exact ⟨z, rfl, hz z (List.mem_of_mem_take (List.mem_of_getElem? h))⟩
    have him : i < m := by
      have := (List.getElem?_eq_some_iff.mp hi).1
      rw [List.length_map, hlt] at this
      exact this
    refine ⟨rfl, _, rfl, _, rfl, w, l, 2, C + 4 + i, rfl, hW5'.well, by omega, by decide, by decide, fun H6 r6 k6 hW6' r60 r61 => ?_⟩
    replace hW6' := hW5'.draw k6 hW6'
    refine ⟨_, _, rfl, rfl, by show 2 ≤ sizeLine; decide, fun p6 hp6 => ?_⟩
    have np6 := hW6'.trk.out hp6
    have hW9 := hW6'.same (same_new (o := .tup [.str z, .int (1 + r6)]) hp6)
    have hD6 := (same_new (o := .tup [.str z, .int (1 + r6)]) hp6) _ _ (k6 _ _ nD2w hHD2)
    have kw : Kp (D2 :: S) H5 (upd (upd H6 p6 (.tup [.str z, .int (1 + r6)])) D2 (.lst (vs ++ [.ref p6]))) := ((k6.sub hW5'.sub2).trans (Kp.of (same_new hp6))).wr (.inl List.mem_cons_self)
    have n62 : p6 ≠ D2 := fun e => np6 (e ▸ List.mem_cons_self)
    refine ⟨vs, hD6, by rw [sizeLine_eq]; omega, vs ++ [.ref p6], ds ++ [.tuple [.str z, .int (1 + r6)]], by rw [List.length_append, List.length_singleton, hvl], upd_same, ((k5.trans k6).trans (Kp.of (same_new hp6))).wr (.inr hD2), hW9.put nD2w, ?_, ?_⟩
    · exact (hvs.kp kw).append (.cons (.tup (by rw [upd_ne n62]; exact upd_same) np6 (.cons (.str z) (.cons (.int _) .nil))) .nil)
    · intro d hd
      rcases List.mem_append.mp hd with h | h
      · exact hds d h
      · rw [List.mem_singleton] at h
        exact ⟨z, 1 + r6, h, hz2, by omega⟩
  rintro H9 ⟨vs, ds, hvl, hHD2, k9, hW9, hvs, hds⟩
  rw [List.length_map, hlt] at hvl hW9
  dsimp only [gName]
  have hHD9 := k9 _ _ nDw hHD8
  refine ⟨_, rfl, D2, vs, rfl, .inl ⟨SqL.of hHD2, fun t1 ht1 => ?_⟩⟩
  have nt1 := hW9.trk.out ht1
  have kt1 := same_new (o := .tup vs) ht1
  refine ⟨_, rfl, _, rfl, m, rfl, ?_⟩
  dsimp only [tNoPart]
  refine ⟨D, zs.map V.str, rfl, SqL.of (kt1 _ _ hHD9), fun p5 hp5 => ?_⟩
  rw [cut_from _ _ hzm, ← List.map_drop]
  have kp5 := same_new (o := .lst ((zs.drop m).map V.str)) hp5
  refine ⟨p5, (zs.drop m).map V.str, rfl, .inl ⟨SqL.of upd_same, fun t2 ht2 => ?_⟩⟩
  have kt2 := same_new (o := .tup ((zs.drop m).map V.str)) ht2
  have nt2 := (((hW9.same kt1).same kp5)).trk.out ht2
  refine ⟨_, rfl, by show 3 ≤ sizeLine; decide, fun p hp => ?_⟩
  have kp := same_new (o := .tup [.ref t1, .ref t2, v]) hp
  have np := ((((hW9.same kt1).same kp5)).same kt2).trk.out hp
  have kz := kt1.trans (kp5.trans (kt2.trans kp))
  have cn : ∀ {a : Addr}, a ∉ D2 :: S → a ∉ S := fun h m => h (List.mem_cons_of_mem _ m)
  have kall := ((ke.trans k9).trans (Kp.of kz))
  have cs : ∀ a ∈ S, a ∈ D2 :: S := fun a m => List.mem_cons_of_mem _ m
  refine q _ (.ref p) (.tuple [.tuple ds, .tuple ((zs.drop m).map PyData.str), d]) kall ((hW.fewer (hW9.same kz)).mono (by omega)) ⟨p, t1, t2, vs, (zs.drop m).map V.str, v, ds, (zs.drop m).map PyData.str, d, rfl, upd_same, cn np, rfl, ?_, cn nt1, (hvs.sub cs).kp (Kp.of kz), ?_, cn nt2, ?_, g.kp (kall.sub hW.sub2), hds, ?_, ?_, ?_⟩
  · exact kp _ _ (kt2 _ _ (kp5 _ _ upd_same))
  · exact kp _ _ upd_same
  · have gs : ∀ (l : List PySem.Str) (H : Hp), DvAll S H (l.map V.str) (l.map PyData.str) := by
      intro l H
      induction l with
      | nil => exact .nil
      | cons x l ih => exact .cons (.str x) ih
    exact gs _ _
  · intro d hd
    obtain ⟨z, hz', rfl⟩ := List.mem_map.mp hd
    exact ⟨z, rfl, hz z (List.mem_of_mem_drop hz')⟩
  · rw [← hvs.length]
    omega
  · rw [List.length_map, List.length_drop]
    omega
end
end K05
set_option Elab.async false
/-! k05: a definition with a name twice. -/
namespace K05
open PySem PySem.Spec PyProof.Rows L2 Zg Zr Zd Zv
section
variable {K : PySem.W.Frag} {S : List Addr} {H : Hp} {Q : VK} {a b : Addr} {xs ys : List V}
theorem cat_any (tr : Trk S H) (ha : H a = some (.tup xs)) (na : a ∉ S) (hb : H b = some (.tup ys)) (nb : b ∉ S) (hl : xs.length + ys.length ≤ 10000) (q : ∀ (H' : Hp) (p : Addr), Same H H' → H' p = some (.tup (xs ++ ys)) → p ∉ S → Q (.ref p) H') : rCatA K (.ref a) (.ref b) H Q := by
  refine ⟨a, b, xs, ys, rfl, rfl, SqT.of ha, SqT.of hb, by rw [sizeLine_eq]; omega, fun z => ?_, fun _ z => ?_, fun _ _ p hp => ?_⟩
  · exact q H b (Same.refl H) (by rw [hb, z]; rfl) nb
  · exact q H a (Same.refl H) (by rw [ha, z, List.append_nil]) na
  · exact q _ p (same_new hp) upd_same (tr.out hp)
theorem sl_from (tr : Trk S H) (na : a ∉ S) (ha : H a = some (.tup xs)) {n : Int} {k : Nat} (hn : n = (k : Int)) (q : ∀ (H' : Hp) (p : Addr), Same H H' → H' p = some (.tup (xs.drop k)) → p ∉ S → Q (.ref p) H') : rSlA K (.ref a) (some n) none H Q :=
  slA_from hn ha fun H' p k hp h => q H' p k hp (by
    rcases h with rfl | h
    · exact na
    · exact tr.out h)
theorem sl_to (tr : Trk S H) (na : a ∉ S) (ha : H a = some (.tup xs)) {n : Int} {k : Nat} (hn : n = (k : Int)) (q : ∀ (H' : Hp) (p : Addr), Same H H' → H' p = some (.tup (xs.take k)) → p ∉ S → Q (.ref p) H') : rSlA K (.ref a) none (some n) H Q := by
  subst hn
  refine ⟨a, xs, rfl, SqT.of ha, fun hw => ?_, fun hw p hp => ?_⟩
  · have h1 := hw.2
    rw [HT.sIx_nat] at h1
    refine q H a (Same.refl H) ?_ na
    rw [List.take_of_length_le (by omega)]
    exact ha
  · refine q _ p (same_new hp) ?_ (tr.out hp)
    rw [upd_same]
    by_cases hk : k ≤ xs.length
    · rw [cut_to xs k hk]
    · refine absurd ⟨rfl, ?_⟩ hw
      rw [HT.sIx_nat]
      omega
end
theorem gen_bl {S : List Addr} {H : Hp} {b : Bool} : Gen S H (.bl b) (.bool b) 1 0 := ⟨.bl b, rfl, Nat.le_refl 1, Nat.le_refl 1, Nat.le_refl 0, rfl⟩
theorem strs_of {S : List Addr} {H : Hp} : ∀ {xs : List V} {ds : List PyData}, DvAll S H xs ds → (∀ d ∈ ds, nameK d) → xs = (ds.map nameOf).map V.str
  | _, _, .nil, _ => rfl
  | _, _, .cons h t, e => by
    rw [List.map_cons, List.map_cons, ← strs_of t fun d m => e d (List.mem_cons_of_mem _ m)]
    obtain ⟨x, rfl, _⟩ := e _ List.mem_cons_self
    cases h
    rfl
theorem pair_at {S : List Addr} {H : Hp} {v : V} {d : PyData} (h : Dv S H v d) (p : pairK d) : ∃ (a : Addr) (i : Int), v = .ref a ∧ H a = some (.tup [.str (nameOf d), .int i]) ∧ i.natAbs < 10 ^ 40 := by
  obtain ⟨x, i, rfl, hx, hi⟩ := p
  cases h with
  | @tup a xs ds ha na hx' =>
  cases hx' with
  | @cons v0 vs0 _ _ h0 hx' =>
  cases hx' with
  | @cons v1 vs1 _ _ h1 hx' =>
  cases hx'
  cases h0
  cases h1
  exact ⟨a, i, rfl, ha, hi⟩
theorem nm_pair {d : PyData} (p : pairK d) : Nm (nameOf d) := by
  obtain ⟨x, i, rfl, hx, hi⟩ := p
  exact hx
theorem nm_name {d : PyData} (p : nameK d) : Nm (nameOf d) := by
  obtain ⟨x, rfl, hx⟩ := p
  exact hx
section
variable {P : Program} {w : World} {K : PySem.W.Frag} {mg : PySem.Str → Option Value} {base : Heap}
def sp_named : Sp := fun vs H Q _ => ∃ (w l : Addr) (C : Nat) (S : List Addr) (v : V) (d : PyData), vs = [.ref w, v] ∧ Wl w l C S H ∧ C + 10 < LIM ∧ DefV S H v d ∧
  ∀ (H' : Hp) (v' : V) (d' : PyData), Kp [w, l] H H' → Wl w l (C + 5) S H' → Gen S H' v' d' 3200 24 → Q v' H'
theorem ok_named_twice (T : Txt K mg) : FnOk P w K mg base CX0 3 T.a_named_twice T.d_named_twice P_named_twice sp_named := by
  refine T.F_named_twice.ok sc_named_twice (fun vs H Q E h => by obtain ⟨w, l, C, S, v, d, rfl, _⟩ := h; rfl) (fun cdv A outer s H vs Q E hr h => ?_)
  refine ⟨_, (pss_cons (ps_asg (pv 1) (pg_tup (by rfl) (pgs_cons (pg_name (i := 2) sc_named_twice.nd rfl (Or.inl rfl)) (pgs_cons (pg_name (i := 3) sc_named_twice.nd rfl (Or.inl rfl)) (pgs_cons (pg_name (i := 4) sc_named_twice.nd rfl (Or.inl rfl)) pgs_nil)))))
    (pss_cons (ps_set (i := 5) sc_named_twice.nd rfl (Or.inl rfl) (pe_op op_cat (pe_lc (own := [("name", 6), ("arity", 7)]) rfl sc_named_twice.nd (pi_tup (pv 2)) (blkOk_by (own := [("name", 6), ("arity", 7)]) (N := N_named_twice) (sc := defScope s_named_twice) (by decide +kernel)) (fun _ _ _ _ _ => (show PG _ _ (gTup K 2 _) from (pg_tup (by rfl) (pgs_cons (pg_name (i := 6) sc_named_twice.nd rfl (Or.inl rfl)) (pgs_cons (pg_name (i := 7) sc_named_twice.nd rfl (Or.inl rfl)) pgs_nil))))) (fun _ _ _ _ _ => pts_nil) (fun _ _ _ _ _ => (pv 6))) (pe_callTy call_list_of (by rfl) T.n_list (by decide +kernel) (pa_cons (pv 3) pa_nil))))
    (pss_cons (ps_if (pt_cmpR (op_eqE (Nat.lt_of_le_of_lt (Nat.le_add_right _ 64) hr.units)) (pv 5) (pe_lst pa_nil) (nomark _)) (pss_one (ps_ret (pe_tup (pa_cons (pe_op op_catA (pv 2) (pe_tup (pa_cons (pe_tup (pa_cons pe_str (pa_cons (pe_call (ok_one_of T) (hr.mono (by decide)) (by rfl) T.g_one_of T.F_one_of.kp T.b_one_of .nil pass0 (pa_cons (pv 0) (pa_cons (pe_lst (pa_cons pe_int (pa_cons pe_int (pa_cons pe_bl (pa_cons pe_str (pa_cons pe_int pa_nil)))))) pa_nil))) pa_nil))) pa_nil))) (pa_cons (pv 3) (pa_cons (pv 4) pa_nil)))))) pss_nil)
    (pss_cons (ps_par (i := 6) (j := 8) (by rfl) sc_named_twice.nd rfl rfl (by decide) rfl rfl (pa_cons (pe_call (ok_one_of T) (hr.mono (by decide)) (by rfl) T.g_one_of T.F_one_of.kp T.b_one_of .nil pass0 (pa_cons (pv 0) (pa_cons (pv 5) pa_nil))) (pa_cons (pe_call (ok_drawn T) (hr.mono (by decide)) (by rfl) T.g_drawn T.F_drawn.kp T.b_drawn .nil pass0 (pa_cons (pv 0) (pa_cons (pe_callB call_len_seq (by rfl) T.n_len (by decide +kernel) (pa_cons (pv 5) pa_nil)) pa_nil))) pa_nil)) (by rfl))
    (pss_cons (ps_if (pt_cmpR op_lt (pv 8) (pe_callB call_len_seq (by rfl) T.n_len (by decide +kernel) (pa_cons (pv 2) pa_nil)) (nomark _)) (pss_cons (ps_set (i := 7) sc_named_twice.nd rfl (Or.inl rfl) (pe_call (ok_one_of T) (hr.mono (by decide)) (by rfl) T.g_one_of T.F_one_of.kp T.b_one_of .nil pass0 (pa_cons (pv 0) (pa_cons (pe_lst (pa_cons (pe_ix ix_tup (pe_ix ix_tup (pv 2) (pv 8) (fun _ _ => rfl)) pe_int (fun _ _ => rfl)) (pa_cons (pe_ix ix_tup (pe_ix ix_tup (pv 2) (pv 8) (fun _ _ => rfl)) pe_int (fun _ _ => rfl)) (pa_cons pe_int (pa_cons pe_int (pa_cons pe_bl (pa_cons pe_str pa_nil))))))) pa_nil))))
    (pss_one (ps_ret (pe_tup (pa_cons (pe_op op_catA (pe_op op_catA (pe_slice sl_tupA (pv 2) po_none (po_some (pv 8))) (pe_tup (pa_cons (pe_tup (pa_cons (pv 6) (pa_cons (pv 7) pa_nil))) pa_nil))) (pe_slice sl_tupA (pv 2) (po_some (pe_op op_add (pv 8) pe_int)) po_none)) (pa_cons (pv 3) (pa_cons (pv 4) pa_nil))))))) pss_nil)
    (pss_cons (ps_set (i := 8) sc_named_twice.nd rfl (Or.inl rfl) (pe_op op_sub (pv 8) (pe_callB call_len_seq (by rfl) T.n_len (by decide +kernel) (pa_cons (pv 2) pa_nil))))
    (pss_one (ps_ret (pe_tup (pa_cons (pv 2) (pa_cons (pe_op op_catA (pe_op op_catA (pe_slice sl_tupA (pv 3) po_none (po_some (pv 8))) (pe_tup (pa_cons (pv 6) pa_nil))) (pe_slice sl_tupA (pv 3) (po_some (pe_op op_add (pv 8) pe_int)) po_none)) (pa_cons (pv 4) pa_nil)))))))))))), ?_⟩
  obtain ⟨w, l, C, S, v, d, rfl, hW, hC, hV, q⟩ := h
  obtain ⟨a, f, t, fl, tl, vb, fd, td, db, rfl, ha, na, rfl, hf, nf, hfl, ht, nt, htl, hb, pf, pt, lf, lt⟩ := hV
  have s2 := hW.sub2
  refine ⟨_, rfl, a, _, rfl, SqT.of ha, rfl, _, _, rfl, _, _, rfl, _, _, rfl, rfl, ?_⟩
  dsimp only [gName]
  -- what the end is made of
  have fin : ∀ (H' : Hp) (fl' tl' : List V) (fd' td' : List PyData) (f' t' p : Addr) (C' : Nat), Kp [w, l] H H' → Wl w l C' S H' → C' ≤ C + 5 → H' f' = some (.tup fl') → f' ∉ S → GenL S H' fl' fd' 100 1 → fl'.length ≤ 100 → H' t' = some (.tup tl') → t' ∉ S → GenL S H' tl' td' 90 1 → tl'.length ≤ 100 → H' p = none → Q (.ref p) (upd H' p (.tup [.ref f', .ref t', vb])) := by
    intro H' fl' tl' fd' td' f' t' p C' k' hW' hC' hf' nf' gf' lf' ht' nt' gt' lt' hp
    have kp := same_new (o := .tup [.ref f', .ref t', vb]) hp
    refine q _ (.ref p) (.tuple [.tuple fd', .tuple td', db]) (k'.trans (Kp.of kp)) ((hW'.same kp).mono hC') ?_
    have g1 := (Gen.tup gf' hf' nf' (by omega)).kp (Kp.of kp)
    have g2 := (Gen.tup gt' ht' nt' (by omega)).kp (Kp.of kp)
    have g3 := hb.kp ((k'.trans (Kp.of kp)).sub s2)
    exact (Gen.tup (GenL.cons (g1.mono (Nat.le_refl _) (by decide : 2 ≤ 23)) (GenL.cons (g2.mono (Nat.le_refl _) (by decide : 2 ≤ 23)) g3.one)) upd_same (hW'.trk.out hp) (by show 3 ≤ 400; decide)).mono (by decide) (Nat.le_refl _)
  have l1 := hfl.length
  have l2 := htl.length
  have gF : ∀ (H' : Hp) (i : Nat), Kp [w, l] H H' → GenL S H' (fl.take i) (fd.take i) 36 1 ∧ GenL S H' (fl.drop i) (fd.drop i) 36 1 := fun H' i k => by
    refine ⟨(genL_of (p := pairK) (fun _ _ => gen_pair) ((hfl.kp (k.sub s2)).take i) fun d m => pf d (List.mem_of_mem_take m)).mono ?_ (Nat.le_refl _), (genL_of (p := pairK) (fun _ _ => gen_pair) ((hfl.kp (k.sub s2)).drop i) fun d m => pf d (List.mem_of_mem_drop m)).mono ?_ (Nat.le_refl _)⟩
    · rw [List.length_take]; omega
    · rw [List.length_drop]; omega
  have gT : ∀ (H' : Hp) (i : Nat), Kp [w, l] H H' → GenL S H' (tl.take i) (td.take i) 36 1 ∧ GenL S H' (tl.drop i) (td.drop i) 36 1 := fun H' i k => by
    refine ⟨(genL_of (p := nameK) (fun _ _ => gen_name) ((htl.kp (k.sub s2)).take i) fun d m => pt d (List.mem_of_mem_take m)).mono ?_ (Nat.zero_le _), (genL_of (p := nameK) (fun _ _ => gen_name) ((htl.kp (k.sub s2)).drop i) fun d m => pt d (List.mem_of_mem_drop m)).mono ?_ (Nat.zero_le _)⟩
    · rw [List.length_take]; omega
    · rw [List.length_drop]; omega
  have gF0 : ∀ (H' : Hp), Kp [w, l] H H' → GenL S H' fl fd 36 1 := fun H' k => by
    have := (gF H' 0 k).2
    rwa [List.drop_zero, List.drop_zero] at this
  have gT0 : ∀ (H' : Hp), Kp [w, l] H H' → GenL S H' tl td 36 1 := fun H' k => by
    have := (gT H' 0 k).2
    rwa [List.drop_zero, List.drop_zero] at this
  -- names
  refine ⟨_, rfl, f, rfl, ⟨_, SqT.of hf⟩, fun D hD => ?_⟩
  refine lc_tup (K := K) (a := f) (xs := fl) (fun i H' => Same H H' ∧ H' D = some (.lst (((fd.take i).map nameOf).map V.str))) ⟨same_new hD, upd_same⟩ (fun i H' _ p => SqT.of (p.1 _ _ hf)) ?_ ?_
  · rintro i x H1 hi ⟨k, hDl⟩
    obtain ⟨d, hdi, hdx⟩ := hfl.get hi
    obtain ⟨b, j, rfl, hb', _⟩ := pair_at (hdx.kp (Kp.of k)) (pf d (List.mem_of_getElem? hdi))
    refine ⟨b, _, rfl, SqT.of hb', rfl, _, _, rfl, _, _, rfl, rfl, rfl, _, rfl, _, hDl, ?_, ?_, ?_⟩
    · rw [List.length_map, List.length_map, List.length_take, sizeLine_eq]
      omega
    · exact same_put k hD
    · rw [upd_same, List.take_succ, hdi, List.map_append, List.map_append]
      rfl
  rintro H1 ⟨k1, hD1⟩
  rw [l1, List.take_length] at hD1
  refine ⟨_, rfl, t, tl, rfl, .inr (SqT.of (k1 _ _ ht)), fun L hL => ?_⟩
  have kL := same_new (o := .lst tl) hL
  refine ⟨D, L, _, _, rfl, rfl, kL _ _ hD1, upd_same, by rw [List.length_map, List.length_map, sizeLine_eq]; omega, fun M hM => ?_⟩
  have kM := same_new (o := .lst (((fd.map nameOf).map V.str) ++ tl)) hM
  have kN := (k1.trans kL).trans kM
  have hWN := hW.same kN
  have nM := ((hW.same k1).same kL).trk.out hM
  have hMM : (upd (upd H1 L (.lst tl)) M (.lst (((fd.map nameOf).map V.str) ++ tl))) M = some (.lst ((fd.map nameOf ++ td.map nameOf).map V.str)) := by
    rw [upd_same, List.map_append, ← strs_of htl pt]
  have hNm : ∀ z ∈ fd.map nameOf ++ td.map nameOf, Nm z := fun z hz => by
    rcases List.mem_append.mp hz with h | h
    · obtain ⟨d, hd, rfl⟩ := List.mem_map.mp h
      exact nm_pair (pf d hd)
    · obtain ⟨d, hd, rfl⟩ := List.mem_map.mp h
      exact nm_name (pt d hd)
  have hNl : (fd.map nameOf ++ td.map nameOf).length = fd.length + td.length := by rw [List.length_append, List.length_map, List.length_map]
  dsimp only [gName]
  generalize upd (upd H1 L (.lst tl)) M (.lst (((fd.map nameOf).map V.str) ++ tl)) = H2 at kN hWN hMM ⊢
  generalize fd.map nameOf ++ td.map nameOf = N at hMM hNm hNl
  refine ⟨_, rfl, by show 0 ≤ sizeLine; decide, fun p0 hp0 => ⟨M, p0, _, rfl, rfl, .inl ⟨SqL.of ((same_new hp0) _ _ hMM), SqL.of upd_same⟩, _, rfl, ?_⟩⟩
  have k3 := same_new (o := .lst []) hp0
  have hW3 := hWN.same k3
  have kH3 := kN.trans k3
  have hM3 := k3 _ _ hMM
  generalize upd H2 p0 (.lst []) = H3 at k3 hW3 kH3 hM3 ⊢
  show if (N.map V.str).isEmpty = true then _ else _
  refine ite2 (fun e => ?_) (fun e => ?_)
  · -- no names
    refine ⟨_, rfl, ?_⟩
    refine ⟨_, rfl, by show 5 ≤ sizeLine; decide, fun p1 hp1 => ?_⟩
    have np1 := hW3.trk.out hp1
    have hW4 := hW3.same (same_new (o := .lst [.int 0, .int 3, .bl true, .str "1", .int 1]) hp1)
    refine ⟨w, l, p1, [.int 0, .int 3, .bl true, .str "1", .int 1], C, rfl, hW4.well, by omega, hW.out np1, SqL.of upd_same, by decide, by decide, fun H5 i hi k5 hW5 => ?_⟩
    obtain ⟨d5, g5⟩ : ∃ d5, Gen S H5 ([V.int 0, V.int 3, V.bl true, V.str "1", V.int 1][i]) d5 2 0 := by
      have hi : i < 5 := hi
      rcases (show i = 0 ∨ i = 1 ∨ i = 2 ∨ i = 3 ∨ i = 4 by omega) with rfl | rfl | rfl | rfl | rfl
      · exact ⟨_, (Gen.int (by decide)).mono (by decide) (Nat.le_refl _)⟩
      · exact ⟨_, (Gen.int (by decide)).mono (by decide) (Nat.le_refl _)⟩
      · exact ⟨_, gen_bl.mono (by decide) (Nat.le_refl _)⟩
      · exact ⟨_, Gen.str (x := "1") (n := 1) (by decide +kernel) (by decide +kernel) (by decide)⟩
      · exact ⟨_, (Gen.int (by decide)).mono (by decide) (Nat.le_refl _)⟩
    generalize [V.int 0, V.int 3, V.bl true, V.str "1", V.int 1][i] = v5 at g5 ⊢
    replace hW5 := hW4.draw k5 hW5
    refine ⟨by show 2 ≤ sizeLine; decide, fun p2 hp2 => ⟨by show 1 ≤ sizeLine; decide, fun p3 hp3 => ?_⟩⟩
    have k6 := same_new (o := .tup [.str "a", v5]) hp2
    have np2 := hW5.trk.out hp2
    have hW6 := hW5.same k6
    have k7 := same_new (o := .tup [.ref p2]) hp3
    have np3 := hW6.trk.out hp3
    have hW7 := hW6.same k7
    have g6 := Gen.tup (GenL.cons (Gen.str (S := S) (x := "a") (n := 1) (by decide +kernel) (by decide +kernel) (by decide)) (g5.kp (Kp.of k6)).one) upd_same np2 (by show 2 ≤ 400; decide)
    have kk : Kp [w, l] H _ := (((Kp.of kH3).trans (Kp.of (same_new (o := .lst [.int 0, .int 3, .bl true, .str "1", .int 1]) hp1))).trans k5).trans (Kp.of (k6.trans k7))
    refine cat_any (S := S) hW7.trk ((kk _ _ (hW.out nf) hf)) nf upd_same np3 (by show fl.length + 1 ≤ 10000; omega) fun H8 p8 k8 hp8 np8 => ?_
    have k9 := kk.trans (Kp.of k8)
    refine ⟨_, rfl, _, rfl, by show 3 ≤ sizeLine; decide, fun p hp => ?_⟩
    exact fin H8 _ _ _ _ p8 t p (C + 1) k9 (hW7.same k8) (by omega) hp8 np8 (((gF0 H8 k9).append (g6.kp ((Kp.of k7).trans (Kp.of k8))).one).mono (by decide) (Nat.le_refl _)) (by rw [List.length_append, List.length_singleton]; omega) (k9 _ _ (hW.out nt) ht) nt ((gT0 H8 k9).mono (by decide) (Nat.le_refl _)) (by omega) hp
  have hN0 : 0 < N.length := by
    cases N with
    | nil => exact absurd rfl e
    | cons x N => exact Nat.succ_pos _
  refine ⟨_, rfl, _, rfl, w, l, M, N.map V.str, C, rfl, hW3.well, by omega, hW.out nM, SqL.of hM3, by rw [List.length_map]; exact hN0, by rw [List.length_map]; omega, fun H4 i hi k4 hW4 => ?_⟩
  replace hW4 := hW3.draw k4 hW4
  rw [List.length_map] at hi
  rw [List.getElem_map]
  have hnm := hNm _ (List.getElem_mem hi)
  generalize N[i] = z at hnm ⊢
  have hM4 := k4 _ _ (hW.out nM) hM3
  refine ⟨_, rfl, _, rfl, M, _, rfl, .inl (SqL.of hM4), w, l, ((N.map V.str).length : Nat), C + 1, rfl, hW4.well, by omega, by rw [List.length_map]; omega, by rw [List.length_map]; omega, fun H5 at' k5 hW5 a0 a1 => ?_⟩
  replace hW5 := hW4.draw k5 hW5
  rw [List.length_map] at a1
  obtain ⟨j, rfl⟩ := Int.eq_ofNat_of_zero_le a0
  have hj : j < fd.length + td.length := by omega
  have kH5 := ((Kp.of (S := [w, l]) kH3).trans k4).trans k5
  have hf5 := kH5 _ _ (hW.out nf) hf
  have ht5 := kH5 _ _ (hW.out nt) ht
  refine ⟨_, _, rfl, ?_⟩
  refine ⟨_, rfl, _, rfl, f, _, rfl, .inr (SqT.of hf5), _, _, rfl, rfl, _, rfl, ite2 (fun e2 => ?_) (fun e2 => ?_)⟩
  · -- a function
    have e2' : j < fl.length := by
      have := of_decide_eq_true e2
      omega
    have hjd : j < fd.length := by omega
    obtain ⟨dj, hdj, hvj⟩ := (hfl.kp (kH5.sub s2)).get (List.getElem?_eq_getElem e2')
    obtain ⟨bj, ij, evj, hbj, hij⟩ := pair_at hvj (pf dj (List.mem_of_getElem? hdj))
    have hat : atI fl (j : Int) = some (.ref bj) := by rw [← evj]; exact atI_nat (j := j) (List.getElem?_eq_getElem e2')
    refine ⟨_, rfl, _, rfl, _, rfl, f, fl, (j : Int), _, rfl, rfl, SqT.of hf5, hat, bj, _, 1, _, rfl, rfl, SqT.of hbj, atI_nat (j := 1) rfl, _, rfl, _, rfl, f, fl, (j : Int), _, rfl, rfl, SqT.of hf5, hat, bj, _, 1, _, rfl, rfl, SqT.of hbj, atI_nat (j := 1) rfl, by show 6 ≤ sizeLine; decide, fun p1 hp1 => ?_⟩
    have np1 := hW5.trk.out hp1
    have k6 := same_new (o := .lst [.int ij, .int ij, .int 0, .int 3, .bl true, .str "1"]) hp1
    have hW6 := hW5.same k6
    refine ⟨w, l, p1, [.int ij, .int ij, .int 0, .int 3, .bl true, .str "1"], C + 1 + 1, rfl, hW6.well, by omega, hW.out np1, SqL.of upd_same, by show 0 < 6; decide, by show 6 ≤ 1000000; decide, fun H7 i hi k7 hW7 => ?_⟩
    obtain ⟨d5, g5⟩ : ∃ d5, Gen S H7 ([V.int ij, V.int ij, V.int 0, V.int 3, V.bl true, V.str "1"][i]) d5 2 0 := by
      have hi : i < 6 := hi
      rcases (show i = 0 ∨ i = 1 ∨ i = 2 ∨ i = 3 ∨ i = 4 ∨ i = 5 by omega) with rfl | rfl | rfl | rfl | rfl | rfl
      · exact ⟨_, (Gen.int hij).mono (by decide) (Nat.le_refl _)⟩
      · exact ⟨_, (Gen.int hij).mono (by decide) (Nat.le_refl _)⟩
      · exact ⟨_, (Gen.int (by decide)).mono (by decide) (Nat.le_refl _)⟩
      · exact ⟨_, (Gen.int (by decide)).mono (by decide) (Nat.le_refl _)⟩
      · exact ⟨_, gen_bl.mono (by decide) (Nat.le_refl _)⟩
      · exact ⟨_, Gen.str (x := "1") (n := 1) (by decide +kernel) (by decide +kernel) (by decide)⟩
    generalize [V.int ij, V.int ij, V.int 0, V.int 3, V.bl true, V.str "1"][i] = v5 at g5 ⊢
    replace hW7 := hW6.draw k7 hW7
    have kH7 := (kH5.trans (Kp.of k6)).trans k7
    dsimp only [gName]
    refine ⟨_, rfl, ?_⟩
    dsimp only [tNoPart]
    refine ⟨_, rfl, (j : Int), rfl, ?_⟩
    refine sl_to (S := S) (K := K) hW7.trk nf (kH7 _ _ (hW.out nf) hf) rfl fun H8 q8 k8 hq8 nq8 => ?_
    have hW8 := hW7.same k8
    refine ⟨_, rfl, _, rfl, by show 2 ≤ sizeLine; decide, fun p2 hp2 => ⟨by show 1 ≤ sizeLine; decide, fun p3 hp3 => ?_⟩⟩
    have k9 := same_new (o := .tup [.str z, v5]) hp2
    have np2 := hW8.trk.out hp2
    have hW9 := hW8.same k9
    have k10 := same_new (o := .tup [.ref p2]) hp3
    have np3 := hW9.trk.out hp3
    have hW10 := hW9.same k10
    have g6 := Gen.tup (GenL.cons (Gen.nm (S := S) hnm) ((g5.kp (Kp.of k8)).kp (Kp.of k9)).one) upd_same np2 (by show 2 ≤ 400; decide)
    refine cat_any (S := S) hW10.trk (k10 _ _ (k9 _ _ hq8)) nq8 upd_same np3 (by rw [List.length_take]; show min j fl.length + 1 ≤ 10000; omega) fun H11 q11 k11 hq11 nq11 => ?_
    have kH11 := (((kH7.trans (Kp.of k8)).trans (Kp.of k9)).trans (Kp.of k10)).trans (Kp.of k11)
    have hW11 := hW10.same k11
    refine ⟨_, rfl, ?_⟩
    refine ⟨_, rfl, _, _, rfl, rfl, _, rfl, ?_⟩
    dsimp only [tNoPart]
    refine sl_from (S := S) (K := K) (k := j + 1) hW11.trk nf (kH11 _ _ (hW.out nf) hf) rfl fun H12 q12 k12 hq12 nq12 => ?_
    have hW12 := hW11.same k12
    refine cat_any (S := S) hW12.trk (k12 _ _ hq11) nq11 hq12 nq12 (by rw [List.length_append, List.length_take, List.length_drop]; show min j fl.length + 1 + _ ≤ 10000; omega) fun H13 q13 k13 hq13 nq13 => ?_
    have kH13 := (kH11.trans (Kp.of k12)).trans (Kp.of k13)
    refine ⟨_, rfl, _, rfl, by show 3 ≤ sizeLine; decide, fun p hp => ?_⟩
    exact fin H13 _ _ _ _ q13 t p (C + 3) kH13 (hW12.same k13) (by omega) hq13 nq13 (((((gF H13 j kH13).1).append (g6.kp (((Kp.of k10).trans (Kp.of k11)).trans ((Kp.of k12).trans (Kp.of k13)))).one).append ((gF H13 (j + 1) kH13).2)).mono (by decide) (Nat.le_refl _)) (by rw [List.length_append, List.length_append, List.length_take, List.length_drop, List.length_singleton]; omega) (kH13 _ _ (hW.out nt) ht) nt ((gT0 H13 kH13).mono (by decide) (Nat.le_refl _)) (by omega) hp
  · -- a task
    have e2' : fl.length ≤ j := by
      have := of_decide_eq_false (Bool.eq_false_iff.mpr e2)
      omega
    obtain ⟨m, rfl⟩ := Nat.exists_eq_add_of_le e2'
    refine ⟨_, rfl, _, rfl, f, _, rfl, .inr (SqT.of hf5), _, _, rfl, rfl, ?_⟩
    dsimp only [gName]
    have em : ((fl.length + m : Nat) : Int) - (fl.length : Int) = (m : Nat) := by omega
    rw [em]
    refine ⟨_, rfl, _, rfl, ?_⟩
    dsimp only [tNoPart]
    refine ⟨_, rfl, (m : Int), rfl, ?_⟩
    refine sl_to (S := S) (K := K) hW5.trk nt ht5 rfl fun H8 q8 k8 hq8 nq8 => ?_
    have hW8 := hW5.same k8
    refine ⟨_, rfl, by show 1 ≤ sizeLine; decide, fun p3 hp3 => ?_⟩
    have k10 := same_new (o := .tup [.str z]) hp3
    have np3 := hW8.trk.out hp3
    have hW10 := hW8.same k10
    refine cat_any (S := S) hW10.trk (k10 _ _ hq8) nq8 upd_same np3 (by rw [List.length_take]; show min m tl.length + 1 ≤ 10000; omega) fun H11 q11 k11 hq11 nq11 => ?_
    have kH11 := ((kH5.trans (Kp.of k8)).trans (Kp.of k10)).trans (Kp.of k11)
    have hW11 := hW10.same k11
    refine ⟨_, rfl, ?_⟩
    refine ⟨_, rfl, _, _, rfl, rfl, _, rfl, ?_⟩
    dsimp only [tNoPart]
    refine sl_from (S := S) (K := K) (k := m + 1) hW11.trk nt (kH11 _ _ (hW.out nt) ht) rfl fun H12 q12 k12 hq12 nq12 => ?_
    have hW12 := hW11.same k12
    refine cat_any (S := S) hW12.trk (k12 _ _ hq11) nq11 hq12 nq12 (by rw [List.length_append, List.length_take, List.length_drop]; show min m tl.length + 1 + _ ≤ 10000; omega) fun H13 q13 k13 hq13 nq13 => ?_
    have kH13 := (kH11.trans (Kp.of k12)).trans (Kp.of k13)
    refine ⟨_, rfl, by show 3 ≤ sizeLine; decide, fun p hp => ?_⟩
    exact fin H13 _ _ _ _ f q13 p (C + 2) kH13 (hW12.same k13) (by omega) (kH13 _ _ (hW.out nf) hf) nf ((gF0 H13 kH13).mono (by decide) (Nat.le_refl _)) (by omega) hq13 nq13 (((((gT H13 m kH13).1).append ((Gen.nm hnm).mono (Nat.le_refl _) (Nat.zero_le 1)).one).append ((gT H13 (m + 1) kH13).2)).mono (by decide) (Nat.le_refl _)) (by rw [List.length_append, List.length_append, List.length_take, List.length_drop, List.length_singleton]; omega) hp
end
end K05
/-! k05: values with something otherwise. -/
namespace K05
open PySem PySem.Spec PyProof.Rows L2 Zg Zr Zd Zv
mutual
theorem sz_bulk : ∀ d : PyData, sz d ≤ d.bulk + 1
  | .list xs => Nat.succ_le_succ (szAll_bulk xs)
  | .tuple xs => Nat.succ_le_succ (szAll_bulk xs)
  | .none => Nat.succ_le_succ (Nat.zero_le _)
  | .bool _ => Nat.succ_le_succ (Nat.zero_le _)
  | .int _ => Nat.succ_le_succ (Nat.zero_le _)
  | .str _ => Nat.succ_le_succ (Nat.zero_le _)
  | .dict _ => Nat.succ_le_succ (Nat.zero_le _)
theorem szAll_bulk : ∀ l : List PyData, szAll l ≤ PyData.bulkAll l
  | [] => Nat.le_refl 0
  | x :: l => by
    have h1 := sz_bulk x
    have h2 := szAll_bulk l
    show sz x + szAll l ≤ x.bulk + 1 + PyData.bulkAll l
    omega
end
theorem depthAll_le {l : List PyData} {n : Nat} (h : ∀ d ∈ l, d.depth ≤ n) : PyData.depthAll l ≤ n := by
  induction l with
  | nil => exact Nat.zero_le _
  | cons x l ih =>
    have h1 := h x List.mem_cons_self
    have h2 := ih fun d m => h d (List.mem_cons_of_mem _ m)
    show max x.depth (PyData.depthAll l) ≤ n
    omega
theorem bulkAll_split (l : List PyData) (j : Nat) : PyData.bulkAll l = PyData.bulkAll (l.take j) + PyData.bulkAll (l.drop j) := by
  rw [← bulkAll_append, List.take_append_drop]
theorem bulkAll_drop {l : List PyData} {j : Nat} {d : PyData} (h : l[j]? = some d) : PyData.bulkAll (l.drop j) = d.bulk + 1 + PyData.bulkAll (l.drop (j + 1)) := by
  obtain ⟨hj, rfl⟩ := List.getElem?_eq_some_iff.mp h
  rw [List.drop_eq_getElem_cons hj]
  rfl
theorem bulkAll_reverse (l : List PyData) : PyData.bulkAll l.reverse = PyData.bulkAll l := by
  induction l with
  | nil => rfl
  | cons x l ih =>
    rw [List.reverse_cons, bulkAll_append, ih]
    show PyData.bulkAll l + (x.bulk + 1 + 0) = x.bulk + 1 + PyData.bulkAll l
    omega
/-- what may stand within -/
def Fine (W D : Nat) (d : PyData) : Prop := okv d = true ∧ d.depth ≤ D ∧ wid W d = true
section
variable {W : Nat} {S : List Addr} {H : Hp} {p : Addr} {vs : List V} {es : List PyData} {k D dp : Nat}
theorem fine_ok (ok : ∀ d ∈ es, Fine W D d) (hl : es.length ≤ W) (hW : W ≤ 1000) (hb : PyData.bulkAll es + 1 ≤ k) (hD : D + 1 ≤ dp) : okv (.tuple es) = true ∧ (PyData.tuple es).bulk + 1 ≤ k ∧ sz (.tuple es) ≤ k ∧ (PyData.tuple es).depth ≤ dp ∧ wid W (.tuple es) = true := by
  refine ⟨?_, hb, ?_, ?_, ?_⟩
  · show (decide (es.length ≤ 1000) && okvAll es) = true
    rw [decide_eq_true (by omega : es.length ≤ 1000), okvAll_iff.mpr fun d m => (ok d m).1]
    rfl
  · have := szAll_bulk es
    show szAll es + 1 ≤ k
    omega
  · have := depthAll_le fun d m => (ok d m).2.1
    show PyData.depthAll es + 1 ≤ dp
    omega
  · show (decide (es.length ≤ W) && widAll W es) = true
    rw [decide_eq_true hl, widAll_iff.mpr fun d m => (ok d m).2.2]
    rfl
theorem mkTup (e : H p = some (.tup vs)) (n : p ∉ S) (hx : DvAll S H vs es) (ok : ∀ d ∈ es, Fine W D d) (hl : es.length ≤ W) (hW : W ≤ 1000) (hb : PyData.bulkAll es + 1 ≤ k) (hD : D + 1 ≤ dp) : GenW W S H (.ref p) (.tuple es) k dp := by
  obtain ⟨h1, h2, h3, h4, h5⟩ := fine_ok ok hl hW hb hD
  exact ⟨.tup e n hx, h1, h2, h3, h4, h5⟩
theorem mkLst (e : H p = some (.lst vs)) (n : p ∉ S) (hx : DvAll S H vs es) (ok : ∀ d ∈ es, Fine W D d) (hl : es.length ≤ W) (hW : W ≤ 1000) (hb : PyData.bulkAll es + 1 ≤ k) (hD : D + 1 ≤ dp) : GenW W S H (.ref p) (.list es) k dp := by
  obtain ⟨h1, h2, h3, h4, h5⟩ := fine_ok ok hl hW hb hD
  exact ⟨.lst e n hx, h1, h2, h3, h4, h5⟩
end
def WORDS : List PySem.Str := ["end", "wait", "fail", "do", "test", "pick", "go", "call", "given", "part"]
theorem words_ok : ∀ x ∈ WORDS, x.length ≤ 5 ∧ okv (.str x) = true := by decide +kernel
theorem DvAll.reverse {S : List Addr} {H : Hp} : ∀ {vs : List V} {ds : List PyData}, DvAll S H vs ds → DvAll S H vs.reverse ds.reverse
  | _, _, .nil => .nil
  | _, _, .cons h t => by
    rw [List.reverse_cons, List.reverse_cons]
    exact (DvAll.reverse t).append (.cons h .nil)
section
variable {P : Program} {w : World} {K : PySem.W.Frag} {mg : PySem.Str → Option Value} {base : Heap}
def sp_bent (n : Nat) : Sp := fun vs H Q _ => ∃ (w l : Addr) (C : Nat) (S : List Addr) (v : V) (d : PyData) (k dp W : Nat), vs = [.ref w, v, .int (n : Nat)] ∧ Wl w l C S H ∧ C + 4 * n + 50 < LIM ∧ GenW W S H v d k dp ∧ 400 ≤ W ∧ W + 1 ≤ 1000 ∧ n ≤ 12 ∧
  ∀ (H' : Hp) (v' : V) (d' : PyData) (C' : Nat), Kp [w, l] H H' → Wl w l C' S H' → C' ≤ C + 4 * n + 5 → GenW (W + 1) S H' v' d' (2 * k + 100) (dp + 4) → Q v' H'
theorem ok_bent_of (T : Txt K mg) {n : Nat} {spB : Sp} (hB : FnOk P w K mg base CX0 (n + 4) T.a_bent T.d_bent P_bent spB) (eB : ∀ m, n = m + 1 → spB = sp_bent m) : FnOk P w K mg base CX0 (n + 5) T.a_bent T.d_bent P_bent (sp_bent n) := by
  refine T.F_bent.ok sc_bent (fun vs H Q E h => by obtain ⟨w, l, C, S, v, d, k, dp, W, rfl, _⟩ := h; rfl) (fun cdv A outer s H vs Q E hr h => ?_)
  refine ⟨_, (pss_cons (ps_if (PW.pt (pw_or (pt_not (pt_val (pe_callB call_isi (by rfl) T.n_isinstance (by decide +kernel) (pa_cons (pv 1) (pa_cons (pe_bltn (v := .ty "tuple") (u := .type "tuple") (by rfl) T.n_tuple (by decide +kernel) rfl) pa_nil))))) (pw_or (pt_cmpR (op_eqE (Nat.lt_of_le_of_lt (Nat.le_add_right _ 64) hr.units)) (pv 1) (pe_tup pa_nil) (nomark _)) (pw_or (pt_cmpR op_eq (pv 2) pe_int (nomark _)) (pw_or1 (pt_cmpR op_eq (pe_call (ok_drawn T) (hr.mono (by omega)) (by rfl) T.g_drawn T.F_drawn.kp T.b_drawn .nil pass0 (pa_cons (pv 0) (pa_cons pe_int pa_nil))) pe_int (nomark _))))))) (pss_one (ps_ret (pe_call (ok_odd T) (hr.mono (by omega)) (by rfl) T.g_odd T.F_odd.kp T.b_odd .nil pass0 (pa_cons (pv 0) pa_nil)))) pss_nil)
    (pss_cons (ps_par (i := 3) (j := 4) (by rfl) sc_bent.nd rfl rfl (by decide) rfl rfl (pa_cons (pe_call (ok_drawn T) (hr.mono (by omega)) (by rfl) T.g_drawn T.F_drawn.kp T.b_drawn .nil pass0 (pa_cons (pv 0) (pa_cons (pe_callB call_len_seq (by rfl) T.n_len (by decide +kernel) (pa_cons (pv 1) pa_nil)) pa_nil))) (pa_cons (pe_call (ok_drawn T) (hr.mono (by omega)) (by rfl) T.g_drawn T.F_drawn.kp T.b_drawn .nil pass0 (pa_cons (pv 0) (pa_cons pe_int pa_nil))) pa_nil)) (by rfl))
    (pss_cons (ps_if (pt_cmpR op_eq (pv 4) pe_int (nomark _)) (pss_one (ps_ret (pe_op op_catA (pe_slice sl_tupA (pv 1) po_none (po_some (pv 3))) (pe_slice sl_tupA (pv 1) (po_some (pe_op op_add (pv 3) pe_int)) po_none)))) pss_nil)
    (pss_cons (ps_if (pt_cmpR op_eq (pv 4) pe_int (nomark _)) (pss_one (ps_ret (pe_op op_catA (pe_slice sl_tupA (pv 1) po_none (po_some (pe_op op_add (pv 3) pe_int))) (pe_slice sl_tupA (pv 1) (po_some (pv 3)) po_none)))) pss_nil)
    (pss_cons (ps_if (pt_cmpR op_eq (pv 4) pe_int (nomark _)) (pss_one (ps_ret (pe_callTy call_list_of (by rfl) T.n_list (by decide +kernel) (pa_cons (pv 1) pa_nil)))) pss_nil)
    (pss_cons (ps_if (pt_cmpR op_eq (pv 4) pe_int (nomark _)) (pss_one (ps_ret (Zw.pe_revT (pv 1)))) pss_nil)
    (pss_cons (ps_if (PW.pt (pw_and (pt_cmpR op_eq (pv 4) pe_int (nomark _)) (pw_and1 (pt_val (pe_callB call_isi (by rfl) T.n_isinstance (by decide +kernel) (pa_cons (pe_ix ix_tup (pv 1) pe_int (fun _ _ => rfl)) (pa_cons (pe_bltn (v := .ty "str") (u := .type "str") (by rfl) T.n_str (by decide +kernel) rfl) pa_nil))))))) (pss_cons (ps_set (i := 5) sc_bent.nd rfl (Or.inl rfl) (pe_lst (pa_cons pe_str (pa_cons pe_str (pa_cons pe_str (pa_cons pe_str (pa_cons pe_str (pa_cons pe_str (pa_cons pe_str (pa_cons pe_str (pa_cons pe_str (pa_cons pe_str pa_nil))))))))))))
    (pss_one (ps_ret (pe_op op_catA (pe_tup (pa_cons (pe_call (ok_one_of T) (hr.mono (by omega)) (by rfl) T.g_one_of T.F_one_of.kp T.b_one_of .nil pass0 (pa_cons (pv 0) (pa_cons (pv 5) pa_nil))) pa_nil)) (pe_slice sl_tupA (pv 1) (po_some pe_int) po_none))))) pss_nil)
    (pss_one (ps_ret (pe_op op_catA (pe_op op_catA (pe_slice sl_tupA (pv 1) po_none (po_some (pv 3))) (pe_tup (pa_cons (pe_call hB (hr.mono (by omega)) (by rfl) T.g_bent T.F_bent.kp T.b_bent .nil pass0 (pa_cons (pv 0) (pa_cons (pe_ix ix_tup (pv 1) (pv 3) (fun _ _ => rfl)) (pa_cons (pe_op op_sub (pv 2) pe_int) pa_nil)))) pa_nil))) (pe_slice sl_tupA (pv 1) (po_some (pe_op op_add (pv 3) pe_int)) po_none))))))))))), ?_⟩
  obtain ⟨w, l, C, S, v, d, k, dp, W, rfl, hW, hC, hg, hW1, hW2, hn, q⟩ := h
  have s2 := hW.sub2
  have odd : ∀ (H0 : Hp) (C0 : Nat), Kp [w, l] H H0 → Wl w l C0 S H0 → C0 ≤ C + 1 → sp_odd [.ref w] H0 Q E0 := fun H0 C0 k0 hW0 hC0 =>
    ⟨w, l, C0, S, rfl, hW0, by omega, fun H' v' d' k' hW' g' => q H' v' d' _ (k0.trans k') hW' (by omega) (GenW.wide (GenW.mono g' (by omega) (by omega)) (by omega))⟩
  refine ⟨_, rfl, v, .ty "tuple", _, _, _, rfl, .ty _, hg.1.ty, kit_all K _ (by decide) _ (tyD_mem d), ?_⟩
  rcases bool2 (isA "tuple" d) with et | et
  · have et' : isB "tuple" (tyD d) = false := et
    rw [et']
    exact ⟨_, rfl, iteT (iteT ⟨_, rfl, odd H C (Kp.refl _ _) hW (by omega)⟩)⟩
  have et' : isB "tuple" (tyD d) = true := et
  rw [et']
  refine ⟨_, rfl, iteF ?_⟩
  obtain ⟨a, xs, ds, rfl, rfl, ha, na, hx⟩ := hg.1.tuple et
  have hxl := hx.length
  refine ⟨_, rfl, by show 0 ≤ sizeLine; decide, fun p0 hp0 => ⟨a, p0, _, rfl, rfl, .inr ⟨SqT.of ((same_new hp0) _ _ ha), SqT.of upd_same⟩, _, rfl, ?_⟩⟩
  have k0 := same_new (o := .tup []) hp0
  have hW0 := hW.same k0
  have ha0 := k0 _ _ ha
  have kH0 := Kp.of (S := [w, l]) k0
  generalize upd H p0 (.tup []) = H0 at k0 hW0 ha0 kH0 ⊢
  show if xs.isEmpty = true then _ else _
  refine ite2 (fun e => ?_) (fun e => ?_)
  · exact iteT ⟨_, rfl, odd H0 C kH0 hW0 (by omega)⟩
  have hx0 : 0 < ds.length := by
    rw [← hxl]
    cases xs with
    | nil => exact absurd rfl e
    | cons x xs => exact Nat.succ_pos _
  refine ⟨_, rfl, rfl, _, rfl, ite2 (fun e2 => ?_) (fun e2 => ?_)⟩
  · exact iteT ⟨_, rfl, odd H0 C kH0 hW0 (by omega)⟩
  have hn0 : n ≠ 0 := fun z => e2 (by rw [z]; exact decide_eq_true rfl)
  refine ⟨_, rfl, w, l, 7, C, rfl, hW0.well, by omega, by decide, by decide, fun H1 r1 k1 hW1' _ _ => ⟨rfl, _, rfl, ?_⟩⟩
  have hW1' := hW0.draw k1 hW1'
  have kH1 := kH0.trans k1
  refine ite2 (fun e3 => ?_) (fun e3 => ?_)
  · exact ⟨_, rfl, odd H1 _ kH1 hW1' (by omega)⟩
  -- at, way
  have naw := hW.out na
  try dsimp only [tNext]
  have hb : PyData.bulkAll ds + 1 ≤ k := hg.2.2.1
  have hdd : PyData.depthAll ds + 1 ≤ dp := hg.2.2.2.2.1
  have hww : ds.length ≤ W ∧ widAll W ds = true := by
    have h : (decide (ds.length ≤ W) && widAll W ds) = true := hg.2.2.2.2.2
    rw [Bool.and_eq_true, decide_eq_true_iff] at h
    exact h
  have hwl := hww.1
  have okd := (okv_tup hg.2.1).2
  have fineW : ∀ d ∈ ds, okv d = true ∧ d.depth + 1 ≤ dp ∧ wid W d = true := fun d m => by
    have := depth_mem m
    exact ⟨okd d m, by omega, widAll_iff.mp hww.2 d m⟩
  have fine : ∀ d ∈ ds, Fine (W + 1) (dp + 3) d := fun d m => by
    obtain ⟨h1, h2, h3⟩ := fineW d m
    exact ⟨h1, by omega, wid_mono (by omega) d h3⟩
  have ha1 := kH1 _ _ naw ha
  refine ⟨_, rfl, _, rfl, a, _, rfl, .inr (SqT.of ha1), w, l, (xs.length : Nat), C + 1, rfl, hW1'.well, by omega, by omega, by omega, fun H2 at' k2 hW2' a0 a1 => ?_⟩
  replace hW2' := hW1'.draw k2 hW2'
  refine ⟨_, rfl, w, l, 12, C + 1 + 1, rfl, hW2'.well, by omega, by decide, by decide, fun H3 way k3 hW3 w0 w1 => ⟨_, _, rfl, ?_⟩⟩
  replace hW3 := hW2'.draw k3 hW3
  have kH3 := (kH1.trans k2).trans k3
  have ha3 := kH3 _ _ naw ha
  obtain ⟨j, rfl⟩ := Int.eq_ofNat_of_zero_le a0
  have hj : j < xs.length := by omega
  obtain ⟨dj, hdj, hvj⟩ := (hx.kp (kH3.sub s2)).get (List.getElem?_eq_getElem hj)
  have mj := List.mem_of_getElem? hdj
  have sj := bulkAll_split ds j
  have sj1 := bulkAll_split ds (j + 1)
  have dj1 := bulkAll_drop hdj
  have hat : atI xs (j : Int) = some xs[j] := atI_nat (j := j) (List.getElem?_eq_getElem hj)
  refine ⟨_, rfl, rfl, _, rfl, ite2 (fun _ => ?_) (fun _ => ?_)⟩
  · -- one part less
    refine ⟨_, rfl, ?_⟩
    dsimp only [tNoPart]
    refine ⟨_, rfl, (j : Int), rfl, ?_⟩
    refine sl_to (S := S) (K := K) (k := j) hW3.trk na ha3 rfl fun H4 p4 k4 hp4 np4 => ?_
    have hW4 := hW3.same k4
    refine ⟨_, rfl, ?_⟩
    refine ⟨_, rfl, _, _, rfl, rfl, _, rfl, ?_⟩
    dsimp only [tNoPart]
    refine sl_from (S := S) (K := K) (k := j + 1) hW4.trk na (k4 _ _ ha3) rfl fun H5 p5 k5 hp5 np5 => ?_
    have hW5 := hW4.same k5
    refine cat_any (S := S) hW5.trk (k5 _ _ hp4) np4 hp5 np5 (by rw [List.length_take, List.length_drop]; omega) fun H6 p6 k6 hp6 np6 => ?_
    have kH6 := ((kH3.trans (Kp.of k4)).trans (Kp.of k5)).trans (Kp.of k6)
    have hx6 := hx.kp (kH6.sub s2)
    refine q H6 _ (.tuple (ds.take (j) ++ ds.drop (j + 1))) _ kH6 (hW5.same k6) (by omega) (mkTup (D := dp + 3) hp6 np6 ((hx6.take _).append (hx6.drop _)) (fun d m => ?_) ?_ hW2 ?_ (by omega))
    · rcases List.mem_append.mp m with m | m
      · exact fine d (List.mem_of_mem_take m)
      · exact fine d (List.mem_of_mem_drop m)
    · rw [List.length_append, List.length_take, List.length_drop]
      omega
    · rw [bulkAll_append]
      omega
  refine ⟨_, rfl, rfl, _, rfl, ite2 (fun _ => ?_) (fun _ => ?_)⟩
  · -- one part twice
    refine ⟨_, rfl, ?_⟩
    dsimp only [tNoPart]
    refine ⟨_, rfl, _, _, rfl, rfl, _, rfl, ?_⟩
    refine sl_to (S := S) (K := K) (k := j + 1) hW3.trk na ha3 rfl fun H4 p4 k4 hp4 np4 => ?_
    have hW4 := hW3.same k4
    refine ⟨_, rfl, ?_⟩
    refine ⟨_, rfl, (j : Int), rfl, ?_⟩
    dsimp only [tNoPart]
    refine sl_from (S := S) (K := K) (k := j) hW4.trk na (k4 _ _ ha3) rfl fun H5 p5 k5 hp5 np5 => ?_
    have hW5 := hW4.same k5
    refine cat_any (S := S) hW5.trk (k5 _ _ hp4) np4 hp5 np5 (by rw [List.length_take, List.length_drop]; omega) fun H6 p6 k6 hp6 np6 => ?_
    have kH6 := ((kH3.trans (Kp.of k4)).trans (Kp.of k5)).trans (Kp.of k6)
    have hx6 := hx.kp (kH6.sub s2)
    refine q H6 _ (.tuple (ds.take (j + 1) ++ ds.drop (j))) _ kH6 (hW5.same k6) (by omega) (mkTup (D := dp + 3) hp6 np6 ((hx6.take _).append (hx6.drop _)) (fun d m => ?_) ?_ hW2 ?_ (by omega))
    · rcases List.mem_append.mp m with m | m
      · exact fine d (List.mem_of_mem_take m)
      · exact fine d (List.mem_of_mem_drop m)
    · rw [List.length_append, List.length_take, List.length_drop]
      omega
    · rw [bulkAll_append]
      omega
  refine ⟨_, rfl, rfl, _, rfl, ite2 (fun _ => ?_) (fun _ => ?_)⟩
  · -- a list
    refine ⟨_, rfl, a, xs, rfl, .inr (SqT.of ha3), fun p4 hp4 => ?_⟩
    have k4 := same_new (o := .lst xs) hp4
    have kH4 := kH3.trans (Kp.of k4)
    exact q _ _ (.list ds) _ kH4 (hW3.same k4) (by omega) (mkLst (D := dp + 3) upd_same (hW3.trk.out hp4) (hx.kp (kH4.sub s2)) fine (by omega) hW2 (by omega) (by omega))
  refine ⟨_, rfl, rfl, _, rfl, ite2 (fun _ => ?_) (fun _ => ?_)⟩
  · -- turned about
    refine ⟨_, rfl, a, xs, rfl, SqT.of ha3, fun p4 hp4 => ?_⟩
    have k4 := same_new (o := .tup xs.reverse) hp4
    have kH4 := kH3.trans (Kp.of k4)
    exact q _ _ (.tuple ds.reverse) _ kH4 (hW3.same k4) (by omega) (mkTup (D := dp + 3) upd_same (hW3.trk.out hp4) (DvAll.reverse (hx.kp (kH4.sub s2))) (fun d m => fine d (List.mem_reverse.mp m)) (by rw [List.length_reverse]; omega) hW2 (by rw [bulkAll_reverse]; omega) (by omega))
  try dsimp only [tNext]
  show tSeq (tIfS _ _ _) _ _ _ _
  refine if_via True (fun _ => ?_) (fun nx cont => ?_)
  · -- a part otherwise
    obtain ⟨m, rfl⟩ := Nat.exists_eq_succ_of_ne_zero hn0
    have eS := eB m rfl
    subst eS
    have em : ((Nat.succ m : Nat) : Int) - 1 = (m : Nat) := by omega
    refine ⟨_, rfl, ?_⟩
    dsimp only [tNoPart]
    refine ⟨_, rfl, (j : Int), rfl, ?_⟩
    refine sl_to (S := S) (K := K) (k := j) hW3.trk na ha3 rfl fun H4 p4 k4 hp4 np4 => ?_
    have hW4 := hW3.same k4
    have kH4 := kH3.trans (Kp.of k4)
    have ge : GenW W S H4 xs[j] dj (dj.bulk + 1) (dp - 1) := by
      obtain ⟨h1, h2, h3⟩ := fineW dj mj
      exact ⟨hvj.kp (Kp.of k4), h1, Nat.le_refl _, sz_bulk dj, by omega, h3⟩
    refine ⟨_, rfl, _, rfl, _, rfl, a, xs, (j : Int), _, rfl, rfl, SqT.of (k4 _ _ ha3), hat, _, rfl, _, _, rfl, rfl, w, l, C + 1 + 1 + 1, S, xs[j], dj, dj.bulk + 1, dp - 1, W, ?_, hW4, by omega, ge, hW1, hW2, by omega, fun H5 v5 d5 C5 k5 hW5 c5 g5 => ?_⟩
    · show [V.ref w, xs[j], V.int (((Nat.succ m : Nat) : Int) - 1)] = _
      rw [em]
    refine ⟨by show 1 ≤ sizeLine; decide, fun p6 hp6 => ?_⟩
    have k6 := same_new (o := .tup [v5]) hp6
    have np6 := hW5.trk.out hp6
    have hW6 := hW5.same k6
    have kH6 := (kH4.trans k5).trans (Kp.of k6)
    have hp4' : H5 p4 = some (.tup (xs.take j)) := k5 _ _ (hW.out np4) hp4
    refine cat_any (S := S) hW6.trk (k6 _ _ hp4') np4 upd_same np6 (by rw [List.length_take]; show min j xs.length + 1 ≤ 10000; omega) fun H7 p7 k7 hp7 np7 => ?_
    have kH7 := kH6.trans (Kp.of k7)
    have hW7 := hW6.same k7
    refine ⟨_, rfl, ?_⟩
    refine ⟨_, rfl, _, _, rfl, rfl, _, rfl, ?_⟩
    dsimp only [tNoPart]
    refine sl_from (S := S) (K := K) (k := j + 1) hW7.trk na (kH7 _ _ naw ha) rfl fun H8 p8 k8 hp8 np8 => ?_
    have hW8 := hW7.same k8
    refine cat_any (S := S) hW8.trk (k8 _ _ hp7) np7 hp8 np8 (by rw [List.length_append, List.length_take, List.length_drop]; show min j xs.length + 1 + _ ≤ 10000; omega) fun H9 p9 k9 hp9 np9 => ?_
    have kH9 := (kH7.trans (Kp.of k8)).trans (Kp.of k9)
    have hx9 := hx.kp (kH9.sub s2)
    have g9 := GenW.kp g5 (((Kp.of (S := S) k6).trans (Kp.of k7)).trans ((Kp.of k8).trans (Kp.of k9)))
    refine q H9 _ (.tuple (ds.take j ++ [d5] ++ ds.drop (j + 1))) _ kH9 (hW8.same k9) (by omega) (mkTup (D := dp + 3) hp9 np9 (((hx9.take _).append (.cons g9.1 .nil)).append (hx9.drop _)) (fun d m => ?_) ?_ hW2 ?_ (by omega))
    · rcases List.mem_append.mp m with m | m
      · rcases List.mem_append.mp m with m | m
        · exact fine d (List.mem_of_mem_take m)
        · rw [List.mem_singleton] at m
          subst m
          have h2 := depth_mem mj
          exact ⟨g9.2.1, Nat.le_trans g9.2.2.2.2.1 (by omega), g9.2.2.2.2.2⟩
      · exact fine d (List.mem_of_mem_drop m)
    · rw [List.length_append, List.length_append, List.length_take, List.length_drop, List.length_singleton]
      omega
    · rw [bulkAll_append, bulkAll_append]
      have h5 := g9.2.2.1
      show PyData.bulkAll (ds.take j) + (d5.bulk + 1 + 0) + _ + 1 ≤ _
      omega
  · -- another word
    refine ⟨_, rfl, rfl, _, rfl, ite2 (fun _ => ?_) (fun _ => cont True.intro)⟩
    obtain ⟨d0, hd0, hv0⟩ := (hx.kp (kH3.sub s2)).get (List.getElem?_eq_getElem (i := 0) (by omega))
    refine ⟨_, rfl, a, xs, 0, xs[0], rfl, rfl, SqT.of ha3, atI_nat (j := 0) (List.getElem?_eq_getElem (i := 0) (by omega)), xs[0], .ty "str", _, _, _, rfl, .ty _, hv0.ty, kit_all K _ (by decide) _ (tyD_mem d0), _, rfl, ite2 (fun _ => ?_) (fun _ => cont True.intro)⟩
    refine ⟨by show 10 ≤ sizeLine; decide, fun p4 hp4 => ?_⟩
    dsimp only [gName]
    have k4 := same_new (o := .lst (WORDS.map V.str)) hp4
    have np4 := hW3.trk.out hp4
    have hW4 := hW3.same k4
    refine ⟨_, rfl, _, rfl, w, l, p4, WORDS.map V.str, C + 1 + 1 + 1, rfl, hW4.well, by omega, hW.out np4, SqL.of upd_same, by show 0 < 10; decide, by show 10 ≤ 1000000; decide, fun H5 i hi k5 hW5 => ?_⟩
    replace hW5 := hW4.draw k5 hW5
    rw [List.getElem_map]
    have hwd := words_ok _ (List.getElem_mem (l := WORDS) (n := i) (by rwa [List.length_map] at hi))
    generalize WORDS[i] = wd at hwd ⊢
    refine ⟨by show 1 ≤ sizeLine; decide, fun p6 hp6 => ?_⟩
    have k6 := same_new (o := .tup [.str wd]) hp6
    have np6 := hW5.trk.out hp6
    have hW6 := hW5.same k6
    have kH6 := ((kH3.trans (Kp.of k4)).trans k5).trans (Kp.of k6)
    refine ⟨_, rfl, 1, rfl, ?_⟩
    dsimp only [tNoPart]
    refine sl_from (S := S) (K := K) (k := 1) hW6.trk na (kH6 _ _ naw ha) rfl fun H8 p8 k8 hp8 np8 => ?_
    have hW8 := hW6.same k8
    refine cat_any (S := S) hW8.trk (k8 _ _ upd_same) np6 hp8 np8 (by rw [List.length_drop]; show 1 + _ ≤ 10000; omega) fun H9 p9 k9 hp9 np9 => ?_
    have kH9 := (kH6.trans (Kp.of k8)).trans (Kp.of k9)
    have hx9 := hx.kp (kH9.sub s2)
    have s1 := bulkAll_split ds 1
    refine q H9 _ (.tuple ([.str wd] ++ ds.drop 1)) _ kH9 (hW8.same k9) (by omega) (mkTup (D := dp + 3) hp9 np9 (DvAll.append (.cons (.str wd) .nil) (hx9.drop _)) (fun d m => ?_) ?_ hW2 ?_ (by omega))
    · rcases List.mem_append.mp m with m | m
      · rw [List.mem_singleton] at m
        subst m
        exact ⟨hwd.2, Nat.zero_le _, rfl⟩
      · exact fine d (List.mem_of_mem_drop m)
    · rw [List.length_append, List.length_drop, List.length_singleton]
      omega
    · rw [bulkAll_append]
      have h5 := hwd.1
      show (wd.length + 1 + 0) + _ + 1 ≤ _
      omega
theorem ok_bent_n (T : Txt K mg) : ∀ n : Nat, FnOk P w K mg base CX0 (n + 5) T.a_bent T.d_bent P_bent (sp_bent n)
  | 0 => ok_bent_of T fn_none (fun m e => nomatch e)
  | n + 1 => ok_bent_of T (n := n + 1) (ok_bent_n T n) (fun m e => by
    have e : n = m := by omega
    rw [e])
theorem ok_bent (T : Txt K mg) : FnOk P w K mg base CX0 17 T.a_bent T.d_bent P_bent (sp_bent 12) := ok_bent_n T 12
end
end K05
/-! k05: whether the program's answers are the law's. -/
namespace K05
open PySem PySem.Spec PyProof.Rows L2 Zg Zr Zd Zv
theorem sz_bulk' (d : PyData) (h : sz d ≤ d.bulk + 1) (hb : d.bulk ≤ 300000) : sz d ≤ 1000000 := by omega
def told (d : PyData) : PyData := .list [.bool (okT 61 false d), .bool (okT 61 true d), .bool (isDef 61 d)]
def toldAll (d : PyData) : PyData := .list [told d, told d, .bool (isDef 61 d)]
theorem okv_told (a b c : Bool) : okv (.list [.list [.bool a, .bool b, .bool c], .list [.bool a, .bool b, .bool c], .bool c]) = true := rfl
section
variable {P : Program} {w : World} {K : PySem.W.Frag} {mg : PySem.Str → Option Value} {base : Heap}
def sp_right : Sp := fun vs H Q _ => ∃ (S : List Addr) (v : V) (d : PyData), vs = [v] ∧ Dv S H v d ∧ okv d = true ∧ d.bulk ≤ 300000 ∧ sz d ≤ 1000000 ∧ d.depth ≤ 60 ∧ ∀ (H' : Hp), Same H H' → Q (.bl true) H'
theorem ok_is_right (T : Txt K mg) : FnG P w K mg base 126 T.a_is_right T.d_is_right P_is_right sp_right := by
  refine okG T.F_is_right sc_is_right (fun vs H Q E h => by obtain ⟨S, v, d, rfl, _⟩ := h; rfl) (fun cdv A outer s H vs Q hgd hr h => ?_)
  refine ⟨_, (pss_cons (ps_par (i := 1) (j := 2) (by rfl) sc_is_right.nd rfl rfl (by decide) rfl rfl (pa_cons (pe_callB (cr_reprV (S := []) hgd hr) (by rfl) T.n_repr (by decide +kernel) (pa_cons (pv 0) pa_nil)) (pa_cons (pe_lst (pa_cons (pe_callG (ok_is_term T) hgd (hr.mono (by decide)) (by rfl) T.g_is_term T.F_is_term.kp T.b_is_term .nil (pa_cons (pv 0) (pa_cons pe_str pa_nil))) (pa_cons (pe_callG (ok_is_term T) hgd (hr.mono (by decide)) (by rfl) T.g_is_term T.F_is_term.kp T.b_is_term .nil (pa_cons (pv 0) (pa_cons pe_str pa_nil))) (pa_cons (pe_callG (ok_w_is_definition T) hgd (hr.mono (by decide)) (by rfl) T.g_w_is_definition T.F_w_is_definition.kp T.b_w_is_definition .nil (pa_cons (pv 0) pa_nil)) pa_nil)))) pa_nil)) (by rfl))
    (pss_cons (ps_set (i := 3) sc_is_right.nd rfl (Or.inl rfl) (pe_lst (pa_cons (pe_call (ok_is_task T) (hr.mono (by decide)) (by rfl) T.g_is_task T.F_is_task.kp T.b_is_task .nil pass0 (pa_cons (pv 0) pa_nil)) (pa_cons (pe_call (ok_is_function T) (hr.mono (by decide)) (by rfl) T.g_is_function T.F_is_function.kp T.b_is_function .nil pass0 (pa_cons (pv 0) pa_nil)) (pa_cons (pe_call (ok_is_definition T) (hr.mono (by decide)) (by rfl) T.g_is_definition T.F_is_definition.kp T.b_is_definition .nil pass0 (pa_cons (pv 0) pa_nil)) pa_nil)))))
    (pss_cons (ps_set (i := 4) sc_is_right.nd rfl (Or.inl rfl) (pe_lst (pa_cons (pe_callK0 (ok_is_task T) (hr.mono (by decide)) (by rfl) T.g_is_task T.F_is_task.kp T.kb_is_task_thing pass0 (pk_cons (pv 0) pk_nil)) (pa_cons (pe_callK0 (ok_is_function T) (hr.mono (by decide)) (by rfl) T.g_is_function T.F_is_function.kp T.kb_is_function_thing pass0 (pk_cons (pv 0) pk_nil)) (pa_cons (pe_callK0 (ok_is_definition T) (hr.mono (by decide)) (by rfl) T.g_is_definition T.F_is_definition.kp T.kb_is_definition_thing pass0 (pk_cons (pv 0) pk_nil)) pa_nil)))))
    (pss_one (ps_ret (pe_and (pe_cmpR op_eq (pe_callB (cr_reprV (S := []) hgd hr) (by rfl) T.n_repr (by decide +kernel) (pa_cons (pe_lst (pa_cons (pv 3) (pa_cons (pv 4) (pa_cons (pe_call (ok_is_definition T) (hr.mono (by decide)) (by rfl) T.g_is_definition T.F_is_definition.kp T.b_is_definition .nil pass0 (pa_cons (pv 0) pa_nil)) pa_nil)))) pa_nil)) (pe_callB (cr_reprV (S := []) hgd hr) (by rfl) T.n_repr (by decide +kernel) (pa_cons (pe_lst (pa_cons (pv 2) (pa_cons (pv 2) (pa_cons (pe_ix ix_list (pv 2) pe_int (fun _ _ => rfl)) pa_nil)))) pa_nil)) (nomark _)) (pe_one (pe_cmpR op_eq (pe_callB (cr_reprV (S := []) hgd hr) (by rfl) T.n_repr (by decide +kernel) (pa_cons (pv 0) pa_nil)) (pv 1) (nomark _))))))))), ?_⟩
  obtain ⟨S, v, d, rfl, hd, hv, hb, hz, hdp, q⟩ := h
  replace hd := hd.sub (S' := []) fun a h => nomatch h
  have hdn : d.depth < 61 := by omega
  have hs := (okv_short d hv).2
  have hf := okv_fits hv hb
  refine ⟨_, rfl, v, d, rfl, hd, hs, hdp, hf, ?_⟩
  refine ⟨_, rfl, [], v, d, false, rfl, hd, hv, hb, hdp, hdn, fun H1 k1 => ?_⟩
  replace hd := hd.kp (Kp.of k1)
  refine ⟨_, rfl, [], v, d, true, rfl, hd, hv, hb, hdp, hdn, fun H2 k2 => ?_⟩
  replace hd := hd.kp (Kp.of k2)
  refine ⟨_, rfl, [], v, d, rfl, hd, hv, hb, hdp, fun H3 k3 => ⟨by show 3 ≤ sizeLine; decide, fun pd hpd => ⟨_, _, rfl, ?_⟩⟩⟩
  replace hd := hd.kp (Kp.of k3)
  have kd := same_new (o := .lst [.bl (okT 61 false d), .bl (okT 61 true d), .bl (isDef 61 d)]) hpd
  replace hd := hd.kp (Kp.of kd)
  have hpd' : (upd H3 pd (.lst [.bl (okT 61 false d), .bl (okT 61 true d), .bl (isDef 61 d)])) pd = some (.lst [.bl (okT 61 false d), .bl (okT 61 true d), .bl (isDef 61 d)]) := upd_same
  have k4 := ((k1.trans k2).trans k3).trans kd
  generalize upd H3 pd (.lst [.bl (okT 61 false d), .bl (okT 61 true d), .bl (isDef 61 d)]) = H4 at kd hd hpd' k4 ⊢
  -- told
  refine ⟨_, rfl, [], v, d, 61, rfl, hd, hv, hz, hdn, fun H5 k5 => ?_⟩
  replace hd := hd.kp (Kp.of k5)
  refine ⟨_, rfl, [], v, d, 61, rfl, hd, hv, hz, hdn, fun H6 k6 => ?_⟩
  replace hd := hd.kp (Kp.of k6)
  refine ⟨_, rfl, [], v, d, 61, rfl, hd, hv, hz, hdn, fun H7 k7 => ⟨by show 3 ≤ sizeLine; decide, fun pt hpt => ?_⟩⟩
  replace hd := hd.kp (Kp.of k7)
  dsimp only [gName]
  have kt := same_new (o := .lst [.bl (okT 61 false d), .bl (okT 61 true d), .bl (isDef 61 d)]) hpt
  replace hd := hd.kp (Kp.of kt)
  have hpt' : (upd H7 pt (.lst [.bl (okT 61 false d), .bl (okT 61 true d), .bl (isDef 61 d)])) pt = some (.lst [.bl (okT 61 false d), .bl (okT 61 true d), .bl (isDef 61 d)]) := upd_same
  have k8 := ((k5.trans k6).trans k7).trans kt
  replace hpd' := k8 _ _ hpd'
  generalize upd H7 pt (.lst [.bl (okT 61 false d), .bl (okT 61 true d), .bl (isDef 61 d)]) = H8 at kt hd hpt' k8 hpd' ⊢
  -- and by name
  refine ⟨_, rfl, rfl, [], v, d, 61, rfl, hd, hv, hz, hdn, fun H5 k5 => ?_⟩
  replace hd := hd.kp (Kp.of k5)
  refine ⟨_, rfl, rfl, [], v, d, 61, rfl, hd, hv, hz, hdn, fun H6 k6 => ?_⟩
  replace hd := hd.kp (Kp.of k6)
  refine ⟨_, rfl, rfl, [], v, d, 61, rfl, hd, hv, hz, hdn, fun H7 k7 => ⟨by show 3 ≤ sizeLine; decide, fun pm hpm => ?_⟩⟩
  replace hd := hd.kp (Kp.of k7)
  dsimp only [gName]
  have km := same_new (o := .lst [.bl (okT 61 false d), .bl (okT 61 true d), .bl (isDef 61 d)]) hpm
  replace hd := hd.kp (Kp.of km)
  have hpm' : (upd H7 pm (.lst [.bl (okT 61 false d), .bl (okT 61 true d), .bl (isDef 61 d)])) pm = some (.lst [.bl (okT 61 false d), .bl (okT 61 true d), .bl (isDef 61 d)]) := upd_same
  have k9 := ((k5.trans k6).trans k7).trans km
  replace hpd' := k9 _ _ hpd'
  replace hpt' := k9 _ _ hpt'
  have k10 := (k4.trans k8).trans k9
  clear k5 k6 k7 k1 k2 k3 k4 k8 k9 kt kd
  generalize upd H7 pm (.lst [.bl (okT 61 false d), .bl (okT 61 true d), .bl (isDef 61 d)]) = H9 at km hd hpm' hpd' hpt' k10 ⊢
  -- compared
  refine ⟨_, rfl, _, rfl, _, rfl, [], v, d, 61, rfl, hd, hv, hz, hdn, fun H5 k5 => ⟨by show 3 ≤ sizeLine; decide, fun pa hpa => ?_⟩⟩
  replace hd := hd.kp (Kp.of k5)
  have ka := same_new (o := .lst [.ref pt, .ref pm, .bl (isDef 61 d)]) hpa
  have k11 := k5.trans ka
  replace hd := hd.kp (Kp.of ka)
  have hpd2 := k11 _ _ hpd'
  have hpt2 := k11 _ _ hpt'
  have hpm2 := k11 _ _ hpm'
  have hpa2 : (upd H5 pa (.lst [.ref pt, .ref pm, .bl (isDef 61 d)])) pa = some (.lst [.ref pt, .ref pm, .bl (isDef 61 d)]) := upd_same
  have k12 := k10.trans k11
  generalize upd H5 pa (.lst [.ref pt, .ref pm, .bl (isDef 61 d)]) = H6 at hd hpd2 hpt2 hpm2 hpa2 k12 ⊢
  have tD : ∀ (H' : Hp) (p : Addr), H' p = some (.lst [.bl (okT 61 false d), .bl (okT 61 true d), .bl (isDef 61 d)]) → Dv [] H' (.ref p) (told d) := fun H' p h => .lst h (fun m => nomatch m) (.cons (.bl _) (.cons (.bl _) (.cons (.bl _) .nil)))
  have tO : okv (toldAll d) = true := okv_told _ _ _
  have tS := (okv_short (toldAll d) tO).2
  have tP : (toldAll d).depth ≤ 60 := Nat.le_of_ble_eq_true rfl
  have tF : (toldAll d).shown.length ≤ sizeLine := okv_fits tO (Nat.le_of_ble_eq_true rfl)
  refine ⟨.ref pa, toldAll d, rfl, .lst hpa2 (fun m => nomatch m) (.cons (tD _ _ hpt2) (.cons (tD _ _ hpm2) (.cons (.bl _) .nil))), tS, tP, tF, ?_⟩
  refine ⟨_, rfl, _, rfl, _, rfl, pd, _, 2, _, rfl, rfl, SqL.of hpd2, atI_nat (j := 2) rfl, by show 3 ≤ sizeLine; decide, fun pb hpb => ?_⟩
  have kb := same_new (o := .lst [.ref pd, .ref pd, .bl (isDef 61 d)]) hpb
  replace hd := hd.kp (Kp.of kb)
  have hpd3 := kb _ _ hpd2
  refine ⟨.ref pb, toldAll d, rfl, .lst upd_same (fun m => nomatch m) (.cons (tD _ _ hpd3) (.cons (tD _ _ hpd3) (.cons (.bl _) .nil))), tS, tP, tF, rfl, ?_⟩
  rw [decide_eq_true rfl]
  refine ⟨_, rfl, iteT ?_⟩
  refine ⟨_, rfl, v, d, rfl, hd, hs, hdp, hf, _, rfl, rfl, ?_⟩
  rw [decide_eq_true rfl]
  exact q _ (k12.trans kb)
end
end K05
/-! k05: the law. -/
namespace K05
open PySem PySem.Spec PyProof.Rows L2 Zg Zr Zd Zv
/-- what a value that is asked about may be -/
def Val (S : List Addr) (H : Hp) (v : V) : Prop := ∃ d, GenW 1000 S H v d 13000 40
def ValL (S : List Addr) (H : Hp) (vs : List V) : Prop := ∀ v ∈ vs, Val S H v
theorem ValL.kp {S : List Addr} {H H' : Hp} {vs : List V} (h : ValL S H vs) (q : Kp S H H') : ValL S H' vs := fun v m => by
  obtain ⟨d, g⟩ := h v m
  exact ⟨d, GenW.kp g q⟩
theorem ValL.sub {S S' : List Addr} {H : Hp} {vs : List V} (h : ValL S H vs) (q : ∀ a ∈ S', a ∈ S) : ValL S' H vs := fun v m => by
  obtain ⟨d, g⟩ := h v m
  exact ⟨d, GenW.sub g q⟩
theorem ValL.fresh {S : List Addr} {H : Hp} {p : Addr} {vs : List V} (n : H p = none) (h : ValL S H vs) : ValL (p :: S) H vs := fun v m => by
  obtain ⟨d, g⟩ := h v m
  exact ⟨d, g.1.fresh n, g.2⟩
theorem ValL.append {S : List Addr} {H : Hp} {vs ws : List V} (h : ValL S H vs) (h2 : ValL S H ws) : ValL S H (vs ++ ws) := fun v m => by
  rcases List.mem_append.mp m with m | m
  · exact h v m
  · exact h2 v m
theorem Gen.val {S : List Addr} {H : Hp} {v : V} {d : PyData} {k dp : Nat} (h : Gen S H v d k dp) (a : k ≤ 13000) (b : dp ≤ 40) : Val S H v := ⟨d, GenW.wide (GenW.mono h a b) (by decide)⟩
theorem Every.val {S : List Addr} {H : Hp} {vs : List V} {k dp : Nat} (h : Every S H vs k dp) (a : k ≤ 13000) (b : dp ≤ 40) : ValL S H vs := fun v m => by
  obtain ⟨d, g⟩ := h v m
  exact Gen.val g a b
theorem gen_fresh {S : List Addr} {H : Hp} {p : Addr} {v : V} {d : PyData} {k dp : Nat} (n : H p = none) (h : Gen S H v d k dp) : Gen (p :: S) H v d k dp := ⟨h.1.fresh n, h.2⟩
section
variable {P : Program} {w : World} {K : PySem.W.Frag} {mg : PySem.Str → Option Value} {base : Heap}
def sp_law (K : PySem.W.Frag) : Sp := fun vs H Q _ => ∃ (a : Addr) (ns : List Int), vs = [.ref a] ∧ SqL K H a (ns.map V.int) ∧ ns.length ≤ 63 ∧ ∀ (H' : Hp), Q (.bl true) H'
theorem ok_law (T : Txt K mg) : FnG P w K mg base 127 T.a_law T.d_law P_law (sp_law K) := by
  refine okG T.F_law sc_law (fun vs H Q E h => by obtain ⟨a, ns, rfl, _⟩ := h; rfl) (fun cdv A outer s H vs Q hgd hr h => ?_)
  refine ⟨_, (pss_cons (ps_set (i := 1) sc_law.nd rfl (Or.inl rfl) (pe_call (ok_well T) (hr.mono (by decide)) (by rfl) T.g_well T.F_well.kp T.b_well .nil pass0 (pa_cons (pv 0) pa_nil)))
    (pss_cons (ps_set (i := 2) sc_law.nd rfl (Or.inl rfl) (pe_tup (pa_cons pe_str pa_nil)))
    (pss_cons (ps_for PassesOwn.never rfl (pi_range1 (by rfl) T.n_range (pa_cons pe_int pa_nil)) (pg_name (i := 3) sc_law.nd rfl (Or.inl rfl)) (pss_one (ps_set (i := 2) sc_law.nd rfl (Or.inl rfl) (pe_ifExp (pt_cmpR op_eq (pe_op op_mod (pe_callTy call_int1 (by rfl) T.n_int (by decide +kernel) (pa_cons (pv 3) pa_nil)) pe_int) pe_int (nomark _)) (pe_tup (pa_cons (pv 2) pa_nil)) (pe_lst (pa_cons (pv 2) pa_nil))))))
    (pss_cons (ps_set (i := 4) sc_law.nd rfl (Or.inl rfl) (pe_tup (pa_cons pe_str (pa_cons pe_str (pa_cons (pe_tup (pa_cons (pe_tup (pa_cons pe_str (pa_cons pe_str pa_nil))) pa_nil)) (pa_cons (pe_tup (pa_cons (pv 2) pa_nil)) pa_nil))))))
    (pss_cons (ps_set (i := 5) sc_law.nd rfl (Or.inl rfl) (pe_lst (pa_cons pe_non (pa_cons pe_bl (pa_cons pe_int (pa_cons pe_str (pa_cons pe_str (pa_cons (pe_tup pa_nil) (pa_cons (pe_lst pa_nil) (pa_cons pe_dnewK (pa_cons (pe_tup (pa_cons pe_str pa_nil)) (pa_cons (pe_tup (pa_cons pe_str (pa_cons pe_str pa_nil))) (pa_cons (pv 2) (pa_cons (pv 4) (pa_cons (pe_tup (pa_cons (pv 2) (pa_cons (pv 2) pa_nil))) (pa_cons (pe_tup (pa_cons pe_str (pa_cons pe_str (pa_cons (pv 2) pa_nil)))) pa_nil))))))))))))))))
    (pss_cons (ps_for PassesOwn.never rfl (pi_range1 (by rfl) T.n_range (pa_cons pe_int pa_nil)) (pg_name (i := 6) sc_law.nd rfl (Or.inl rfl)) (pss_cons (ps_set (i := 7) sc_law.nd rfl (Or.inl rfl) (pe_call (ok_term T) (hr.mono (by decide)) (by rfl) T.g_term T.F_term.kp T.b_term .nil pass0 (pa_cons (pv 1) pa_nil)))
    (pss_cons (ps_set (i := 8) sc_law.nd rfl (Or.inl rfl) (pe_lst (pa_cons (pe_tup (pa_cons pe_str pa_nil)) (pa_cons (pe_tup (pa_cons pe_str (pa_cons pe_str pa_nil))) (pa_cons (pe_tup (pa_cons pe_str (pa_cons pe_str pa_nil))) (pa_cons (pe_call (ok_odd T) (hr.mono (by decide)) (by rfl) T.g_odd T.F_odd.kp T.b_odd .nil pass0 (pa_cons (pv 1) pa_nil)) pa_nil))))))
    (pss_cons (ps_set (i := 5) sc_law.nd rfl (Or.inl rfl) (pe_op op_cat (pv 5) (pe_lst (pa_cons (pv 7) (pa_cons (pe_call (ok_chain T) (hr.mono (by decide)) (by rfl) T.g_chain T.F_chain.kp T.b_chain .nil pass0 (pa_cons (pv 1) (pa_cons (pe_ix ix_list (pv 8) (pe_op op_mod (pe_callTy call_int1 (by rfl) T.n_int (by decide +kernel) (pa_cons (pv 6) pa_nil)) pe_int) (fun _ _ => rfl)) pa_nil))) (pa_cons (pe_call (ok_chain T) (hr.mono (by decide)) (by rfl) T.g_chain T.F_chain.kp T.b_chain .nil pass0 (pa_cons (pv 1) (pa_cons (pe_call (ok_one_of T) (hr.mono (by decide)) (by rfl) T.g_one_of T.F_one_of.kp T.b_one_of .nil pass0 (pa_cons (pv 1) (pa_cons (pv 8) pa_nil))) pa_nil))) pa_nil))))))
    (pss_cons (ps_set (i := 9) sc_law.nd rfl (Or.inl rfl) (pe_call (ok_definition T) (hr.mono (by decide)) (by rfl) T.g_definition T.F_definition.kp T.b_definition .nil pass0 (pa_cons (pv 1) (pa_cons (pv 7) pa_nil))))
    (pss_cons (ps_set (i := 5) sc_law.nd rfl (Or.inl rfl) (pe_op op_cat (pv 5) (pe_lst (pa_cons (pv 9) (pa_cons (pe_call (ok_named_twice T) (hr.mono (by decide)) (by rfl) T.g_named_twice T.F_named_twice.kp T.b_named_twice .nil pass0 (pa_cons (pv 1) (pa_cons (pv 9) pa_nil))) (pa_cons (pe_call (ok_named_twice T) (hr.mono (by decide)) (by rfl) T.g_named_twice T.F_named_twice.kp T.b_named_twice .nil pass0 (pa_cons (pv 1) (pa_cons (pv 9) pa_nil))) pa_nil))))))
    (pss_one (ps_for PassesOwn.never rfl (pi_range1 (by rfl) T.n_range (pa_cons pe_int pa_nil)) (pg_name (i := 10) sc_law.nd rfl (Or.inl rfl)) (pss_cons (ps_set (i := 11) sc_law.nd rfl (Or.inl rfl) (pe_call (ok_bent T) (hr.mono (by decide)) (by rfl) T.g_bent T.F_bent.kp T.b_bent .nil pass0 (pa_cons (pv 1) (pa_cons (pe_ix ix_list (pe_lst (pa_cons (pv 7) (pa_cons (pv 9) pa_nil))) (pe_op op_mod (pe_callTy call_int1 (by rfl) T.n_int (by decide +kernel) (pa_cons (pv 10) pa_nil)) pe_int) (fun _ _ => rfl)) (pa_cons pe_int pa_nil)))))
    (pss_one (ps_expr (pe_bm PySem.F.plainAttrs_list PySem.F.slot_list_append PySem.F.type_list_append mt_append (pv 5) (pa_cons (pe_ifExp (pt_cmpR op_eq (pe_call (ok_drawn T) (hr.mono (by decide)) (by rfl) T.g_drawn T.F_drawn.kp T.b_drawn .nil pass0 (pa_cons (pv 1) (pa_cons pe_int pa_nil))) pe_int (nomark _)) (pe_call (ok_bent T) (hr.mono (by decide)) (by rfl) T.g_bent T.F_bent.kp T.b_bent .nil pass0 (pa_cons (pv 1) (pa_cons (pv 11) (pa_cons pe_int pa_nil)))) (pv 11)) pa_nil)))))))))))))
    (pss_cons (ps_set (i := 5) sc_law.nd rfl (Or.inl rfl) (pe_op op_cat (pv 5) (pe_lst (pa_cons (pe_tup (pa_cons (pe_tup pa_nil) (pa_cons (pe_tup pa_nil) (pa_cons (pe_tup (pa_cons pe_str pa_nil)) pa_nil)))) (pa_cons (pe_tup (pa_cons (pe_tup pa_nil) (pa_cons (pe_tup pa_nil) (pa_cons (pe_tup pa_nil) pa_nil)))) (pa_cons (pe_lst (pa_cons (pe_tup pa_nil) (pa_cons (pe_tup pa_nil) (pa_cons (pe_tup (pa_cons pe_str pa_nil)) pa_nil)))) (pa_cons (pe_tup (pa_cons (pe_tup (pa_cons (pe_tup (pa_cons pe_str (pa_cons pe_int pa_nil))) pa_nil)) (pa_cons (pe_tup (pa_cons pe_str pa_nil)) (pa_cons (pe_tup (pa_cons pe_str pa_nil)) pa_nil)))) (pa_cons (pe_tup (pa_cons (pe_tup pa_nil) (pa_cons (pe_tup pa_nil) pa_nil))) pa_nil))))))))
    (pss_one (ps_ret (pe_cmpR (op_eqE (Nat.lt_of_le_of_lt (Nat.le_add_right _ 64) hr.units)) (pe_lc (own := [("item", 12)]) rfl sc_law.nd (pi_list (pv 5)) (blkOk_by (own := [("item", 12)]) (N := N_law) (sc := defScope s_law) (by decide +kernel)) (fun _ _ _ _ _ => (pg_name (i := 12) sc_law.nd rfl (Or.inl rfl))) (fun _ _ _ _ _ => (pts_one (pt_not (pt_val (pe_callG (ok_is_right T) hgd (hr.mono (by decide)) (by rfl) T.g_is_right T.F_is_right.kp T.b_is_right .nil (pa_cons (pv 12) pa_nil)))))) (fun _ _ _ _ _ => (pv 12))) (pe_lst pa_nil) (nomark _))))))))))), ?_⟩
  obtain ⟨a, ns, rfl, hS, hl, q⟩ := h
  refine ⟨_, rfl, a, ns, rfl, hS, hl, fun H0 w l s0 _ _ hW0 => ?_⟩
  dsimp only [gName]
  have tr0 : Trk [w, l] H0 := fun b m => by
    obtain ⟨_, b1, c1, ns1, h1, h2, _⟩ := hW0
    rcases List.mem_cons.mp m with e | m
    · rw [e, h1]; exact fun z => nomatch z
    · rw [List.mem_singleton] at m
      rw [m, h2]; exact fun z => nomatch z
  have hW : Wl w l 0 [w, l] H0 := ⟨hW0, tr0, List.mem_cons_self, List.mem_cons_of_mem _ List.mem_cons_self⟩
  generalize hSS : [w, l] = S at hW
  -- nest
  refine set_mk (S := S) (k := 5) (dp := 1) (mk_tup (dp := 0) (mk_cons (mk_str (x := "end") (by decide +kernel)) mk_nil) (by decide)) hW.trk (fun v1 d1 H1 s1 t1 g1 => ?_)
  have hW1 := hW.same s1
  dsimp only [gName]
  refine ⟨_, rfl, by decide, by decide, ?_⟩
  refine for_range (lo := 0) (n := 24) (fun i σ H' => ∃ (y3 : Option V) (v : V) (d : PyData), σ = [some (.ref a), some (.ref w), some v, y3, none, none, none, none, none, none, none, none, none] ∧ Same H1 H' ∧ Gen S H' v d (5 + i) (1 + i)) ⟨none, v1, d1, rfl, Same.refl H1, g1⟩ ?_ ?_
  · rintro i σ H2 hi ⟨y3, v, d, rfl, s2, g2⟩
    have t2 := hW1.trk.same s2
    refine ⟨_, rfl, .inl ⟨_, rfl, _, _, rfl, rfl, (by show (0 : Int) < 2; decide), rfl, _, rfl, ite2 (fun e => ?_) (fun e => ?_)⟩⟩
    · refine ⟨_, rfl, by show 1 ≤ sizeLine; decide, fun p hp => ?_⟩
      exact ⟨_, _, _, rfl, s2.trans (same_new hp), (Gen.tup ((g2.one).kp (Kp.new hp)) upd_same (t2.out hp) (by show 1 ≤ 400; decide)).mono (by omega) (by omega)⟩
    · refine ⟨_, rfl, by show 1 ≤ sizeLine; decide, fun p hp => ?_⟩
      exact ⟨_, _, _, rfl, s2.trans (same_new hp), (Gen.lst ((g2.one).kp (Kp.new hp)) upd_same (t2.out hp) (by show 1 ≤ 400; decide)).mono (by omega) (by omega)⟩
  rintro σ H2 ⟨y3, vn, dn, rfl, s2, gn⟩
  have hW2 := hW1.same s2
  have g_nest : ∀ dp, 25 ≤ dp → Gen S H2 vn dn 29 dp := fun dp h => gn.mono (by omega) h
  -- call
  refine set_mk (S := S) (dp := 30) (mk_tup (mk_cons (mk_str (x := "call") (by decide +kernel)) (mk_cons (mk_str (x := "f") (by decide +kernel)) (mk_cons (mk_tup (mk_cons (mk_tup (mk_cons (mk_str (x := "given") (by decide +kernel)) (mk_cons (mk_str (x := "f") (by decide +kernel)) mk_nil)) (by decide)) mk_nil) (by decide)) (mk_cons (mk_tup (mk_cons (mk_var rfl (g_nest _ (by decide))) mk_nil) (by decide)) mk_nil)))) (by decide)) hW2.trk (fun vc dc H3 s3 t3 gc => ?_)
  have hW3 := hW2.same s3
  have g_call : ∀ dp, 30 ≤ dp → Gen S H3 vc dc 100 dp := fun dp h => gc.mono (by decide +kernel) h
  replace g_nest : ∀ dp, 25 ≤ dp → Gen S H3 vn dn 29 dp := fun dp h => (g_nest dp h).kp (Kp.of s3)
  dsimp only [gName]
  refine set_lst (S := S) (K := 13000) (dp := 40) (mka_cons mk_non (by decide +kernel) (mka_cons (mk_bl (b := true)) (by decide +kernel) (mka_cons (mk_int (i := 0) (by decide +kernel)) (by decide +kernel) (mka_cons (mk_str (x := "") (by decide +kernel)) (by decide +kernel) (mka_cons (mk_str (x := "end") (by decide +kernel)) (by decide +kernel) (mka_cons (mk_tup mk_nil (by decide)) (by decide +kernel) (mka_cons (mk_lst mk_nil (by decide)) (by decide +kernel) (mka_cons mk_dic (by decide +kernel) (mka_cons (mk_tup (mk_cons (mk_str (x := "end") (by decide +kernel)) mk_nil) (by decide)) (by decide +kernel) (mka_cons (mk_tup (mk_cons (mk_str (x := "given") (by decide +kernel)) (mk_cons (mk_str (x := "f") (by decide +kernel)) mk_nil)) (by decide)) (by decide +kernel) (mka_cons (mk_var rfl (g_nest _ (by decide))) (by decide +kernel) (mka_cons (mk_var rfl (g_call _ (by decide))) (by decide +kernel) (mka_cons (mk_tup (mk_cons (mk_var rfl (g_nest _ (by decide))) (mk_cons (mk_var rfl (g_nest _ (by decide))) mk_nil)) (by decide)) (by decide +kernel) (mka_cons (mk_tup (mk_cons (mk_str (x := "do") (by decide +kernel)) (mk_cons (mk_str (x := "a") (by decide +kernel)) (mk_cons (mk_var rfl (g_nest _ (by decide))) mk_nil))) (by decide)) (by decide +kernel) mka_nil)))))))))))))) hW3.trk (by decide) (fun p0 H4 vs0 s4 t4 hp0 np0 hl0 hE0 => ?_)
  have hW4 := hW3.same s4
  have hV0 := hE0.val (Nat.le_refl _) (Nat.le_refl _)
  clear g_nest g_call hE0 gc gn g1
  dsimp only [gName]
  refine ⟨_, rfl, by decide, by decide, ?_⟩
  refine for_range (lo := 0) (n := 8) (fun t σ H' => ∃ (y6 y7 y8 y9 y10 y11 : Option V) (p : Addr) (vs : List V), σ = [some (.ref a), some (.ref w), some vn, y3, some vc, some (.ref p), y6, y7, y8, y9, y10, y11, none] ∧ Wl w l (5000 * t) S H' ∧ H' p = some (.lst vs) ∧ p ∉ S ∧ vs.length = 14 + 18 * t ∧ ValL S H' vs)
    ⟨none, none, none, none, none, none, p0, vs0, rfl, hW4, hp0, np0, hl0, hV0⟩ ?_ ?_
  · rintro t σ H5 ht ⟨y6, y7, y8, y9, y10, y11, p, vs, rfl, hW5, hp, np, hlen, hV⟩
    have s2 := hW5.sub2
    have hwS := hW5.hw
    have hlS := hW5.hl
    have npw := hW5.out np
    -- term
    refine ⟨_, rfl, w, l, 5000 * t, S, rfl, hW5, by show 5000 * t + 20000 < 1000000000; omega, fun H6 at' ds C6 k6 hW6 c6 gt => ?_⟩
    dsimp only [gName]
    have hp6 := k6 _ _ npw hp
    have hV6 := hV.kp (k6.sub s2)
    clear hV hp hW5
    -- ends
    refine ⟨by show 1 ≤ sizeLine; decide, fun p1 hp1 => ⟨by show 2 ≤ sizeLine; decide, fun p2 hp2 => ⟨by show 2 ≤ sizeLine; decide, fun p3 hp3 => ?_⟩⟩⟩
    have kp1 := same_new (o := .tup [.str "end"]) hp1
    have n1 := hW6.trk.out hp1
    have hW7 := hW6.same kp1
    have kp2 := same_new (o := .tup [.str "given", .str "g"]) hp2
    have n2 := hW7.trk.out hp2
    have hW8 := hW7.same kp2
    have kp3 := same_new (o := .tup [.str "go", .str "x"]) hp3
    have n3 := hW8.trk.out hp3
    have hW9 := hW8.same kp3
    have gs : ∀ (H : Hp) (x : PySem.Str), x.length ≤ 5 → PyData.strOk x = true → Gen S H (.str x) (.str x) 6 0 := fun H x h1 h2 => Gen.str (n := 5) h1 h2 (by decide)
    have e1 := (Gen.tup (gs _ "end" (by decide +kernel) (by decide +kernel)).one (upd_same (H := H6)) n1 (by show 1 ≤ 400; decide)).kp (Kp.of (kp2.trans kp3))
    have e2 := (Gen.tup (GenL.cons (gs _ "given" (by decide +kernel) (by decide +kernel)) (gs _ "g" (by decide +kernel) (by decide +kernel)).one) (upd_same (H := upd H6 p1 (.tup [.str "end"]))) n2 (by show 2 ≤ 400; decide)).kp (Kp.of kp3)
    have e3 := Gen.tup (GenL.cons (gs _ "go" (by decide +kernel) (by decide +kernel)) (gs _ "x" (by decide +kernel) (by decide +kernel)).one) (upd_same (H := upd (upd H6 p1 (.tup [.str "end"])) p2 (.tup [.str "given", .str "g"]))) n3 (by show 2 ≤ 400; decide)
    have kS := (kp1.trans kp2).trans kp3
    have hp9 := kS _ _ hp6
    have hV9 := hV6.kp (Kp.of kS)
    have gt9 := gt.kp (Kp.of kS)
    generalize upd (upd (upd H6 p1 (.tup [.str "end"])) p2 (.tup [.str "given", .str "g"])) p3 (.tup [.str "go", .str "x"]) = H7 at e1 e2 e3 kS hp9 hV9 gt9 hW9 ⊢
    clear kp1 kp2 kp3 hW6 hW7 hW8 hp6 hV6 gt
    refine ⟨_, rfl, w, l, C6, S, rfl, hW9, by show C6 + 1 < 1000000000; omega, fun H8 v8 d8 k8 hW10 g8 => ⟨by show 4 ≤ sizeLine; decide, fun pe hpe => ?_⟩⟩
    dsimp only [gName]
    have npe := hW10.trk.out hpe
    have npew := hW10.out npe
    have kpe := same_new (o := .lst [.ref p1, .ref p2, .ref p3, v8]) hpe
    have hW11 := hW10.same kpe
    have kT := (k8.sub s2).trans (Kp.of (S := S) kpe)
    have hE : Every S (upd H8 pe (.lst [.ref p1, .ref p2, .ref p3, v8])) [.ref p1, .ref p2, .ref p3, v8] 100 4 := fun v m => by
      simp only [List.mem_cons, List.not_mem_nil, or_false] at m
      rcases m with rfl | rfl | rfl | rfl
      · exact ⟨_, (e1.kp kT).mono (by decide) (by decide)⟩
      · exact ⟨_, (e2.kp kT).mono (by decide) (by decide)⟩
      · exact ⟨_, (e3.kp kT).mono (by decide) (by decide)⟩
      · exact ⟨_, g8.kp (Kp.of kpe)⟩
    have hp11 := kpe _ _ (k8 _ _ npw hp9)
    have hV11 := hV9.kp kT
    have gt11 := gt9.kp kT
    have hpe11 : (upd H8 pe (.lst [.ref p1, .ref p2, .ref p3, v8])) pe = some (.lst [.ref p1, .ref p2, .ref p3, v8]) := upd_same
    have hEl : [V.ref p1, .ref p2, .ref p3, v8].length = 4 := rfl
    generalize upd H8 pe (.lst [.ref p1, .ref p2, .ref p3, v8]) = H9 at kpe hW11 kT hE hp11 hV11 gt11 hpe11 ⊢
    generalize [V.ref p1, .ref p2, .ref p3, v8] = E4 at hE hpe11 hEl ⊢
    clear e1 e2 e3 g8 gt9 hV9 hp9 hW9 hW10 kS
    have h2t := mod_in (a := 0 + (t : Int)) (m := 2) (by decide)
    obtain ⟨hi4, hat⟩ := atI_of (xs := E4) (r := (0 + (t : Int)) % 2) h2t.1 (by rw [hEl]; have := h2t.2; show (0 + (t : Int)) % 2 < 4; omega)
    obtain ⟨dc4, gc4⟩ := hE.get hi4
    refine ⟨_, rfl, _, rfl, _, rfl, _, rfl, _, rfl, .inl ⟨_, rfl, _, _, rfl, rfl, (by show (0 : Int) < 2; decide), pe, E4, _, _, rfl, rfl, SqL.of hpe11, hat, w, l, C6 + 1, S, _, dc4, rfl, hW11, by show C6 + 1 + 1 < 1000000000; omega, gc4, fun H10 va da k10 hW12 ga => ?_⟩⟩
    have hpe12 := k10 _ _ npew hpe11
    have hE12 := hE.kp (k10.sub s2)
    refine ⟨_, rfl, _, rfl, _, rfl, w, l, pe, E4, C6 + 1 + 1, rfl, hW12.well, by show C6 + 1 + 1 < 1000000000; omega, npew, SqL.of hpe12, by omega, by omega, fun H11 i4 hi5 k11 hW13 => ?_⟩
    replace hW13 := hW12.draw k11 hW13
    obtain ⟨dc5, gc5⟩ := (hE12.kp (k11.sub s2)).get hi5
    refine ⟨w, l, C6 + 1 + 1 + 1, S, _, dc5, rfl, hW13, by show C6 + 1 + 1 + 1 + 1 < 1000000000; omega, gc5, fun H12 vb db k12 hW14 gb => ⟨by show 3 ≤ sizeLine; decide, fun pl hpl => ?_⟩⟩
    have kU := (k10.trans k11).trans k12
    have npl := hW14.trk.out hpl
    have kpl := same_new (o := .lst [.ref at', va, vb]) hpl
    have hp14 := kpl _ _ (kU _ _ npw hp11)
    refine ⟨p, pl, vs, _, rfl, rfl, hp14, upd_same, by rw [hlen, sizeLine_eq]; show 14 + 18 * t + 3 ≤ _; omega, fun pn hpn => ?_⟩
    dsimp only [gName]
    have hW15 := hW14.same kpl
    have npn := hW15.trk.out hpn
    have npnw := hW15.out npn
    have kpn := same_new (o := .lst (vs ++ [.ref at', va, vb])) hpn
    have hW16 := hW15.same kpn
    have kX := (Kp.of (S := S) kpl).trans (Kp.of kpn)
    have hV16 : ValL S (upd (upd H12 pl (.lst [.ref at', va, vb])) pn (.lst (vs ++ [.ref at', va, vb]))) (vs ++ [.ref at', va, vb]) := by
      refine ((hV11.kp (kU.sub s2)).kp kX).append fun v m => ?_
      simp only [List.mem_cons, List.not_mem_nil, or_false] at m
      rcases m with rfl | rfl | rfl
      · exact ((gt11.kp (kU.sub s2)).kp kX).val (by decide) (by decide)
      · exact ((ga.kp ((k11.trans k12).sub s2)).kp kX).val (by decide) (by decide)
      · exact (gb.kp kX).val (by decide) (by decide)
    have gt16 := (gt11.kp (kU.sub s2)).kp kX
    have hp16 : (upd (upd H12 pl (.lst [.ref at', va, vb])) pn (.lst (vs ++ [.ref at', va, vb]))) pn = some (.lst (vs ++ [.ref at', va, vb])) := upd_same
    have hl16 : (vs ++ [V.ref at', va, vb]).length = 17 + 18 * t := by rw [List.length_append, hlen]; show 14 + 18 * t + 3 = _; omega
    generalize upd (upd H12 pl (.lst [.ref at', va, vb])) pn (.lst (vs ++ [.ref at', va, vb])) = H13 at hW16 hV16 gt16 hp16 ⊢
    generalize vs ++ [V.ref at', va, vb] = vs2 at hV16 hp16 hl16 ⊢
    clear gt11 hV11 hp11 hE hE12 ga gb gc4 gc5 hW11 hW12 hW13 hW14 hW15 hpe11 hpe12 hp14 kX kU kT
    -- a definition
    refine ⟨_, rfl, _, rfl, w, l, C6 + 1 + 1 + 1 + 1, S, .ref at', _, rfl, hW16, by show C6 + 1 + 1 + 1 + 1 + 20 < 1000000000; omega, gt16, fun H14 vw dw k14 hW17 gw => ?_⟩
    dsimp only [gName]
    have hp17 := k14 _ _ npnw hp16
    refine ⟨_, rfl, _, rfl, _, rfl, _, rfl, w, l, _, S, vw, dw, rfl, hW17, by show C6 + 1 + 1 + 1 + 1 + 10 + 10 < 1000000000; omega, gw, fun H15 vx dx k15 hW18 gx => ?_⟩
    refine ⟨_, rfl, _, rfl, w, l, _, S, vw, dw, rfl, hW18, by show C6 + 1 + 1 + 1 + 1 + 10 + 5 + 10 < 1000000000; omega, gw.kp (k15.sub s2), fun H16 vy dy k16 hW19 gy => ⟨by show 3 ≤ sizeLine; decide, fun pl2 hpl2 => ?_⟩⟩
    have kU := (k14.trans k15).trans k16
    have kpl2 := same_new (o := .lst [vw, vx, vy]) hpl2
    have hp19 := kpl2 _ _ (kU _ _ npnw hp16)
    refine ⟨pn, pl2, vs2, _, rfl, rfl, hp19, upd_same, by rw [hl16, sizeLine_eq]; show 17 + 18 * t + 3 ≤ _; omega, fun pm hpm => ?_⟩
    dsimp only [gName]
    have hW20 := hW19.same kpl2
    have npm := hW20.trk.out hpm
    have npmw := hW20.out npm
    have kpm := same_new (o := .lst (vs2 ++ [vw, vx, vy])) hpm
    have hW21 := (hW20.same kpm).more (p := pm) (by rw [upd_same]; exact fun z => nomatch z)
    have kX := (Kp.of (S := S) kpl2)
    have kN : Kp (pm :: S) (upd H16 pl2 (.lst [vw, vx, vy])) (upd (upd H16 pl2 (.lst [vw, vx, vy])) pm (.lst (vs2 ++ [vw, vx, vy]))) := Kp.new hpm
    have hV20 : ValL S (upd H16 pl2 (.lst [vw, vx, vy])) (vs2 ++ [vw, vx, vy]) := by
      refine ((hV16.kp (kU.sub s2)).kp kX).append fun v m => ?_
      simp only [List.mem_cons, List.not_mem_nil, or_false] at m
      rcases m with rfl | rfl | rfl
      · exact (((gw.gen.kp ((k15.trans k16).sub s2)).kp kX)).val (by decide) (by decide)
      · exact ((gx.kp (k16.sub s2)).kp kX).val (by decide) (by decide)
      · exact (gy.kp kX).val (by decide) (by decide)
    have hV21 := (ValL.fresh hpm hV20).kp kN
    have gt21 : Gen (pm :: S) _ _ _ 3000 23 := Gen.kp (gen_fresh hpm ((gt16.kp (kU.sub s2)).kp kX)) kN
    have gw21 : Gen (pm :: S) _ _ _ 3100 24 := Gen.kp (gen_fresh hpm ((gw.gen.kp ((k15.trans k16).sub s2)).kp kX)) kN
    have hp21 : (upd (upd H16 pl2 (.lst [vw, vx, vy])) pm (.lst (vs2 ++ [vw, vx, vy]))) pm = some (.lst (vs2 ++ [vw, vx, vy])) := upd_same
    have hl21 : (vs2 ++ [vw, vx, vy]).length = 20 + 18 * t := by rw [List.length_append, hl16]; show 17 + 18 * t + 3 = _; omega
    generalize upd (upd H16 pl2 (.lst [vw, vx, vy])) pm (.lst (vs2 ++ [vw, vx, vy])) = H17 at hW21 hV21 gt21 gw21 hp21 kN ⊢
    generalize vs2 ++ [vw, vx, vy] = vs3 at hV21 hp21 hl21 hV20 ⊢
    clear gt16 hV16 hV20 hp16 gw gx gy hW16 hW17 hW18 hW19 hp17 hp19 kU kX kN
    refine ⟨_, rfl, by decide, by decide, ?_⟩
    have t2 := hW21.sub2
    have npmS : pm ∈ pm :: S := List.mem_cons_self
    refine for_range (lo := 0) (n := 12) (fun i σ H' => ∃ (y10 y11 : Option V) (C' : Nat) (zs : List V), σ = [some (.ref a), some (.ref w), some vn, y3, some vc, some (.ref pm), some (.int (0 + (t : Int))), some (.ref at'), some (.ref pe), some vw, y10, y11, none] ∧ Wl w l C' (pm :: S) H' ∧ C' ≤ C6 + 24 + 110 * i ∧ H' pm = some (.lst zs) ∧ zs.length = 20 + 18 * t + i ∧ ValL (pm :: S) H' zs ∧ Kp (pm :: S) H17 H')
      ⟨y10, y11, _, vs3, rfl, hW21, by omega, hp21, hl21, hV21, Kp.refl _ _⟩ ?_ ?_
    · rintro i σ H18 hi ⟨y10', y11', C', zs, rfl, hW22, c22, hp22, hl22, hV22, k22⟩
      have gt22 := gt21.kp k22
      have gw22 := gw21.kp k22
      refine ⟨_, rfl, _, rfl, _, rfl, by show 2 ≤ sizeLine; decide, fun pq hpq => ?_⟩
      have npq := hW22.trk.out hpq
      have kpq := same_new (o := .lst [.ref at', vw]) hpq
      have hW23 := hW22.same kpq
      have hE : Every (pm :: S) (upd H18 pq (.lst [.ref at', vw])) [.ref at', vw] 3100 24 := fun v m => by
        simp only [List.mem_cons, List.not_mem_nil, or_false] at m
        rcases m with rfl | rfl
        · exact ⟨_, (gt22.kp (Kp.of kpq)).mono (by decide) (by decide)⟩
        · exact ⟨_, gw22.kp (Kp.of kpq)⟩
      have h2t := mod_in (a := 0 + (i : Int)) (m := 2) (by decide)
      obtain ⟨hi4, hat⟩ := atI_of (xs := [V.ref at', vw]) (r := (0 + (i : Int)) % 2) h2t.1 h2t.2
      obtain ⟨d4, g4⟩ := hE.get hi4
      refine ⟨_, rfl, .inl ⟨_, rfl, _, _, rfl, rfl, (by show (0 : Int) < 2; decide), pq, [.ref at', vw], _, _, rfl, rfl, SqL.of upd_same, hat, w, l, C', pm :: S, _, d4, 3100, 24, 400, rfl, hW23, by show C' + 4 * 12 + 50 < 1000000000; omega, g4, by decide, by decide, by decide, fun H19 v5 d5 C5 k23 hW24 c24 g5 => ?_⟩⟩
      dsimp only [gName]
      have hp24 := k23 _ _ npmw (kpq _ _ hp22)
      have kV : Kp (pm :: S) H18 H19 := (Kp.of kpq).trans (k23.sub t2)
      have fin : ∀ (H' : Hp) (v : V) (C2 : Nat), Kp [w, l] H19 H' → Wl w l C2 (pm :: S) H' → C2 ≤ C' + 110 → Val (pm :: S) H' v → H' pm = some (.lst zs) ∧ (∃ (y10 y11 : Option V) (C2 : Nat) (zs2 : List V), [some (.ref a), some (.ref w), some vn, y3, some vc, some (.ref pm), some (.int (0 + (t : Int))), some (.ref at'), some (.ref pe), some vw, some (V.int (0 + (i : Int))), some v5, none] = [some (.ref a), some (.ref w), some vn, y3, some vc, some (.ref pm), some (.int (0 + (t : Int))), some (.ref at'), some (.ref pe), some vw, y10, y11, none] ∧ Wl w l C2 (pm :: S) (upd H' pm (.lst (zs ++ [v]))) ∧ C2 ≤ C6 + 24 + 110 * (i + 1) ∧ (upd H' pm (.lst (zs ++ [v]))) pm = some (.lst zs2) ∧ zs2.length = 20 + 18 * t + (i + 1) ∧ ValL (pm :: S) (upd H' pm (.lst (zs ++ [v]))) zs2 ∧ Kp (pm :: S) H17 (upd H' pm (.lst (zs ++ [v])))) := by
        intro H' v C2 k' hW' c' hv
        have hp' := k' _ _ npmw hp24
        have kw : Kp (pm :: S) H' (upd H' pm (.lst (zs ++ [v]))) := (Kp.refl _ _).wr (.inl npmS)
        refine ⟨hp', _, _, C2, zs ++ [v], rfl, hW'.put npmw, by omega, upd_same, by rw [List.length_append, List.length_singleton, hl22]; omega, ?_, (k22.trans kV).trans ((k'.sub t2).trans kw)⟩
        refine ValL.append ((hV22.kp kV).kp ((k'.sub t2).trans kw)) fun u m => ?_
        rw [List.mem_singleton] at m
        subst m
        obtain ⟨d, g⟩ := hv
        exact ⟨d, GenW.kp g kw⟩
      refine ⟨_, rfl, .inl ⟨rfl, _, SqL.of hp24⟩, _, rfl, w, l, 3, C5, rfl, hW24.well, by show C5 < 1000000000; omega, by decide, by decide, fun H20 r6 k24 hW25 _ _ => ⟨rfl, _, rfl, ?_⟩⟩
      replace hW25 := hW24.draw k24 hW25
      have g6 := GenW.kp g5 (k24.sub t2)
      refine ite2 (fun e => ?_) (fun e => ?_)
      · refine ⟨_, rfl, _, rfl, w, l, C5 + 1, pm :: S, v5, d5, 6300, 28, 401, rfl, hW25, by show C5 + 1 + 4 * 12 + 50 < 1000000000; omega, g6, by decide, by decide, by decide, fun H21 v6 d6 C7 k25 hW26 c26 g7 => ?_⟩
        obtain ⟨f1, f2⟩ := fin H21 v6 C7 (k24.trans k25) hW26 (by omega) ⟨d6, GenW.wide (GenW.mono g7 (by decide) (by decide)) (by decide)⟩
        exact ⟨pm, zs, v6, rfl, rfl, f1, by rw [hl22, sizeLine_eq]; omega, f2⟩
      · obtain ⟨f1, f2⟩ := fin H20 v5 (C5 + 1) k24 hW25 (by omega) ⟨d5, GenW.wide (GenW.mono g6 (by decide) (by decide)) (by decide)⟩
        exact ⟨_, rfl, pm, zs, v5, rfl, rfl, f1, by rw [hl22, sizeLine_eq]; omega, f2⟩
    · rintro σ H18 ⟨y10', y11', C', zs, rfl, hW22, c22, hp22, hl22, hV22, k22⟩
      exact ⟨_, _, _, _, _, _, pm, zs, rfl, ((⟨hW22.well, fun b m => hW22.trk b (List.mem_cons_of_mem _ m), hwS, hlS⟩ : Wl w l C' S H18).mono (by omega)), hp22, npm, by omega, hV22.sub fun b m => List.mem_cons_of_mem _ m⟩
  · rintro σ H5 ⟨y6, y7, y8, y9, y10, y11, p, vs, rfl, hW5, hp, np, hlen, hV⟩
    refine ⟨_, rfl, mka_lst (S := S) (K := 13000) (dp := 40) (mka_cons (mk_tup (mk_cons (mk_tup mk_nil (by decide)) (mk_cons (mk_tup mk_nil (by decide)) (mk_cons (mk_tup (mk_cons (mk_str (x := "end") (by decide +kernel)) mk_nil) (by decide)) mk_nil))) (by decide)) (by decide +kernel) (mka_cons (mk_tup (mk_cons (mk_tup mk_nil (by decide)) (mk_cons (mk_tup mk_nil (by decide)) (mk_cons (mk_tup mk_nil (by decide)) mk_nil))) (by decide)) (by decide +kernel) (mka_cons (mk_lst (mk_cons (mk_tup mk_nil (by decide)) (mk_cons (mk_tup mk_nil (by decide)) (mk_cons (mk_tup (mk_cons (mk_str (x := "end") (by decide +kernel)) mk_nil) (by decide)) mk_nil))) (by decide)) (by decide +kernel) (mka_cons (mk_tup (mk_cons (mk_tup (mk_cons (mk_tup (mk_cons (mk_str (x := "a") (by decide +kernel)) (mk_cons (mk_int (i := 1) (by decide +kernel)) mk_nil)) (by decide)) mk_nil) (by decide)) (mk_cons (mk_tup (mk_cons (mk_str (x := "a") (by decide +kernel)) mk_nil) (by decide)) (mk_cons (mk_tup (mk_cons (mk_str (x := "end") (by decide +kernel)) mk_nil) (by decide)) mk_nil))) (by decide)) (by decide +kernel) (mka_cons (mk_tup (mk_cons (mk_tup mk_nil (by decide)) (mk_cons (mk_tup mk_nil (by decide)) mk_nil)) (by decide)) (by decide +kernel) mka_nil))))) hW5.trk (by decide) fun p1 H6 vs1 s6 t6 hp1 np1 hl1 hE1 => ?_⟩
    refine ⟨p, p1, vs, vs1, rfl, rfl, s6 _ _ hp, hp1, by rw [hlen, hl1, sizeLine_eq]; decide, fun p2 hp2 => ?_⟩
    dsimp only [gName]
    have k2 := same_new (o := .lst (vs ++ vs1)) hp2
    have hV2 := ((hV.kp (Kp.of s6)).append (hE1.val (Nat.le_refl _) (Nat.le_refl _))).kp (Kp.of k2)
    have hp2' : (upd H6 p2 (.lst (vs ++ vs1))) p2 = some (.lst (vs ++ vs1)) := upd_same
    generalize upd H6 p2 (.lst (vs ++ vs1)) = H7 at hV2 hp2' ⊢
    generalize vs ++ vs1 = us at hV2 hp2' ⊢
    refine ⟨_, rfl, p2, rfl, ⟨_, SqL.of hp2'⟩, fun D hD => ?_⟩
    refine lc_list (K := K) (a := p2) (xs := us) (fun i H' => Same H7 H' ∧ H' D = some (.lst [])) ⟨same_new hD, upd_same⟩ (fun i H' _ k => SqL.of (k.1 _ _ hp2')) ?_ ?_
    · rintro i x H8 hi ⟨k8, hDl⟩
      obtain ⟨d, g⟩ := hV2 x (List.mem_of_getElem? hi)
      have g8 := GenW.kp g (Kp.of k8)
      have hb : d.bulk + 1 ≤ 13000 := g8.2.2.1
      have hz : sz d ≤ 13000 := g8.2.2.2.1
      have hdp : d.depth ≤ 40 := g8.2.2.2.2.1
      refine ⟨rfl, _, rfl, S, x, d, rfl, g8.1, g8.2.1, by omega, by omega, by omega, fun H9 k9 => ?_⟩
      exact ⟨_, rfl, iteF ⟨k8.trans k9, k9 _ _ hDl⟩⟩
    · rintro H8 ⟨k8, hDl⟩
      exact ⟨by show 0 ≤ sizeLine; decide, fun p3 hp3 => ⟨D, p3, [], rfl, rfl, .inl ⟨SqL.of ((same_new hp3) _ _ hDl), SqL.of upd_same⟩, q _⟩⟩
end
end K05
set_option Elab.async false
set_option linter.all false
set_option maxRecDepth 100000
set_option maxHeartbeats 4000000
/-! k05: the end. -/
namespace K05
open PySem PySem.Spec PyProof.Rows L2 Zg Zr Zd Zv
theorem all_mk {l : PySem.W.OpenLaw} {w : World} {K : PySem.W.Frag} {h : Heap} {mg : PySem.Str → Option Value} {fa f0 f1 f2 f3 f4 f5 f6 f7 f8 f9 f10 f11 f12 f13 f14 f15 f16 f17 f18 f19 f20 f21 f22 f23 f24 f25 f26 f27 f28 f29 f30 f31 f32 f33 f34 f35 f36 : Addr} (X : K.In h) (G : h.Ns mainGlobals mg) (hfa : mg "law" = some (.ref fa))
    {od0 an0 od1 an1 od2 an2 od3 an3 od4 an4 od5 an5 od6 an6 od7 an7 od8 an8 od9 an9 od10 an10 od11 an11 od12 an12 od13 an13 od14 an14 od15 an15 od16 an16 od17 an17 od18 an18 od19 an19 od20 an20 od21 an21 od22 an22 od23 an23 od24 an24 od25 an25 od26 an26 od27 an27 od28 an28 od29 an29 od30 an30 od31 an31 od32 an32 od33 an33 od34 an34 od35 an35 od36 an36 : Option Addr} {sl0 sl1 sl2 sl3 sl4 sl5 sl6 sl7 sl8 sl9 sl10 sl11 sl12 sl13 sl14 sl15 sl16 sl17 sl18 sl19 sl20 sl21 sl22 sl23 sl24 sl25 sl26 sl27 sl28 sl29 sl30 sl31 sl32 sl33 sl34 sl35 sl36 : Array (Option Value)} {oc0 kV0 dc0 pm0 cd0 ct0 oc1 kV1 dc1 pm1 cd1 ct1 oc2 kV2 dc2 pm2 cd2 ct2 oc3 kV3 dc3 pm3 cd3 ct3 oc4 kV4 dc4 pm4 cd4 ct4 oc5 kV5 dc5 pm5 cd5 ct5 oc6 kV6 dc6 pm6 cd6 ct6 oc7 kV7 dc7 pm7 cd7 ct7 oc8 kV8 dc8 pm8 cd8 ct8 oc9 kV9 dc9 pm9 cd9 ct9 oc10 kV10 dc10 pm10 cd10 ct10 oc11 kV11 dc11 pm11 cd11 ct11 oc12 kV12 dc12 pm12 cd12 ct12 oc13 kV13 dc13 pm13 cd13 ct13 oc14 kV14 dc14 pm14 cd14 ct14 oc15 kV15 dc15 pm15 cd15 ct15 oc16 kV16 dc16 pm16 cd16 ct16 oc17 kV17 dc17 pm17 cd17 ct17 oc18 kV18 dc18 pm18 cd18 ct18 oc19 kV19 dc19 pm19 cd19 ct19 oc20 kV20 dc20 pm20 cd20 ct20 oc21 kV21 dc21 pm21 cd21 ct21 oc22 kV22 dc22 pm22 cd22 ct22 oc23 kV23 dc23 pm23 cd23 ct23 oc24 kV24 dc24 pm24 cd24 ct24 oc25 kV25 dc25 pm25 cd25 ct25 oc26 kV26 dc26 pm26 cd26 ct26 oc27 kV27 dc27 pm27 cd27 ct27 oc28 kV28 dc28 pm28 cd28 ct28 oc29 kV29 dc29 pm29 cd29 ct29 oc30 kV30 dc30 pm30 cd30 ct30 oc31 kV31 dc31 pm31 cd31 ct31 oc32 kV32 dc32 pm32 cd32 ct32 oc33 kV33 dc33 pm33 cd33 ct33 oc34 kV34 dc34 pm34 cd34 ct34 oc35 kV35 dc35 pm35 cd35 ct35 oc36 kV36 dc36 pm36 cd36 ct36 : Value}
    (a0 : PySem.W.nsIn K mainGlobals "is_integer" = some (some (.ref f0))) (l0 : K.lookup f0 = some ⟨oc0, od0, .func (PySem.W.fnOf "is_integer" "is_integer" (defArgs s_is_integer) (defBody s_is_integer) (defScope s_is_integer) .none kV0 dc0 pm0 an0 cd0 ct0), sl0⟩) (c0 : PySem.W.codeIn K cd0 "is_integer" = true) (k0 : PySem.W.keepIn K (.ref f0) = true)
    (a1 : PySem.W.nsIn K mainGlobals "is_name" = some (some (.ref f1))) (l1 : K.lookup f1 = some ⟨oc1, od1, .func (PySem.W.fnOf "is_name" "is_name" (defArgs s_is_name) (defBody s_is_name) (defScope s_is_name) .none kV1 dc1 pm1 an1 cd1 ct1), sl1⟩) (c1 : PySem.W.codeIn K cd1 "is_name" = true) (k1 : PySem.W.keepIn K (.ref f1) = true)
    (a2 : PySem.W.nsIn K mainGlobals "are_ascending" = some (some (.ref f2))) (l2 : K.lookup f2 = some ⟨oc2, od2, .func (PySem.W.fnOf "are_ascending" "are_ascending" (defArgs s_are_ascending) (defBody s_are_ascending) (defScope s_are_ascending) .none kV2 dc2 pm2 an2 cd2 ct2), sl2⟩) (c2 : PySem.W.codeIn K cd2 "are_ascending" = true) (k2 : PySem.W.keepIn K (.ref f2) = true)
    (a3 : PySem.W.nsIn K mainGlobals "is_state" = some (some (.ref f3))) (l3 : K.lookup f3 = some ⟨oc3, od3, .func (PySem.W.fnOf "is_state" "is_state" (defArgs s_is_state) (defBody s_is_state) (defScope s_is_state) .none kV3 dc3 pm3 an3 cd3 ct3), sl3⟩) (c3 : PySem.W.codeIn K cd3 "is_state" = true) (k3 : PySem.W.keepIn K (.ref f3) = true)
    (a4 : PySem.W.nsIn K mainGlobals "are_states" = some (some (.ref f4))) (l4 : K.lookup f4 = some ⟨oc4, od4, .func (PySem.W.fnOf "are_states" "are_states" (defArgs s_are_states) (defBody s_are_states) (defScope s_are_states) .none kV4 dc4 pm4 an4 cd4 ct4), sl4⟩) (c4 : PySem.W.codeIn K cd4 "are_states" = true) (k4 : PySem.W.keepIn K (.ref f4) = true)
    (a5 : PySem.W.nsIn K mainGlobals "call_parts" = some (some (.ref f5))) (l5 : K.lookup f5 = some ⟨oc5, od5, .func (PySem.W.fnOf "call_parts" "call_parts" (defArgs s_call_parts) (defBody s_call_parts) (defScope s_call_parts) .none kV5 dc5 pm5 an5 cd5 ct5), sl5⟩) (c5 : PySem.W.codeIn K cd5 "call_parts" = true) (k5 : PySem.W.keepIn K (.ref f5) = true)
    (a6 : PySem.W.nsIn K mainGlobals "function_parts" = some (some (.ref f6))) (l6 : K.lookup f6 = some ⟨oc6, od6, .func (PySem.W.fnOf "function_parts" "function_parts" (defArgs s_function_parts) (defBody s_function_parts) (defScope s_function_parts) .none kV6 dc6 pm6 an6 cd6 ct6), sl6⟩) (c6 : PySem.W.codeIn K cd6 "function_parts" = true) (k6 : PySem.W.keepIn K (.ref f6) = true)
    (a7 : PySem.W.nsIn K mainGlobals "action_parts" = some (some (.ref f7))) (l7 : K.lookup f7 = some ⟨oc7, od7, .func (PySem.W.fnOf "action_parts" "action_parts" (defArgs s_action_parts) (defBody s_action_parts) (defScope s_action_parts) .none kV7 dc7 pm7 an7 cd7 ct7), sl7⟩) (c7 : PySem.W.codeIn K cd7 "action_parts" = true) (k7 : PySem.W.keepIn K (.ref f7) = true)
    (a8 : PySem.W.nsIn K mainGlobals "test_parts" = some (some (.ref f8))) (l8 : K.lookup f8 = some ⟨oc8, od8, .func (PySem.W.fnOf "test_parts" "test_parts" (defArgs s_test_parts) (defBody s_test_parts) (defScope s_test_parts) .none kV8 dc8 pm8 an8 cd8 ct8), sl8⟩) (c8 : PySem.W.codeIn K cd8 "test_parts" = true) (k8 : PySem.W.keepIn K (.ref f8) = true)
    (a9 : PySem.W.nsIn K mainGlobals "task_parts" = some (some (.ref f9))) (l9 : K.lookup f9 = some ⟨oc9, od9, .func (PySem.W.fnOf "task_parts" "task_parts" (defArgs s_task_parts) (defBody s_task_parts) (defScope s_task_parts) .none kV9 dc9 pm9 an9 cd9 ct9), sl9⟩) (c9 : PySem.W.codeIn K cd9 "task_parts" = true) (k9 : PySem.W.keepIn K (.ref f9) = true)
    (a10 : PySem.W.nsIn K mainGlobals "has_form" = some (some (.ref f10))) (l10 : K.lookup f10 = some ⟨oc10, od10, .func (PySem.W.fnOf "has_form" "has_form" (defArgs s_has_form) (defBody s_has_form) (defScope s_has_form) .none kV10 dc10 pm10 an10 cd10 ct10), sl10⟩) (c10 : PySem.W.codeIn K cd10 "has_form" = true) (k10 : PySem.W.keepIn K (.ref f10) = true)
    (a11 : PySem.W.nsIn K mainGlobals "is_task" = some (some (.ref f11))) (l11 : K.lookup f11 = some ⟨oc11, od11, .func (PySem.W.fnOf "is_task" "is_task" (defArgs s_is_task) (defBody s_is_task) (defScope s_is_task) .none kV11 dc11 pm11 an11 cd11 ct11), sl11⟩) (c11 : PySem.W.codeIn K cd11 "is_task" = true) (k11 : PySem.W.keepIn K (.ref f11) = true)
    (a12 : PySem.W.nsIn K mainGlobals "is_function" = some (some (.ref f12))) (l12 : K.lookup f12 = some ⟨oc12, od12, .func (PySem.W.fnOf "is_function" "is_function" (defArgs s_is_function) (defBody s_is_function) (defScope s_is_function) .none kV12 dc12 pm12 an12 cd12 ct12), sl12⟩) (c12 : PySem.W.codeIn K cd12 "is_function" = true) (k12 : PySem.W.keepIn K (.ref f12) = true)
    (a13 : PySem.W.nsIn K mainGlobals "is_arity" = some (some (.ref f13))) (l13 : K.lookup f13 = some ⟨oc13, od13, .func (PySem.W.fnOf "is_arity" "is_arity" (defArgs s_is_arity) (defBody s_is_arity) (defScope s_is_arity) .none kV13 dc13 pm13 an13 cd13 ct13), sl13⟩) (c13 : PySem.W.codeIn K cd13 "is_arity" = true) (k13 : PySem.W.keepIn K (.ref f13) = true)
    (a14 : PySem.W.nsIn K mainGlobals "is_function_parameter" = some (some (.ref f14))) (l14 : K.lookup f14 = some ⟨oc14, od14, .func (PySem.W.fnOf "is_function_parameter" "is_function_parameter" (defArgs s_is_function_parameter) (defBody s_is_function_parameter) (defScope s_is_function_parameter) .none kV14 dc14 pm14 an14 cd14 ct14), sl14⟩) (c14 : PySem.W.codeIn K cd14 "is_function_parameter" = true) (k14 : PySem.W.keepIn K (.ref f14) = true)
    (a15 : PySem.W.nsIn K mainGlobals "is_definition" = some (some (.ref f15))) (l15 : K.lookup f15 = some ⟨oc15, od15, .func (PySem.W.fnOf "is_definition" "is_definition" (defArgs s_is_definition) (defBody s_is_definition) (defScope s_is_definition) .none kV15 dc15 pm15 an15 cd15 ct15), sl15⟩) (c15 : PySem.W.codeIn K cd15 "is_definition" = true) (k15 : PySem.W.keepIn K (.ref f15) = true)
    (a16 : PySem.W.nsIn K mainGlobals "_law_well" = some (some (.ref f16))) (l16 : K.lookup f16 = some ⟨oc16, od16, .func (PySem.W.fnOf "_law_well" "_law_well" (defArgs s_well) (defBody s_well) (defScope s_well) .none kV16 dc16 pm16 an16 cd16 ct16), sl16⟩) (c16 : PySem.W.codeIn K cd16 "_law_well" = true) (k16 : PySem.W.keepIn K (.ref f16) = true)
    (a17 : PySem.W.nsIn K mainGlobals "_law_drawn" = some (some (.ref f17))) (l17 : K.lookup f17 = some ⟨oc17, od17, .func (PySem.W.fnOf "_law_drawn" "_law_drawn" (defArgs s_drawn) (defBody s_drawn) (defScope s_drawn) .none kV17 dc17 pm17 an17 cd17 ct17), sl17⟩) (c17 : PySem.W.codeIn K cd17 "_law_drawn" = true) (k17 : PySem.W.keepIn K (.ref f17) = true)
    (a18 : PySem.W.nsIn K mainGlobals "_law_one_of" = some (some (.ref f18))) (l18 : K.lookup f18 = some ⟨oc18, od18, .func (PySem.W.fnOf "_law_one_of" "_law_one_of" (defArgs s_one_of) (defBody s_one_of) (defScope s_one_of) .none kV18 dc18 pm18 an18 cd18 ct18), sl18⟩) (c18 : PySem.W.codeIn K cd18 "_law_one_of" = true) (k18 : PySem.W.keepIn K (.ref f18) = true)
    (a19 : PySem.W.nsIn K mainGlobals "_law_name" = some (some (.ref f19))) (l19 : K.lookup f19 = some ⟨oc19, od19, .func (PySem.W.fnOf "_law_name" "_law_name" (defArgs s_name) (defBody s_name) (defScope s_name) .none kV19 dc19 pm19 an19 cd19 ct19), sl19⟩) (c19 : PySem.W.codeIn K cd19 "_law_name" = true) (k19 : PySem.W.keepIn K (.ref f19) = true)
    (a20 : PySem.W.nsIn K mainGlobals "_law_parts" = some (some (.ref f20))) (l20 : K.lookup f20 = some ⟨oc20, od20, .func (PySem.W.fnOf "_law_parts" "_law_parts" (defArgs s_parts) (defBody s_parts) (defScope s_parts) .none kV20 dc20 pm20 an20 cd20 ct20), sl20⟩) (c20 : PySem.W.codeIn K cd20 "_law_parts" = true) (k20 : PySem.W.keepIn K (.ref f20) = true)
    (a21 : PySem.W.nsIn K mainGlobals "_law_call" = some (some (.ref f21))) (l21 : K.lookup f21 = some ⟨oc21, od21, .func (PySem.W.fnOf "_law_call" "_law_call" (defArgs s_call) (defBody s_call) (defScope s_call) .none kV21 dc21 pm21 an21 cd21 ct21), sl21⟩) (c21 : PySem.W.codeIn K cd21 "_law_call" = true) (k21 : PySem.W.keepIn K (.ref f21) = true)
    (a22 : PySem.W.nsIn K mainGlobals "_law_function" = some (some (.ref f22))) (l22 : K.lookup f22 = some ⟨oc22, od22, .func (PySem.W.fnOf "_law_function" "_law_function" (defArgs s_function) (defBody s_function) (defScope s_function) .none kV22 dc22 pm22 an22 cd22 ct22), sl22⟩) (c22 : PySem.W.codeIn K cd22 "_law_function" = true) (k22 : PySem.W.keepIn K (.ref f22) = true)
    (a23 : PySem.W.nsIn K mainGlobals "_law_task" = some (some (.ref f23))) (l23 : K.lookup f23 = some ⟨oc23, od23, .func (PySem.W.fnOf "_law_task" "_law_task" (defArgs s_task) (defBody s_task) (defScope s_task) .none kV23 dc23 pm23 an23 cd23 ct23), sl23⟩) (c23 : PySem.W.codeIn K cd23 "_law_task" = true) (k23 : PySem.W.keepIn K (.ref f23) = true)
    (a24 : PySem.W.nsIn K mainGlobals "_law_term" = some (some (.ref f24))) (l24 : K.lookup f24 = some ⟨oc24, od24, .func (PySem.W.fnOf "_law_term" "_law_term" (defArgs s_term) (defBody s_term) (defScope s_term) .none kV24 dc24 pm24 an24 cd24 ct24), sl24⟩) (c24 : PySem.W.codeIn K cd24 "_law_term" = true) (k24 : PySem.W.keepIn K (.ref f24) = true)
    (a25 : PySem.W.nsIn K mainGlobals "_law_chain" = some (some (.ref f25))) (l25 : K.lookup f25 = some ⟨oc25, od25, .func (PySem.W.fnOf "_law_chain" "_law_chain" (defArgs s_chain) (defBody s_chain) (defScope s_chain) .none kV25 dc25 pm25 an25 cd25 ct25), sl25⟩) (c25 : PySem.W.codeIn K cd25 "_law_chain" = true) (k25 : PySem.W.keepIn K (.ref f25) = true)
    (a26 : PySem.W.nsIn K mainGlobals "_law_odd" = some (some (.ref f26))) (l26 : K.lookup f26 = some ⟨oc26, od26, .func (PySem.W.fnOf "_law_odd" "_law_odd" (defArgs s_odd) (defBody s_odd) (defScope s_odd) .none kV26 dc26 pm26 an26 cd26 ct26), sl26⟩) (c26 : PySem.W.codeIn K cd26 "_law_odd" = true) (k26 : PySem.W.keepIn K (.ref f26) = true)
    (a27 : PySem.W.nsIn K mainGlobals "_law_bent" = some (some (.ref f27))) (l27 : K.lookup f27 = some ⟨oc27, od27, .func (PySem.W.fnOf "_law_bent" "_law_bent" (defArgs s_bent) (defBody s_bent) (defScope s_bent) .none kV27 dc27 pm27 an27 cd27 ct27), sl27⟩) (c27 : PySem.W.codeIn K cd27 "_law_bent" = true) (k27 : PySem.W.keepIn K (.ref f27) = true)
    (a28 : PySem.W.nsIn K mainGlobals "_law_is_name" = some (some (.ref f28))) (l28 : K.lookup f28 = some ⟨oc28, od28, .func (PySem.W.fnOf "_law_is_name" "_law_is_name" (defArgs s_w_is_name) (defBody s_w_is_name) (defScope s_w_is_name) .none kV28 dc28 pm28 an28 cd28 ct28), sl28⟩) (c28 : PySem.W.codeIn K cd28 "_law_is_name" = true) (k28 : PySem.W.keepIn K (.ref f28) = true)
    (a29 : PySem.W.nsIn K mainGlobals "_law_are_states" = some (some (.ref f29))) (l29 : K.lookup f29 = some ⟨oc29, od29, .func (PySem.W.fnOf "_law_are_states" "_law_are_states" (defArgs s_w_are_states) (defBody s_w_are_states) (defScope s_w_are_states) .none kV29 dc29 pm29 an29 cd29 ct29), sl29⟩) (c29 : PySem.W.codeIn K cd29 "_law_are_states" = true) (k29 : PySem.W.keepIn K (.ref f29) = true)
    (a30 : PySem.W.nsIn K mainGlobals "_law_are_all" = some (some (.ref f30))) (l30 : K.lookup f30 = some ⟨oc30, od30, .func (PySem.W.fnOf "_law_are_all" "_law_are_all" (defArgs s_are_all) (defBody s_are_all) (defScope s_are_all) .none kV30 dc30 pm30 an30 cd30 ct30), sl30⟩) (c30 : PySem.W.codeIn K cd30 "_law_are_all" = true) (k30 : PySem.W.keepIn K (.ref f30) = true)
    (a31 : PySem.W.nsIn K mainGlobals "_law_is_term" = some (some (.ref f31))) (l31 : K.lookup f31 = some ⟨oc31, od31, .func (PySem.W.fnOf "_law_is_term" "_law_is_term" (defArgs s_is_term) (defBody s_is_term) (defScope s_is_term) .none kV31 dc31 pm31 an31 cd31 ct31), sl31⟩) (c31 : PySem.W.codeIn K cd31 "_law_is_term" = true) (k31 : PySem.W.keepIn K (.ref f31) = true)
    (a32 : PySem.W.nsIn K mainGlobals "_law_definition" = some (some (.ref f32))) (l32 : K.lookup f32 = some ⟨oc32, od32, .func (PySem.W.fnOf "_law_definition" "_law_definition" (defArgs s_definition) (defBody s_definition) (defScope s_definition) .none kV32 dc32 pm32 an32 cd32 ct32), sl32⟩) (c32 : PySem.W.codeIn K cd32 "_law_definition" = true) (k32 : PySem.W.keepIn K (.ref f32) = true)
    (a33 : PySem.W.nsIn K mainGlobals "_law_named_twice" = some (some (.ref f33))) (l33 : K.lookup f33 = some ⟨oc33, od33, .func (PySem.W.fnOf "_law_named_twice" "_law_named_twice" (defArgs s_named_twice) (defBody s_named_twice) (defScope s_named_twice) .none kV33 dc33 pm33 an33 cd33 ct33), sl33⟩) (c33 : PySem.W.codeIn K cd33 "_law_named_twice" = true) (k33 : PySem.W.keepIn K (.ref f33) = true)
    (a34 : PySem.W.nsIn K mainGlobals "_law_is_definition" = some (some (.ref f34))) (l34 : K.lookup f34 = some ⟨oc34, od34, .func (PySem.W.fnOf "_law_is_definition" "_law_is_definition" (defArgs s_w_is_definition) (defBody s_w_is_definition) (defScope s_w_is_definition) .none kV34 dc34 pm34 an34 cd34 ct34), sl34⟩) (c34 : PySem.W.codeIn K cd34 "_law_is_definition" = true) (k34 : PySem.W.keepIn K (.ref f34) = true)
    (a35 : PySem.W.nsIn K mainGlobals "_law_is_right" = some (some (.ref f35))) (l35 : K.lookup f35 = some ⟨oc35, od35, .func (PySem.W.fnOf "_law_is_right" "_law_is_right" (defArgs s_is_right) (defBody s_is_right) (defScope s_is_right) .none kV35 dc35 pm35 an35 cd35 ct35), sl35⟩) (c35 : PySem.W.codeIn K cd35 "_law_is_right" = true) (k35 : PySem.W.keepIn K (.ref f35) = true)
    (a36 : PySem.W.nsIn K mainGlobals "law" = some (some (.ref f36))) (l36 : K.lookup f36 = some ⟨oc36, od36, .func (PySem.W.fnOf "law" "law" (defArgs s_law) (defBody s_law) (defScope s_law) .none kV36 dc36 pm36 an36 cd36 ct36), sl36⟩) (c36 : PySem.W.codeIn K cd36 "law" = true) (k36 : PySem.W.keepIn K (.ref f36) = true)
    (z_all : PySem.W.nsIn K mainGlobals "all" = some none)
    (z_bool : PySem.W.nsIn K mainGlobals "bool" = some none)
    (z_int : PySem.W.nsIn K mainGlobals "int" = some none)
    (z_isinstance : PySem.W.nsIn K mainGlobals "isinstance" = some none)
    (z_len : PySem.W.nsIn K mainGlobals "len" = some none)
    (z_list : PySem.W.nsIn K mainGlobals "list" = some none)
    (z_range : PySem.W.nsIn K mainGlobals "range" = some none)
    (z_repr : PySem.W.nsIn K mainGlobals "repr" = some none)
    (z_set : PySem.W.nsIn K mainGlobals "set" = some none)
    (z_str : PySem.W.nsIn K mainGlobals "str" = some none)
    (z_tuple : PySem.W.nsIn K mainGlobals "tuple" = some none)
    (z_zip : PySem.W.nsIn K mainGlobals "zip" = some none)
    {tLETTERS : Tok} (gLETTERS : PySem.W.nsIn K mainGlobals "LETTERS" = some (some (.str "abcdefghijklmnopqrstuvwxyz" tLETTERS)))
    {tLONGEST_NAME : Tok} (gLONGEST_NAME : PySem.W.nsIn K mainGlobals "LONGEST_NAME" = some (some (.int 8 tLONGEST_NAME)))
    {tMOST_STATES : Tok} (gMOST_STATES : PySem.W.nsIn K mainGlobals "MOST_STATES" = some (some (.int 3 tMOST_STATES)))
    {tPAIR : Tok} (gPAIR : PySem.W.nsIn K mainGlobals "PAIR" = some (some (.int 2 tPAIR)))
    {aSINGLE_WORDS : Addr} {odSINGLE_WORDS : Option Addr} {nSINGLE_WORDS : Nat} {slSINGLE_WORDS : Array (Option Value)} {tSINGLE_WORDS0 tSINGLE_WORDS1 tSINGLE_WORDS2 : Tok} (gSINGLE_WORDS : PySem.W.nsIn K mainGlobals "SINGLE_WORDS" = some (some (.ref aSINGLE_WORDS))) (lSINGLE_WORDS : K.lookup aSINGLE_WORDS = some ⟨.type "tuple", odSINGLE_WORDS, .seq #[.str "end" tSINGLE_WORDS0, .str "wait" tSINGLE_WORDS1, .str "fail" tSINGLE_WORDS2] nSINGLE_WORDS, slSINGLE_WORDS⟩)
    {tACTION_PARTS : Tok} (gACTION_PARTS : PySem.W.nsIn K mainGlobals "ACTION_PARTS" = some (some (.int 3 tACTION_PARTS)))
    {tTEST_PARTS : Tok} (gTEST_PARTS : PySem.W.nsIn K mainGlobals "TEST_PARTS" = some (some (.int 4 tTEST_PARTS)))
    {tCALL_PARTS : Tok} (gCALL_PARTS : PySem.W.nsIn K mainGlobals "CALL_PARTS" = some (some (.int 4 tCALL_PARTS)))
    {tMOST_PICKED : Tok} (gMOST_PICKED : PySem.W.nsIn K mainGlobals "MOST_PICKED" = some (some (.int 4 tMOST_PICKED)))
    {aARITIES : Addr} {odARITIES : Option Addr} {nARITIES : Nat} {slARITIES : Array (Option Value)} {tARITIES0 tARITIES1 : Tok} (gARITIES : PySem.W.nsIn K mainGlobals "ARITIES" = some (some (.ref aARITIES))) (lARITIES : K.lookup aARITIES = some ⟨.type "tuple", odARITIES, .seq #[.int 1 tARITIES0, .int 2 tARITIES1] nARITIES, slARITIES⟩)
    {tDEFINITION_PARTS : Tok} (gDEFINITION_PARTS : PySem.W.nsIn K mainGlobals "DEFINITION_PARTS" = some (some (.int 3 tDEFINITION_PARTS)))
    : ∃ fd : FuncData, (∀ (s : Shared) (v : Value), BindsTo s fd ⟨[v], []⟩ [("script", v)]) ∧ ∀ base : Heap, K.In base → base.Ns mainGlobals mg → FnG l.prog w K mg base 127 fa fd ["script"] (sp_law K) := by
  have e := hfa.symm.trans (PySem.W.mg_of X G a36)
  cases e
  have F0 := fun_mk (st := s_is_integer) l0 c0 k0
  have b0 := F0.binds (ps := P_is_integer) fun _ _ _ _ _ _ us hl => match us, hl with | [_], _ => rfl
  have F1 := fun_mk (st := s_is_name) l1 c1 k1
  have b1 := F1.binds (ps := P_is_name) fun _ _ _ _ _ _ us hl => match us, hl with | [_], _ => rfl
  have F2 := fun_mk (st := s_are_ascending) l2 c2 k2
  have b2 := F2.binds (ps := P_are_ascending) fun _ _ _ _ _ _ us hl => match us, hl with | [_], _ => rfl
  have F3 := fun_mk (st := s_is_state) l3 c3 k3
  have b3 := F3.binds (ps := P_is_state) fun _ _ _ _ _ _ us hl => match us, hl with | [_, _], _ => rfl
  have F4 := fun_mk (st := s_are_states) l4 c4 k4
  have b4 := F4.binds (ps := P_are_states) fun _ _ _ _ _ _ us hl => match us, hl with | [_, _], _ => rfl
  have F5 := fun_mk (st := s_call_parts) l5 c5 k5
  have b5 := F5.binds (ps := P_call_parts) fun _ _ _ _ _ _ us hl => match us, hl with | [_], _ => rfl
  have F6 := fun_mk (st := s_function_parts) l6 c6 k6
  have b6 := F6.binds (ps := P_function_parts) fun _ _ _ _ _ _ us hl => match us, hl with | [_], _ => rfl
  have F7 := fun_mk (st := s_action_parts) l7 c7 k7
  have b7 := F7.binds (ps := P_action_parts) fun _ _ _ _ _ _ us hl => match us, hl with | [_], _ => rfl
  have F8 := fun_mk (st := s_test_parts) l8 c8 k8
  have b8 := F8.binds (ps := P_test_parts) fun _ _ _ _ _ _ us hl => match us, hl with | [_], _ => rfl
  have F9 := fun_mk (st := s_task_parts) l9 c9 k9
  have b9 := F9.binds (ps := P_task_parts) fun _ _ _ _ _ _ us hl => match us, hl with | [_], _ => rfl
  have F10 := fun_mk (st := s_has_form) l10 c10 k10
  have b10 := F10.binds (ps := P_has_form) fun _ _ _ _ _ _ us hl => match us, hl with | [_, _], _ => rfl
  have F11 := fun_mk (st := s_is_task) l11 c11 k11
  have b11 := F11.binds (ps := P_is_task) fun _ _ _ _ _ _ us hl => match us, hl with | [_], _ => rfl
  have F12 := fun_mk (st := s_is_function) l12 c12 k12
  have b12 := F12.binds (ps := P_is_function) fun _ _ _ _ _ _ us hl => match us, hl with | [_], _ => rfl
  have F13 := fun_mk (st := s_is_arity) l13 c13 k13
  have b13 := F13.binds (ps := P_is_arity) fun _ _ _ _ _ _ us hl => match us, hl with | [_], _ => rfl
  have F14 := fun_mk (st := s_is_function_parameter) l14 c14 k14
  have b14 := F14.binds (ps := P_is_function_parameter) fun _ _ _ _ _ _ us hl => match us, hl with | [_], _ => rfl
  have F15 := fun_mk (st := s_is_definition) l15 c15 k15
  have b15 := F15.binds (ps := P_is_definition) fun _ _ _ _ _ _ us hl => match us, hl with | [_], _ => rfl
  have F16 := fun_mk (st := s_well) l16 c16 k16
  have b16 := F16.binds (ps := P_well) fun _ _ _ _ _ _ us hl => match us, hl with | [_], _ => rfl
  have F17 := fun_mk (st := s_drawn) l17 c17 k17
  have b17 := F17.binds (ps := P_drawn) fun _ _ _ _ _ _ us hl => match us, hl with | [_, _], _ => rfl
  have F18 := fun_mk (st := s_one_of) l18 c18 k18
  have b18 := F18.binds (ps := P_one_of) fun _ _ _ _ _ _ us hl => match us, hl with | [_, _], _ => rfl
  have F19 := fun_mk (st := s_name) l19 c19 k19
  have b19 := F19.binds (ps := P_name) fun _ _ _ _ _ _ us hl => match us, hl with | [_], _ => rfl
  have F20 := fun_mk (st := s_parts) l20 c20 k20
  have b20 := F20.binds (ps := P_parts) fun _ _ _ _ _ _ us hl => match us, hl with | [_, _, _, _, _], _ => rfl
  have F21 := fun_mk (st := s_call) l21 c21 k21
  have b21 := F21.binds (ps := P_call) fun _ _ _ _ _ _ us hl => match us, hl with | [_, _, _, _], _ => rfl
  have F22 := fun_mk (st := s_function) l22 c22 k22
  have b22 := F22.binds (ps := P_function) fun _ _ _ _ _ _ us hl => match us, hl with | [_, _, _], _ => rfl
  have F23 := fun_mk (st := s_task) l23 c23 k23
  have b23 := F23.binds (ps := P_task) fun _ _ _ _ _ _ us hl => match us, hl with | [_, _, _], _ => rfl
  have F24 := fun_mk (st := s_term) l24 c24 k24
  have b24 := F24.binds (ps := P_term) fun _ _ _ _ _ _ us hl => match us, hl with | [_], _ => rfl
  have F25 := fun_mk (st := s_chain) l25 c25 k25
  have b25 := F25.binds (ps := P_chain) fun _ _ _ _ _ _ us hl => match us, hl with | [_, _], _ => rfl
  have F26 := fun_mk (st := s_odd) l26 c26 k26
  have b26 := F26.binds (ps := P_odd) fun _ _ _ _ _ _ us hl => match us, hl with | [_], _ => rfl
  have F27 := fun_mk (st := s_bent) l27 c27 k27
  have b27 := F27.binds (ps := P_bent) fun _ _ _ _ _ _ us hl => match us, hl with | [_, _, _], _ => rfl
  have F28 := fun_mk (st := s_w_is_name) l28 c28 k28
  have b28 := F28.binds (ps := P_w_is_name) fun _ _ _ _ _ _ us hl => match us, hl with | [_], _ => rfl
  have F29 := fun_mk (st := s_w_are_states) l29 c29 k29
  have b29 := F29.binds (ps := P_w_are_states) fun _ _ _ _ _ _ us hl => match us, hl with | [_], _ => rfl
  have F30 := fun_mk (st := s_are_all) l30 c30 k30
  have b30 := F30.binds (ps := P_are_all) fun _ _ _ _ _ _ us hl => match us, hl with | [_, _], _ => rfl
  have F31 := fun_mk (st := s_is_term) l31 c31 k31
  have b31 := F31.binds (ps := P_is_term) fun _ _ _ _ _ _ us hl => match us, hl with | [_, _], _ => rfl
  have F32 := fun_mk (st := s_definition) l32 c32 k32
  have b32 := F32.binds (ps := P_definition) fun _ _ _ _ _ _ us hl => match us, hl with | [_, _], _ => rfl
  have F33 := fun_mk (st := s_named_twice) l33 c33 k33
  have b33 := F33.binds (ps := P_named_twice) fun _ _ _ _ _ _ us hl => match us, hl with | [_, _], _ => rfl
  have F34 := fun_mk (st := s_w_is_definition) l34 c34 k34
  have b34 := F34.binds (ps := P_w_is_definition) fun _ _ _ _ _ _ us hl => match us, hl with | [_], _ => rfl
  have F35 := fun_mk (st := s_is_right) l35 c35 k35
  have b35 := F35.binds (ps := P_is_right) fun _ _ _ _ _ _ us hl => match us, hl with | [_], _ => rfl
  have F36 := fun_mk (st := s_law) l36 c36 k36
  have b36 := F36.binds (ps := P_law) fun _ _ _ _ _ _ us hl => match us, hl with | [_], _ => rfl
  exact ⟨_, fun s v => .of_eq rfl, fun base _ _ => ok_law { a_is_integer := f0, d_is_integer := _, F_is_integer := F0, g_is_integer := PySem.W.mg_of X G a0, b_is_integer := b0, a_is_name := f1, d_is_name := _, F_is_name := F1, g_is_name := PySem.W.mg_of X G a1, b_is_name := b1, a_are_ascending := f2, d_are_ascending := _, F_are_ascending := F2, g_are_ascending := PySem.W.mg_of X G a2, b_are_ascending := b2, a_is_state := f3, d_is_state := _, F_is_state := F3, g_is_state := PySem.W.mg_of X G a3, b_is_state := b3, a_are_states := f4, d_are_states := _, F_are_states := F4, g_are_states := PySem.W.mg_of X G a4, b_are_states := b4, a_call_parts := f5, d_call_parts := _, F_call_parts := F5, g_call_parts := PySem.W.mg_of X G a5, b_call_parts := b5, a_function_parts := f6, d_function_parts := _, F_function_parts := F6, g_function_parts := PySem.W.mg_of X G a6, b_function_parts := b6, a_action_parts := f7, d_action_parts := _, F_action_parts := F7, g_action_parts := PySem.W.mg_of X G a7, b_action_parts := b7, a_test_parts := f8, d_test_parts := _, F_test_parts := F8, g_test_parts := PySem.W.mg_of X G a8, b_test_parts := b8, a_task_parts := f9, d_task_parts := _, F_task_parts := F9, g_task_parts := PySem.W.mg_of X G a9, b_task_parts := b9, a_has_form := f10, d_has_form := _, F_has_form := F10, g_has_form := PySem.W.mg_of X G a10, b_has_form := b10, a_is_task := f11, d_is_task := _, F_is_task := F11, g_is_task := PySem.W.mg_of X G a11, b_is_task := b11, a_is_function := f12, d_is_function := _, F_is_function := F12, g_is_function := PySem.W.mg_of X G a12, b_is_function := b12, a_is_arity := f13, d_is_arity := _, F_is_arity := F13, g_is_arity := PySem.W.mg_of X G a13, b_is_arity := b13, a_is_function_parameter := f14, d_is_function_parameter := _, F_is_function_parameter := F14, g_is_function_parameter := PySem.W.mg_of X G a14, b_is_function_parameter := b14, a_is_definition := f15, d_is_definition := _, F_is_definition := F15, g_is_definition := PySem.W.mg_of X G a15, b_is_definition := b15, a_well := f16, d_well := _, F_well := F16, g_well := PySem.W.mg_of X G a16, b_well := b16, a_drawn := f17, d_drawn := _, F_drawn := F17, g_drawn := PySem.W.mg_of X G a17, b_drawn := b17, a_one_of := f18, d_one_of := _, F_one_of := F18, g_one_of := PySem.W.mg_of X G a18, b_one_of := b18, a_name := f19, d_name := _, F_name := F19, g_name := PySem.W.mg_of X G a19, b_name := b19, a_parts := f20, d_parts := _, F_parts := F20, g_parts := PySem.W.mg_of X G a20, b_parts := b20, a_call := f21, d_call := _, F_call := F21, g_call := PySem.W.mg_of X G a21, b_call := b21, a_function := f22, d_function := _, F_function := F22, g_function := PySem.W.mg_of X G a22, b_function := b22, a_task := f23, d_task := _, F_task := F23, g_task := PySem.W.mg_of X G a23, b_task := b23, a_term := f24, d_term := _, F_term := F24, g_term := PySem.W.mg_of X G a24, b_term := b24, a_chain := f25, d_chain := _, F_chain := F25, g_chain := PySem.W.mg_of X G a25, b_chain := b25, a_odd := f26, d_odd := _, F_odd := F26, g_odd := PySem.W.mg_of X G a26, b_odd := b26, a_bent := f27, d_bent := _, F_bent := F27, g_bent := PySem.W.mg_of X G a27, b_bent := b27, a_w_is_name := f28, d_w_is_name := _, F_w_is_name := F28, g_w_is_name := PySem.W.mg_of X G a28, b_w_is_name := b28, a_w_are_states := f29, d_w_are_states := _, F_w_are_states := F29, g_w_are_states := PySem.W.mg_of X G a29, b_w_are_states := b29, a_are_all := f30, d_are_all := _, F_are_all := F30, g_are_all := PySem.W.mg_of X G a30, b_are_all := b30, a_is_term := f31, d_is_term := _, F_is_term := F31, g_is_term := PySem.W.mg_of X G a31, b_is_term := b31, a_definition := f32, d_definition := _, F_definition := F32, g_definition := PySem.W.mg_of X G a32, b_definition := b32, a_named_twice := f33, d_named_twice := _, F_named_twice := F33, g_named_twice := PySem.W.mg_of X G a33, b_named_twice := b33, a_w_is_definition := f34, d_w_is_definition := _, F_w_is_definition := F34, g_w_is_definition := PySem.W.mg_of X G a34, b_w_is_definition := b34, a_is_right := f35, d_is_right := _, F_is_right := F35, g_is_right := PySem.W.mg_of X G a35, b_is_right := b35, a_law := fa, d_law := _, F_law := F36, g_law := PySem.W.mg_of X G a36, b_law := b36, kb_is_task_thing := kb0 F11 (fun _ _ _ _ _ _ ws hl => match ws, hl with | [_], _ => rfl) pm0_rel, kb_is_function_thing := kb0 F12 (fun _ _ _ _ _ _ ws hl => match ws, hl with | [_], _ => rfl) pm0_rel, kb_is_definition_thing := kb0 F15 (fun _ _ _ _ _ _ ws hl => match ws, hl with | [_], _ => rfl) pm0_rel, n_all := PySem.W.mg_none_of X G z_all, n_bool := PySem.W.mg_none_of X G z_bool, n_int := PySem.W.mg_none_of X G z_int, n_isinstance := PySem.W.mg_none_of X G z_isinstance, n_len := PySem.W.mg_none_of X G z_len, n_list := PySem.W.mg_none_of X G z_list, n_range := PySem.W.mg_none_of X G z_range, n_repr := PySem.W.mg_none_of X G z_repr, n_set := PySem.W.mg_none_of X G z_set, n_str := PySem.W.mg_none_of X G z_str, n_tuple := PySem.W.mg_none_of X G z_tuple, n_zip := PySem.W.mg_none_of X G z_zip, m_LETTERS := ⟨_, PySem.W.mg_of X G gLETTERS, ⟨_, rfl⟩⟩, m_LONGEST_NAME := ⟨_, PySem.W.mg_of X G gLONGEST_NAME, ⟨_, rfl⟩⟩, m_MOST_STATES := ⟨_, PySem.W.mg_of X G gMOST_STATES, ⟨_, rfl⟩⟩, m_PAIR := ⟨_, PySem.W.mg_of X G gPAIR, ⟨_, rfl⟩⟩, a_SINGLE_WORDS := aSINGLE_WORDS, m_SINGLE_WORDS := ⟨_, PySem.W.mg_of X G gSINGLE_WORDS, rfl⟩, q_SINGLE_WORDS := fun H => .inr ⟨_, _, _, lSINGLE_WORDS, rfl, rfl, by show 3 ≤ sizeLine; decide, (.cons ⟨_, rfl⟩ (.cons ⟨_, rfl⟩ (.cons ⟨_, rfl⟩ .nil)))⟩, m_ACTION_PARTS := ⟨_, PySem.W.mg_of X G gACTION_PARTS, ⟨_, rfl⟩⟩, m_TEST_PARTS := ⟨_, PySem.W.mg_of X G gTEST_PARTS, ⟨_, rfl⟩⟩, m_CALL_PARTS := ⟨_, PySem.W.mg_of X G gCALL_PARTS, ⟨_, rfl⟩⟩, m_MOST_PICKED := ⟨_, PySem.W.mg_of X G gMOST_PICKED, ⟨_, rfl⟩⟩, a_ARITIES := aARITIES, m_ARITIES := ⟨_, PySem.W.mg_of X G gARITIES, rfl⟩, q_ARITIES := fun H => .inr ⟨_, _, _, lARITIES, rfl, rfl, by show 2 ≤ sizeLine; decide, (.cons ⟨_, rfl⟩ (.cons ⟨_, rfl⟩ .nil))⟩, m_DEFINITION_PARTS := ⟨_, PySem.W.mg_of X G gDEFINITION_PARTS, ⟨_, rfl⟩⟩ }⟩
end K05
open PySem PySem.W PyProof.Rows
set_option maxHeartbeats 0 in
theorem PySem.Challenge.cw_plugcaller_k05_terms_and_definitions_of_holds : PySem.Challenge.rw_plugcaller_k05_terms_and_definitions_of.Holds := by
  w_on; o_law; k_head; (case hw => w_witness2)
  k_fill
  refine Zg.walkG (l := PySem.Challenge.rw_plugcaller_k05_terms_and_definitions_of) (n := 63) (k := 127) (x := "script") (sp := K05.sp_law) rfl (by decide) rfl ⟨rfl, by decide, by decide⟩ (fun w h Y => PySem.W.kIn_of Y) ?F (fun K H a ns hl _ hS => ⟨a, ns, rfl, hS, hl, fun _ => rfl⟩)
  case F =>
    intro w mg fa h KX G hmg
    refine' K05.all_mk KX G hmg ?a0 ?l0 ?c0 ?k0 ?a1 ?l1 ?c1 ?k1 ?a2 ?l2 ?c2 ?k2 ?a3 ?l3 ?c3 ?k3 ?a4 ?l4 ?c4 ?k4 ?a5 ?l5 ?c5 ?k5 ?a6 ?l6 ?c6 ?k6 ?a7 ?l7 ?c7 ?k7 ?a8 ?l8 ?c8 ?k8 ?a9 ?l9 ?c9 ?k9 ?a10 ?l10 ?c10 ?k10 ?a11 ?l11 ?c11 ?k11 ?a12 ?l12 ?c12 ?k12 ?a13 ?l13 ?c13 ?k13 ?a14 ?l14 ?c14 ?k14 ?a15 ?l15 ?c15 ?k15 ?a16 ?l16 ?c16 ?k16 ?a17 ?l17 ?c17 ?k17 ?a18 ?l18 ?c18 ?k18 ?a19 ?l19 ?c19 ?k19 ?a20 ?l20 ?c20 ?k20 ?a21 ?l21 ?c21 ?k21 ?a22 ?l22 ?c22 ?k22 ?a23 ?l23 ?c23 ?k23 ?a24 ?l24 ?c24 ?k24 ?a25 ?l25 ?c25 ?k25 ?a26 ?l26 ?c26 ?k26 ?a27 ?l27 ?c27 ?k27 ?a28 ?l28 ?c28 ?k28 ?a29 ?l29 ?c29 ?k29 ?a30 ?l30 ?c30 ?k30 ?a31 ?l31 ?c31 ?k31 ?a32 ?l32 ?c32 ?k32 ?a33 ?l33 ?c33 ?k33 ?a34 ?l34 ?c34 ?k34 ?a35 ?l35 ?c35 ?k35 ?a36 ?l36 ?c36 ?k36 ?z_all ?z_bool ?z_int ?z_isinstance ?z_len ?z_list ?z_range ?z_repr ?z_set ?z_str ?z_tuple ?z_zip ?gLETTERS ?gLONGEST_NAME ?gMOST_STATES ?gPAIR ?gSINGLE_WORDS ?lSINGLE_WORDS ?gACTION_PARTS ?gTEST_PARTS ?gCALL_PARTS ?gMOST_PICKED ?gARITIES ?lARITIES ?gDEFINITION_PARTS
    (case a0 => k_is)
    (case l0 => k_is)
    (case c0 => k_is)
    (case k0 => k_is)
    (case a1 => k_is)
    (case l1 => k_is)
    (case c1 => k_is)
    (case k1 => k_is)
    (case a2 => k_is)
    (case l2 => k_is)
    (case c2 => k_is)
    (case k2 => k_is)
    (case a3 => k_is)
    (case l3 => k_is)
    (case c3 => k_is)
    (case k3 => k_is)
    (case a4 => k_is)
    (case l4 => k_is)
    (case c4 => k_is)
    (case k4 => k_is)
    (case a5 => k_is)
    (case l5 => k_is)
    (case c5 => k_is)
    (case k5 => k_is)
    (case a6 => k_is)
    (case l6 => k_is)
    (case c6 => k_is)
    (case k6 => k_is)
    (case a7 => k_is)
    (case l7 => k_is)
    (case c7 => k_is)
    (case k7 => k_is)
    (case a8 => k_is)
    (case l8 => k_is)
    (case c8 => k_is)
    (case k8 => k_is)
    (case a9 => k_is)
    (case l9 => k_is)
    (case c9 => k_is)
    (case k9 => k_is)
    (case a10 => k_is)
    (case l10 => k_is)
    (case c10 => k_is)
    (case k10 => k_is)
    (case a11 => k_is)
    (case l11 => k_is)
    (case c11 => k_is)
    (case k11 => k_is)
    (case a12 => k_is)
    (case l12 => k_is)
    (case c12 => k_is)
    (case k12 => k_is)
    (case a13 => k_is)
    (case l13 => k_is)
    (case c13 => k_is)
    (case k13 => k_is)
    (case a14 => k_is)
    (case l14 => k_is)
    (case c14 => k_is)
    (case k14 => k_is)
    (case a15 => k_is)
    (case l15 => k_is)
    (case c15 => k_is)
    (case k15 => k_is)
    (case a16 => k_is)
    (case l16 => k_is)
    (case c16 => k_is)
    (case k16 => k_is)
    (case a17 => k_is)
    (case l17 => k_is)
    (case c17 => k_is)
    (case k17 => k_is)
    (case a18 => k_is)
    (case l18 => k_is)
    (case c18 => k_is)
    (case k18 => k_is)
    (case a19 => k_is)
    (case l19 => k_is)
    (case c19 => k_is)
    (case k19 => k_is)
    (case a20 => k_is)
    (case l20 => k_is)
    (case c20 => k_is)
    (case k20 => k_is)
    (case a21 => k_is)
    (case l21 => k_is)
    (case c21 => k_is)
    (case k21 => k_is)
    (case a22 => k_is)
    (case l22 => k_is)
    (case c22 => k_is)
    (case k22 => k_is)
    (case a23 => k_is)
    (case l23 => k_is)
    (case c23 => k_is)
    (case k23 => k_is)
    (case a24 => k_is)
    (case l24 => k_is)
    (case c24 => k_is)
    (case k24 => k_is)
    (case a25 => k_is)
    (case l25 => k_is)
    (case c25 => k_is)
    (case k25 => k_is)
    (case a26 => k_is)
    (case l26 => k_is)
    (case c26 => k_is)
    (case k26 => k_is)
    (case a27 => k_is)
    (case l27 => k_is)
    (case c27 => k_is)
    (case k27 => k_is)
    (case a28 => k_is)
    (case l28 => k_is)
    (case c28 => k_is)
    (case k28 => k_is)
    (case a29 => k_is)
    (case l29 => k_is)
    (case c29 => k_is)
    (case k29 => k_is)
    (case a30 => k_is)
    (case l30 => k_is)
    (case c30 => k_is)
    (case k30 => k_is)
    (case a31 => k_is)
    (case l31 => k_is)
    (case c31 => k_is)
    (case k31 => k_is)
    (case a32 => k_is)
    (case l32 => k_is)
    (case c32 => k_is)
    (case k32 => k_is)
    (case a33 => k_is)
    (case l33 => k_is)
    (case c33 => k_is)
    (case k33 => k_is)
    (case a34 => k_is)
    (case l34 => k_is)
    (case c34 => k_is)
    (case k34 => k_is)
    (case a35 => k_is)
    (case l35 => k_is)
    (case c35 => k_is)
    (case k35 => k_is)
    (case a36 => k_is)
    (case l36 => k_is)
    (case c36 => k_is)
    (case k36 => k_is)
    (case z_all => k_is)
    (case z_bool => k_is)
    (case z_int => k_is)
    (case z_isinstance => k_is)
    (case z_len => k_is)
    (case z_list => k_is)
    (case z_range => k_is)
    (case z_repr => k_is)
    (case z_set => k_is)
    (case z_str => k_is)
    (case z_tuple => k_is)
    (case z_zip => k_is)
    (case gLETTERS => k_is)
    (case gLONGEST_NAME => k_is)
    (case gMOST_STATES => k_is)
    (case gPAIR => k_is)
    (case gSINGLE_WORDS => k_is)
    (case lSINGLE_WORDS => k_is)
    (case gACTION_PARTS => k_is)
    (case gTEST_PARTS => k_is)
    (case gCALL_PARTS => k_is)
    (case gMOST_PICKED => k_is)
    (case gARITIES => k_is)
    (case lARITIES => k_is)
    (case gDEFINITION_PARTS => k_is)
