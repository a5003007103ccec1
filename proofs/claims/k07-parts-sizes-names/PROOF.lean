import PyProof.Rows.All
import Wide.All
import OpenK.AllK
import Wide.FinOn
import HandS.ForMost
import PyProof.ReprRoads
import HandS.Set
import HandS.SetBool
import PyProof.Rows.SortShellAny
import HandS.TupMul
import HandS.TupAny
import PyProof.ReprBulk
import PyProof.FitsInt
import PySem.Challenge.RW_plugcaller_k07_parts_sizes_names
import HandS.Style
import HandS.Flow
import HandS.More
set_option Elab.async false
set_option linter.all false
set_option maxRecDepth 100000
set_option maxHeartbeats 4000000
/-! Zg: promises of defs that are called where no repr is under way (guards known to be none), and the end of a law over such a promise. -/
namespace Zg
open PySem PySem.Spec PyProof.Rows L2
/-- no repr is under way -/
abbrev Gd (A : Around) : Prop := A.guards = some []
/-- a def's promise, asked only where no repr is under way -/
structure FnG (P : Program) (w : World) (K : PySem.W.Frag) (mg : Str → Option Value) (base : Heap) (k : Nat) (f : Addr) (fd : FuncData) (ps : List Str) (sp : Sp) : Prop where
  len : ∀ vs H Q E, sp vs H Q E → vs.length = ps.length
  run : ∀ (A : Around) (outer : List Env) (s : Shared) (H : Hp) (args : Args) (us : List Value) (vs : List V) (Q : VK), Gd A → Room k A →
    Env0 P w K mg base A outer s H → BindsTo s fd args (ps.zip us) → Vals vs us → sp vs H Q E0 →
    codeAny (model P w) A (.call (.ref f) args) (CR CX0 outer P w H s Q E0) s
theorem FnG.of {P : Program} {w : World} {K : PySem.W.Frag} {mg : Str → Option Value} {base : Heap} {k : Nat} {f : Addr} {fd : FuncData} {ps : List Str} {sp : Sp}
    (F : FnOk P w K mg base CX0 k f fd ps sp) : FnG P w K mg base k f fd ps sp :=
  ⟨F.len, fun A outer s H args us vs Q _ hr e0 hb hv hs => F.run A outer s H args us vs Q E0 hr e0 hb hv hs⟩
section
variable {P : Program} {w : World} {K : PySem.W.Frag} {mg : Str → Option Value} {base : Heap}
theorem okG {x qual : Str} {st : Stmt} {f : Addr} {fd : FuncData} {N ps : List Str} {k : Nat} {sp : Sp} (F : Fun K x qual st f fd) (S : FnScope N ps (defScope st))
    (len : ∀ vs H Q E, sp vs H Q E → vs.length = ps.length)
    (hbody : ∀ (cdv : Value) (A : Around) (outer : List Env) (s : Shared) (H : Hp) (vs : List V) (Q : VK), Gd (A.deeper (envOfC qual (defScope st) s.heap.objs.size f cdv)) →
      Room k (A.deeper (envOfC qual (defScope st) s.heap.objs.size f cdv)) → sp vs H Q E0 →
      ∃ t, PSs (cxOf CX0 P w K mg base N qual (defScope st) f cdv A outer s H E0).nox (defBody st) t ∧ t { nx := fun _ H' => Q .non H', rt := Q } (start N vs) H) :
    FnG P w K mg base (k + 1) f fd ps sp := by
  obtain ⟨oc, od, kV, doc, pm, an, cdv, ct, osl, rfl, lk, hcd⟩ := F.ex
  refine ⟨len, fun A outer s H args us vs Q hgd hr e0 hb r hsp => ?_⟩
  have hl := len _ _ _ _ hsp
  have kept : ∀ b o, base.get? b = some o → s.heap.get? b = some o := fun b o e => (e0.bs b o e).1
  have known : ∀ y ∈ ps.zip us, (defScope st).names.lookup y.1 = some .local ∨
      ((defScope st).names.lookup y.1 = some .cell ∧ ((cellsFrom (s.heap.objs.size + 1) (defScope st).names []).lookup y.1).isSome = true) := fun ⟨n, v⟩ hy =>
    (S.par n (List.of_mem_zip hy).1).elim .inl fun q => .inr ⟨q, PySem.W.cellsFrom_some _ _ _ (.inl q)⟩
  refine codeAny_call_function hr.depth (e0.mod.kin.keeps kept _ _ lk) rfl S.co S.gen rfl (PySem.W.codeRec_of (e0.mod.kin.keeps kept) hcd) (hb _ _ _ _ ?_)
  refine wpAny_newFunctionEnv_cells S.kind known fun env he s1 x => ?_
  subst he
  refine ⟨(e0.mod.nolimit.keeps kept).keeps x.toInCall.keep, codeAny_func ?_⟩
  obtain ⟨t, ht, hq⟩ := hbody cdv A outer s H vs Q hgd (hr.deeper _) hsp
  refine wpAny_mono (ht.nox.run [] s1 (start N vs) H _ (inv_start S hr.hd e0 hl r x) hq) (fun fl s' hs => ?_) fun e s' hs => hs
  cases fl with
  | ret u =>
    obtain ⟨v, σ', H', J, rv, q⟩ := hs
    exact ⟨v, H', J.os, J.bare, J.base, J.hok, rv, q⟩
  | next =>
    obtain ⟨σ', H', J, q⟩ := hs
    exact ⟨V.non, H', J.os, J.bare, J.base, J.hok, rfl, q⟩
  | brk => exact hs.elim fun _ z => z.elim fun _ z => z.2.elim
  | cont => exact hs.elim fun _ z => z.elim fun _ z => z.2.elim
end
section
variable {X : Cx} {k : Nat} {f : Addr} {fd : FuncData} {ps ks : List Str} {sp : Sp} {dvs : List V} {ds : List Value} {x : Str} {p pos : Pos} {e : Expr} {es : List Expr} {kws : List Keyword} {t tk : TA}
/-- f(e, ..), f's promise asked where no repr is under way -/
theorem pe_callG (F : FnG X.prog X.w X.K X.mg X.base k f fd ps sp) (hgd : Gd X.A) (hr : Room k X.A) (hg : Gl X x) (hm : X.mg x = some (.ref f)) (hk : PySem.W.keepIn X.K (.ref f) = true) (hb : Binds X.K fd ps ds) (hd : Vals dvs ds)
    (ha : PA X (e :: es) t) (hdb : (x == ("__debug__" : Str)) = false := by decide) (he : starEach (e :: es) X.env = (false, eval e X.env) :: starEach es X.env := by rfl) (hpl : (backTo pos (starEach es X.env)).any (·.1) = false := by rfl) :
    PE X (.Call (.Name x p) (e :: es) [] pos) (tCall sp dvs E0 t) := by
  refine ⟨fun pins s σ H Q I h => wpAny_Call_Name_kw (ld_glob I hg hm ?_ hdb)⟩
  refine PySem.W.callWith_K (h₀ := X.base) I.ok.mod.kin hk (thn (ha.run pos pins s σ H _ I h) fun us s1 ⟨vs, H1, I1, r, q⟩ => ⟨I1.kIn, ?_⟩) he hpl
  have r2 : Vals (vs ++ dvs) (us ++ ds) := r.append hd
  have hl : (us ++ ds).length = ps.length := by rw [← r2.length]; exact F.len _ _ _ _ q
  refine wpAny_call (codeAny_mono (F.run X.A X.stack s1 H1 ⟨us, []⟩ (us ++ ds) (vs ++ dvs) Q hgd hr I1.env0 (hb s1 us I1.kIn hl) r2 q) fun r s' hq => ?_)
  cases r with
  | error e => exact hq.elim
  | ok fl =>
    cases fl with
    | ret u => exact I1.after hq
    | next => exact hq.elim
    | brk => exact hq.elim
    | cont => exact hq.elim
end
/-- how a call by keywords alone binds: g puts the keywords' values (names ks) in the parameters' order -/
structure KB0 (K : PySem.W.Frag) (fd : FuncData) (ps ks : List Str) (g : List Value → List Value) (gV : List V → List V) : Prop where
  to : ∀ (s : Shared) (ws : List Value), ws.length = ks.length → BindsTo s fd ⟨[], ks.zip ws⟩ (ps.zip (g ws))
  rel : ∀ {zs : List V} {ws : List Value}, Vals zs ws → Vals (gV zs) (g ws)
section
variable {X : Cx} {CX : CXT} {k : Nat} {f : Addr} {fd : FuncData} {ps ks : List Str} {sp : Sp} {E : XK} {x : Str} {p pos : Pos} {kws : List Keyword} {tk : TA} {g : List Value → List Value} {gV : List V → List V}
/-- f(k = v, ..): keywords alone -/
def tCallK0 (m : Nat) (sp : Sp) (gV : List V → List V) (E : XK) (tk : TA) : TE := fun σ H Q => tk σ H fun zs H2 => zs.length = m ∧ sp (gV zs) H2 Q E
theorem pe_callK0 (F : FnOk X.prog X.w X.K X.mg X.base CX k f fd ps sp) (hr : Room k X.A) (hg : Gl X x) (hm : X.mg x = some (.ref f)) (hk : PySem.W.keepIn X.K (.ref f) = true) (hb : KB0 X.K fd ps ks g gV) (hx : Passes CX X E)
    (hkw : PK X kws tk) (hall : (backToKw pos (keywordEach kws X.env)).all (·.1.isSome) = true := by rfl) (hks : (backToKw pos (keywordEach kws X.env)).filterMap (·.1) = ks := by rfl)
    (hdb : (x == ("__debug__" : Str)) = false := by decide) (hpl : ((backTo pos (starEach [] X.env)).any (·.1) || (backToKw pos (keywordEach kws X.env)).any (·.1.isNone)) = false := by rfl) :
    PE X (.Call (.Name x p) [] kws pos) (tCallK0 ks.length sp gV E tk) := by
  refine ⟨fun pins s σ H Q I h => wpAny_Call_Name_kw (ld_glob I hg hm ?_ hdb)⟩
  refine PySem.W.callWith_KW0 (h₀ := X.base) I.ok.mod.kin hk hall ?_ hpl
  refine thn (hkw.run pos pins s σ H _ I h) fun ws s2 ⟨zs, H2, I2, rz, l2, q2⟩ => ⟨I2.kIn, ?_⟩
  rw [hks, List.append_nil]
  have hw : ws.length = ks.length := by rw [← rz.length]; exact l2
  refine wpAny_call (codeAny_mono (F.run X.A X.stack s2 H2 ⟨[], ks.zip ws⟩ (g ws) (gV zs) Q E hr I2.env0 (hb.to s2 ws hw) (hb.rel rz) q2) fun r s' hq => ?_)
  cases r with
  | error e => exact hx pins σ H2 s2 e s' I2 hq
  | ok fl =>
    cases fl with
    | ret u => exact I2.after hq
    | next => exact hq.elim
    | brk => exact hq.elim
    | cont => exact hq.elim
end
/-- .. of a def of the text -/
theorem kb0 {K : PySem.W.Frag} {x qual : Str} {st : Stmt} {f : Addr} {fd : FuncData} {ps ks : List Str} {g : List Value → List Value} {gV : List V → List V} (F : Fun K x qual st f fd)
    (h : ∀ (kV doc pm : Value) (an : Option Addr) (cdv ct : Value) (ws : List Value), ws.length = ks.length → bindArgs (PySem.W.fnOf x qual (defArgs st) (defBody st) (defScope st) .none kV doc pm an cdv ct) ⟨[], ks.zip ws⟩ = pure (ps.zip (g ws)))
    (r : ∀ {zs : List V} {ws : List Value}, Vals zs ws → Vals (gV zs) (g ws)) : KB0 K fd ps ks g gV := by
  obtain ⟨oc, od, kV, doc, pm, an, cdv, ct, osl, rfl, lk, hcd⟩ := F.ex
  exact ⟨fun s ws hl => .of_eq (h kV doc pm an cdv ct ws hl), r⟩
/-! ### the end of a law over such a promise -/
section
variable {P : Program} {w : World} {K : PySem.W.Frag} {mg mb : Str → Option Value} {k : Nat} {fa a : Addr} {fd : FuncData} {x : Str} {sp : Sp} {s₁ : Shared} {vs : List Value} {ns : List Int}
/-- the call of the law, from an abstract heap that tracks the script at most -/
theorem enterG {H : Hp} (KX : K.In s₁.heap) (hns : s₁.heap.Ns mainGlobals mg) (hb : s₁.heap.Ns builtinsNs mb) (hbb : ∀ x : Str, x ≠ "__name__" → mb x = bootBuiltins x) (hlim : s₁.heap.NoLimit) (hg : s₁.gens = #[])
    (hscript : ∃ o : Obj, s₁.heap.get? a = some o ∧ ∀ es ep, o.data ≠ .dict es ep) (hr : Room k callerA)
    (F : ∀ base : Heap, K.In base → base.Ns mainGlobals mg → FnG P w K mg base k fa fd [x] sp) (hbind : ∀ (s : Shared) (u : Value), BindsTo s fd ⟨[u], []⟩ [(x, u)])
    (hsp : sp [.ref a] H (fun v _ => v = .bl true) E0) (hO : Only H) (hok : HOk P w H s₁.heap) (hA : ∀ b, H b ≠ none → b = a) (hK : H a ≠ none → K.lookup a = none) :
    codeAny (model P w) callerA (.call (.ref fa) ⟨[.ref a], []⟩) (fun r s' => r = .ok (.ret (.bool true)) ∧ OldK s₁.heap s'.heap ∧ s'.os = s₁.os ∧ AllBare s'.gens) s₁ := by
  obtain ⟨os, hs1, hs2⟩ := hscript
  have apart : ∀ b : Addr, H b ≠ none → (∀ o es ep, s₁.heap.get? b = some o → o.data = .dict es ep → False) := fun b hb o es ep e d => by
    rw [hA b hb, hs1] at e
    cases e
    exact hs2 es ep d
  have nsK : ∀ {b : Addr} {m : Str → Option Value}, s₁.heap.Ns b m → (hidT s₁.heap H).Ns b m := fun {b m} ⟨o, es, ep, e, d, r⟩ => by
    refine ⟨o, es, ep, hidT_get e ?_, d, r⟩
    cases q : H b with
    | none => rfl
    | some u => exact (apart b (by rw [q]; exact fun z => nomatch z) o es ep e d).elim
  have hKb : K.In (hidT s₁.heap H) := fun b o e => hidT_get (KX b o e) (by
    cases q : H b with
    | none => rfl
    | some u =>
      have e' : b = a := hA b (by rw [q]; exact fun z => nomatch z)
      rw [e'] at e q
      rw [hK (by rw [q]; exact fun z => nomatch z)] at e
      cases e)
  have hM : Mod K mg (hidT s₁.heap H) := ⟨hKb, nsK hns, ⟨mb, nsK hb, hbb⟩, let ⟨mc, h1, h2⟩ := hlim; ⟨mc, nsK h1, h2⟩⟩
  have e0 : Env0 P w K mg (hidT s₁.heap H) callerA [] s₁ H :=
    ⟨rfl, hM, fun b o e => of_hidT e, Nat.le_of_eq (hidT_size _ _), trivial, fun b hb => absurd hb List.not_mem_nil, hok, .of_eq hg⟩
  refine codeAny_mono ((F _ hKb (nsK hns)).run callerA [] s₁ H ⟨[.ref a], []⟩ [.ref a] [.ref a] _ rfl hr e0 (hbind s₁ (.ref a)) (.cons rfl .nil) hsp) fun r s' h => ?_
  cases r with
  | error e => exact h.elim
  | ok fl =>
    cases fl with
    | next => exact h.elim
    | brk => exact h.elim
    | cont => exact h.elim
    | ret u =>
      obtain ⟨v, H', os', bare, un, hok', r', q⟩ := h
      obtain rfl : v = .bl true := q
      obtain rfl : u = Value.bool true := r'
      refine ⟨rfl, OldK.of_keep fun b o e => ?_, os', bare⟩
      cases q : H b with
      | none => exact un.keep b o e q List.not_mem_nil List.not_mem_nil
      | some u =>
        rcases hO b with z | ⟨ob, xs, z⟩
        · rw [q] at z
          cases z
        · obtain ⟨e1, _⟩ := hok b _ z
          obtain ⟨e2, _⟩ := hok' b _ (un.frzs b ob _ z)
          rw [e] at e1
          cases e1
          exact e2
theorem callG (KX : K.In s₁.heap) (hns : s₁.heap.Ns mainGlobals mg) (hb : s₁.heap.Ns builtinsNs mb) (hbb : ∀ x : Str, x ≠ "__name__" → mb x = bootBuiltins x) (hlim : s₁.heap.NoLimit) (hg : s₁.gens = #[])
    (ha : s₁.heap.get? a = some { cls := .type "list", data := .seq vs.toArray }) (hi : IntsAre vs ns) (hl : ns.length ≤ sizeLine) (hr : Room k callerA)
    (F : ∀ base : Heap, K.In base → base.Ns mainGlobals mg → FnG P w K mg base k fa fd [x] sp) (hbind : ∀ (s : Shared) (u : Value), BindsTo s fd ⟨[u], []⟩ [(x, u)])
    (hsp : ∀ H : Hp, Only H → SqL K H a (ns.map V.int) → sp [.ref a] H (fun v _ => v = .bl true) E0) :
    codeAny (model P w) callerA (.call (.ref fa) ⟨[.ref a], []⟩) (fun r s' => r = .ok (.ret (.bool true)) ∧ OldK s₁.heap s'.heap ∧ s'.os = s₁.os ∧ AllBare s'.gens) s₁ := by
  have rv := vals_ints hi
  have hsc : ∃ o : Obj, s₁.heap.get? a = some o ∧ ∀ es ep, o.data ≠ .dict es ep := ⟨_, ha, fun _ _ z => nomatch z⟩
  cases hk : K.lookup a with
  | some o =>
    have e := KX a o hk
    rw [ha] at e
    cases e
    refine enterG (H := fun _ => none) KX hns hb hbb hlim hg hsc hr F hbind (hsp _ (fun _ => .inl rfl) (.inr ⟨_, vs.toArray, _, hk, rfl, rfl, rfl, by rw [List.size_toArray, hi.length]; exact hl, by simpa using rv⟩))
      (fun _ => .inl rfl) (fun b u z => nomatch (show (none : Option HO) = some u from z)) (fun b z => absurd rfl z) fun z => absurd rfl z
  | none =>
    have one : ∀ {b : Addr} {u : HO}, (if b = a then some (HO.frz { cls := .type "list", data := .seq vs.toArray } (.lst (ns.map V.int))) else none) = some u → b = a := fun {b u} z => by
      by_cases q : b = a
      · exact q
      · rw [if_neg q] at z
        cases z
    have hO : Only (fun b => if b = a then some (HO.frz { cls := .type "list", data := .seq vs.toArray } (.lst (ns.map V.int))) else none) := fun b => by
      by_cases q : b = a
      · exact .inr ⟨_, _, if_pos q⟩
      · exact .inl (if_neg q)
    refine enterG KX hns hb hbb hlim hg hsc hr F hbind (hsp _ hO (.inl (.inr ⟨_, if_pos rfl⟩))) hO (fun b u z => ?_) (fun b z => ?_) fun _ => hk
    · have q := one z
      subst q
      have z' := (if_pos rfl).symm.trans z
      cases z'
      exact ⟨ha, by rw [List.length_map]; exact hl, vs, _, rv, ha⟩
    · cases q : (if b = a then some (HO.frz { cls := .type "list", data := .seq vs.toArray } (.lst (ns.map V.int))) else none) with
      | none => exact absurd q z
      | some u => exact one q
end
/-- the goal that the head leaves, from the law's promise -/
theorem walkG {l : PySem.W.OpenLaw} {n k : Nat} {q : Program} {loose : List Str} {XP : (Str → Option Value) → Heap → Prop} {YP : World → Heap → Prop} {d : DefRec} {K : Params → PySem.W.Frag} {sp : PySem.W.Frag → Sp} {x : Str}
    (hn : l.most = some n) (hn2 : n ≤ sizeLine) (hdf : d.params.defaults = []) (hr : Room k callerA) (hY : ∀ (w : World) (h : Heap), YP w h → (K w.params).In h)
    (F : ∀ (w : World) (mg : Str → Option Value) (fa : Addr) (h : Heap), (K w.params).In h → h.Ns mainGlobals mg → mg d.name = some (.ref fa) →
      ∃ fd : FuncData, (∀ (s : Shared) (u : Value), BindsTo s fd ⟨[u], []⟩ [(x, u)]) ∧
        ∀ base : Heap, (K w.params).In base → base.Ns mainGlobals mg → FnG l.prog w (K w.params) mg base k fa fd [x] (sp (K w.params)))
    (hsp : ∀ (K : PySem.W.Frag) (H : Hp) (a : Addr) (ns : List Int), ns.length ≤ n → Only H → SqL K H a (ns.map V.int) → sp K [.ref a] H (fun v _ => v = .bl true) E0) :
    PySem.W.WalkO q loose XP YP l.row.toRowW d [] (fun f vs => PySem.call f vs) := by
  refine Att.attach_call hn hdf fun w s₀ s₁ mg mb fa o pm cd doc a vs ns G Y ho hd hcd hmg hobj hints hlen hg => ?_
  have KX := hY w _ Y
  obtain ⟨fd, hb, hF⟩ := F w mg fa _ KX G.T.g hmg
  exact callG KX G.T.g G.T.b G.T.builtins G.T.nolimit hg hobj hints (Nat.le_trans hlen hn2) hr hF hb fun H hO hS => hsp _ H a ns hlen hO hS
/-! ### repr of data -/
section
variable {X : Cx}
/-- repr(x), x an object that holds data -/
def rRepr (K : PySem.W.Frag) : List V → Hp → VK → Prop := fun xs H Q => ∃ (a : Addr) (d : PyData), xs = [.ref a] ∧ Dp K H (.ref a) d ∧ d.showable = true ∧ d.hasDict = false ∧ d.depth ≤ 60 ∧ d.shown.length ≤ sizeLine ∧ Q (.str d.shown) H
theorem cr_repr {k : Nat} (hgd : Gd X.A) (hr : Room k X.A) : CallR X (.builtin "repr") (rRepr X.K) := by
  intro pins s σ H xs us Q I r h
  obtain ⟨a, d, rfl, hd, hs, hn, hdp, hz, q⟩ := h
  obtain ⟨u, rfl, ru⟩ := Vals.one r
  cases ru
  obtain ⟨as, rd⟩ := Dp.reads I d _ _ hd rfl
  have hu := hr.un
  refine repr_of_reads' rd hs (fun z => by rw [hn] at z; cases z) hgd (by omega) (fun _ _ e => e) (fun h' u tk hk => ?_) hz
  exact ⟨.str d.shown, H, I.kept hk, ⟨u, rfl⟩, q⟩
end
end Zg
set_option Elab.async false
set_option linter.all false
set_option maxRecDepth 100000
set_option maxHeartbeats 4000000
/-! Zs: sets of texts: made by a comprehension, a text added, sorted. A set is told by the list of its members (in some order, none twice). -/
namespace Zs
open PySem PySem.Spec PyProof.Rows L2
/-- the text of a row of a set's table -/
def kS (e : Int × Value) : Str := match e.2 with
  | .str x _ => x
  | _ => Str.empty
def GS (w : World) (e : Int × Value) : Prop := ∃ x t, e.2 = Value.str x t ∧ e.1 = hashStr w x
/-- the set of texts at a, its members -/
structure SS (w : World) (h : Heap) (a : Addr) (L : List Str) : Prop where
  nd : L.Nodup
  sm : L.length < scanBound
  ex : ∃ o es ep t, h.get? a = some o ∧ o.ExactSet ∧ o.data = .set es ep t ∧ (∀ e ∈ es.toList, GS w e) ∧ (es.toList.map kS).Perm L ∧ t.fits es.size = true ∧ Ris t.place.toList ∧ (w.params.followText "set-order" = true ∨ t.led = true)
/-- a member more -/
def ins (x : Str) (L : List Str) : List Str := if x ∈ L then L else L ++ [x]
theorem mem_ins {x y : Str} {L : List Str} : y ∈ ins x L ↔ y ∈ L ∨ y = x := by
  unfold ins
  split
  · rename_i h
    exact ⟨.inl, fun z => z.elim id fun e => e ▸ h⟩
  · rw [List.mem_append, List.mem_singleton]
theorem ins_nodup {x : Str} {L : List Str} (h : L.Nodup) : (ins x L).Nodup := by
  unfold ins
  split
  · exact h
  · rename_i q
    exact List.nodup_append.mpr ⟨h, List.nodup_cons.mpr ⟨List.not_mem_nil, List.nodup_nil⟩, fun a ha b hb e => by
      rw [List.mem_singleton] at hb
      exact q (by rw [← hb, ← e]; exact ha)⟩
theorem ins_len (x : Str) (L : List Str) : (ins x L).length ≤ L.length + 1 := by
  unfold ins
  split
  · exact Nat.le_succ _
  · rw [List.length_append, List.length_singleton]
    exact Nat.le_refl _
section
variable {P : Program} {w : World} {h h' : Heap} {a : Addr} {L : List Str}
theorem SS.at (R : SS w h a L) (k : ∀ o, h.get? a = some o → h'.get? a = some o) : SS w h' a L := by
  obtain ⟨o, es, ep, t, ho, r⟩ := R.ex
  exact ⟨R.nd, R.sm, o, es, ep, t, k o ho, r⟩
theorem gs_elems {l : List (Int × Value)} (g : ∀ e ∈ l, GS w e) : ElemsOf (PySem.strKind P w) l := fun e he => by
  obtain ⟨x, t, h1, h2⟩ := g e he
  exact ⟨⟨x, by rw [h1]; exact strKind_is P w x t, h2⟩, by rw [h1]; rfl⟩
theorem gs_is {e : Int × Value} (g : GS w e) (x : Str) : (PySem.strKind P w).is x e.2 = true ↔ kS e = x := by
  obtain ⟨y, t, h1, _⟩ := g
  unfold kS
  rw [h1]
  show (Value.isStrOf x (.str y t) = true) ↔ y = x
  constructor
  · intro q
    obtain ⟨u, hu⟩ := Value.isStrOf_shape q
    injection hu
  · intro q
    rw [q]
    exact strKind_is P w x t
theorem SS.size {o : Obj} {es : Array (Int × Value)} (p : (es.toList.map kS).Perm L) : es.size = L.length := by
  have q := p.length_eq
  rw [List.length_map, Array.length_toList] at q
  exact q
theorem SS.setOf (R : SS w h a L) : h.SetOf (PySem.strKind P w) a (fun x => decide (x ∈ L)) L.length := by
  obtain ⟨o, es, ep, t, ho, hx, hd, g, p, hf, _⟩ := R.ex
  have hz := SS.size (o := o) p
  refine ⟨o, es, ep, t, ho, hx, hd, gs_elems g, fun x => ?_, by rw [hz]; exact R.sm, hf, hz⟩
  rw [decide_eq_true_eq, ← p.mem_iff, List.mem_map]
  exact ⟨fun ⟨e, he, q⟩ => ⟨e, he, (gs_is (g e he) x).2 q⟩, fun ⟨e, he, q⟩ => ⟨e, he, (gs_is (g e he) x).1 q⟩⟩
end
section
variable {P : Program} {w : World} {A : Around} {E : Value → Shared → Prop} {s : Shared} {a : Addr} {L : List Str}
/-- the rows es1 are stored with the table t2, and laid anew where it is too full -/
theorem stored {g : Bool → Sem Unit} (hg : ∀ (b : Bool) (s₁ : Shared) (Q' : Unit → Shared → Prop), Q' () s₁ → wpAny (model P w) A (g b) Q' E s₁)
    {o : Obj} {es : Array (Int × Value)} {ep : Nat} {t : SetTable} (ho : s.heap.get? a = some o) (hex : o.ExactSet) (hd : o.data = .set es ep t)
    {es1 : Array (Int × Value)} {t2 : SetTable} (g1 : ∀ e ∈ es1.toList, GS w e) (p1 : (es1.toList.map kS).Perm L) (nd : L.Nodup) (sm : L.length < scanBound)
    (hf2 : t2.fits es1.size = true) (hr : Ris t2.place.toList) (hl : w.params.followText "set-order" = true ∨ t2.led = true) {was : Bool} {R : Option Bool → Shared → Prop}
    (hR : ∀ h', Heap.SameBut a s.heap h' → SS w h' a L → R (some true) { s with heap := h' }) :
    wpAny (model P w) A (do
        storeSet a es1 t2
        if (!was && t2.tooFull) = true then do
            g (relayAll t2 es1 (SetTable.grown es1.size)).2.2
            storeSet a (relayAll t2 es1 (SetTable.grown es1.size)).1 (relayAll t2 es1 (SetTable.grown es1.size)).2.1
            pure (some true)
          else pure (some true)) R E s := by
  have hb1 : es1.size < scanBound := by rw [SS.size (o := o) p1]; exact sm
  have at1 := store_at (es' := es1) (t' := t2) ho hd
  have same1 := Heap.SameBut.update s.heap a (Obj.putSet es1 t2)
  refine wpAny_bind (wpAny_storeSet_of ho hd ?_ (fits_of_scanBound hb1))
  by_cases full : (!was && t2.tooFull) = true
  · rw [if_pos full]
    have pm := relayAll_perm t2 es1 (SetTable.grown es1.size)
    have hf3 := relayAll_fits t2 es1 (SetTable.grown es1.size)
    have hr3 := relayAll_ris t2 es1 (SetTable.grown es1.size)
    have hl3 := relayAll_led t2 es1 (SetTable.grown es1.size)
    generalize relayAll t2 es1 (SetTable.grown es1.size) = Z at pm hf3 hr3 hl3 ⊢
    obtain ⟨es2, t3, gave⟩ := Z
    dsimp only at pm hf3 hr3 hl3 ⊢
    have p2 : (es2.toList.map kS).Perm L := (pm.map kS).trans p1
    have hb2 : es2.size < scanBound := by rw [SS.size (o := o) p2]; exact sm
    refine wpAny_bind (hg _ _ _ (wpAny_bind (wpAny_storeSet_of at1 rfl ?_ (fits_of_scanBound hb2))))
    refine wpAny_pure (hR _ (same1.trans (Heap.SameBut.update _ a _)) ⟨nd, sm, _, es2, _, t3, store_at (es' := es2) (t' := t3) at1 rfl, hex, rfl, fun e he => g1 e (pm.mem_iff.mp he), p2, ?_, hr3, hl.imp id fun z => by rw [hl3]; exact z⟩)
    exact hf3
  · rw [if_neg full]
    exact wpAny_pure (hR _ same1 ⟨nd, sm, _, es1, _, t2, at1, hex, rfl, g1, p1, hf2, hr, hl⟩)
theorem add_hashed {x : Str} {tk : Tok} {Q : Bool → Shared → Prop} (R : SS w s.heap a L) (room : L.length + 1 < scanBound)
    (hQ : ∀ b h', Heap.SameBut a s.heap h' → SS w h' a (ins x L) → Q b { s with heap := h' }) :
    wpAny (model P w) A (setAddHashed a (.str x tk) ((PySem.strKind P w).hash x)) Q E s := by
  obtain ⟨nd, sm, o, es, ep, t, ho, hex, hd, g, p, hf, hr, hl⟩ := R
  have hz := SS.size (o := o) p
  have hkey : (PySem.strKind P w).is x (.str x tk) = true := strKind_is P w x tk
  have hsc : (Value.str x tk).scannable = true := rfl
  have hel : ElemsOf (PySem.strKind P w) es.toList := gs_elems g
  have hb : es.size < scanBound := by rw [hz]; exact sm
  unfold setAddHashed setAddHashedIn
  refine wpAny_holding (wpAny_bind (wpAny_setState_of ho hd hf ?_))
  dsimp only
  rw [byScan_of hsc hb hel]
  simp only [↓reduceIte]
  unfold setAddByScan
  refine wpAny_bind (wpAny_bind (wpAny_rule (wpAny_bind (wpAny_setScan_of hkey ho hd hf hel ?_))))
  cases hfi : List.findIdx? (fun e => (PySem.strKind P w).is x e.2) es.toList with
  | some j =>
    dsimp only
    obtain ⟨hj, pj, _⟩ := List.findIdx?_eq_some_iff_getElem.mp hfi
    have hx : x ∈ L := p.mem_iff.mp (List.mem_map.mpr ⟨es.toList[j], List.getElem_mem hj, (gs_is (g _ (List.getElem_mem hj)) x).1 pj⟩)
    refine wpAny_pure (wpAny_pure (hQ _ s.heap (Heap.SameBut.refl a s.heap) ?_))
    have e : ins x L = L := if_pos hx
    rw [e]
    exact ⟨nd, sm, o, es, ep, t, ho, hex, hd, g, p, hf, hr, hl⟩
  | none =>
    dsimp only
    have hx : x ∉ L := fun z => by
      obtain ⟨e, he, q⟩ := List.mem_map.mp (p.mem_iff.mpr z)
      have c := List.findIdx?_eq_none_iff.mp hfi e he
      rw [(gs_is (P := P) (g e he) x).2 q] at c
      cases c
    have eL : ins x L = L ++ [x] := if_neg hx
    have hgw : ∀ (b : Bool) {s₁ : Shared} {Q' : Unit → Shared → Prop}, Q' () s₁ → wpAny (model P w) A (match b with | true => rule "set.scan.the-table-gave-way" | false => pure ()) Q' E s₁ :=
      fun b s₁ Q' q => by cases b <;> first | exact wpAny_pure q | exact wpAny_rule q
    have pm := layNew_perm t es ((PySem.strKind P w).hash x) (.str x tk)
    have hf1 := layNew_fits t es ((PySem.strKind P w).hash x) (.str x tk)
    have hr1 := layNew_ris t es ((PySem.strKind P w).hash x) (.str x tk) hr
    have hl1 := layNew_led t es ((PySem.strKind P w).hash x) (.str x tk)
    generalize layNew t es ((PySem.strKind P w).hash x) (.str x tk) = Z at pm hf1 hr1 hl1 ⊢
    obtain ⟨es1, t1, was, gave⟩ := Z
    dsimp only at pm hf1 hr1 hl1 ⊢
    rw [Array.toList_push] at pm
    have p1 : (es1.toList.map kS).Perm (L ++ [x]) := by
      have q := pm.map kS
      rw [List.map_append] at q
      exact q.trans (p.append_right [x])
    have g1 : ∀ e ∈ es1.toList, GS w e := fun e he => by
      rcases List.mem_append.mp (pm.mem_iff.mp he) with z | z
      · exact g e z
      · rw [List.mem_singleton] at z
        rw [z]
        exact ⟨x, tk, rfl, rfl⟩
    have nd1 : (L ++ [x]).Nodup := by rw [← eL]; exact ins_nodup nd
    have sm1 : (L ++ [x]).length < scanBound := by rw [List.length_append, List.length_singleton]; exact room
    have hled : w.params.followText "set-order" = true ∨ t1.led = true := hl.imp id fun z => by rw [hl1]; exact z
    have fin : ∀ h', Heap.SameBut a s.heap h' → SS w h' a (L ++ [x]) → Q true { s with heap := h' } := fun h' sb r => hQ true h' sb (by rw [eL]; exact r)
    refine wpAny_bind (hgw _ ?_)
    split
    · refine wpAny_bind ?_
      rw [hashByValue_scannable 8 hsc]
      refine wpAny_pure ?_
      refine stored ?_ ho hex hd g1 p1 nd1 sm1 ?_ ?_ ?_ ?_
      · intro b s₁ Q' q; cases b <;> first | exact wpAny_pure q | exact wpAny_rule q
      · first | (split <;> first | exact hf1 | exact SetTable.fits_plain_off hf1) | exact hf1
      · first | (split <;> exact hr1) | exact hr1
      · first | (split <;> exact hled) | exact hled
      · intro h' sb r; dsimp only; exact wpAny_pure (fin h' sb r)
    · refine wpAny_bind (wpAny_pure ?_)
      simp only [↓reduceIte]
      refine stored ?_ ho hex hd g1 p1 nd1 sm1 hf1 hr1 hled ?_
      · intro b s₁ Q' q; cases b <;> first | exact wpAny_pure q | exact wpAny_rule q
      · intro h' sb r; dsimp only; exact wpAny_pure (fin h' sb r)
theorem add_ok {x : Str} {tk : Tok} {Q : Value → Shared → Prop} (R : SS w s.heap a L) (room : L.length + 1 < scanBound)
    (hQ : ∀ h', Heap.SameBut a s.heap h' → SS w h' a (ins x L) → Q .none { s with heap := h', toks := s.toks + 1 }) :
    wpAny (model P w) A (call (.builtin "set.add") [.ref a, .str x tk]) Q E s := by
  have hS : s.heap.SetOf (PySem.strKind P w) a _ _ := R.setOf
  refine wpAny_call_entry F.slot_set_add hS.typeIs F.entry_set_add ?_ (F.args_set_add_2 _ _)
  unfold Builtin.«set.add» Builtin.Frozenset.oneOther
  simp only [List.isEmpty_nil, bind_assoc]
  unfold Builtin.Frozenset.addrOf setAdd
  refine wpAny_bind (wpAny_pure ?_)
  try dsimp only
  refine wpAny_bind (wpAny_pure ?_)
  try dsimp only
  refine wpAny_bind (wpAny_holding (wpAny_bind ((PySem.strKind P w).pyHash (strKind_is P w x tk) ?_)))
  refine add_hashed (s := { s with toks := s.toks + 1 }) R room fun b h' sb r => ?_
  show wpAny _ _ (ret Value.none) _ _ _
  exact wpAny_pure ⟨_, rfl, hQ h' sb r⟩
theorem fresh {h : Heap} (w : World) : SS w (h.push { cls := .type "set", dict := none, data := .set #[] 0 (.fresh 0 0 (!w.params.followText "set-order")) }) h.objs.size [] :=
  ⟨List.nodup_nil, by decide, _, #[], 0, _, Heap.get?_push_size _ rfl, ⟨rfl, rfl, rfl⟩, rfl, (fun e he => by simp at he), List.Perm.refl _, by rfl, List.Pairwise.nil, by
    show _ ∨ (!w.params.followText "set-order") = true
    cases w.params.followText "set-order"
    · exact .inr rfl
    · exact .inl rfl⟩
theorem strsAre_of : ∀ (vs : List Value), (∀ v ∈ vs, ∃ x t, v = Value.str x t) → StrsAre vs (vs.map fun v => kS (0, v))
  | [], _ => .nil
  | v :: l, h => by
    obtain ⟨x, t, rfl⟩ := h v List.mem_cons_self
    exact .cons x t (strsAre_of l fun u hu => h u (List.mem_cons_of_mem _ hu))
theorem sorted_ok {Q : Value → Shared → Prop} (R : SS w s.heap a L) (hh : A.handled = none) (h64 : L.length < 64)
    (hQ : ∀ s' p (out : Array Value) (c : Nat) (ys : List Str), (∀ b o, s.heap.get? b = some o → s'.heap.get? b = some o) → s'.gens = s.gens → s'.os = s.os → s.heap.objs.size ≤ p →
      s'.heap.get? p = some (seqObj "list" out c) → StrsAre out.toList ys → ys.Perm L → sortedS ys = true → Q (.ref p) s') :
    wpAny (model P w) A (call (.builtin "sorted") [.ref a]) Q E s := by
  obtain ⟨nd, sm, o, es, ep, t, ho, hex, hd, g, pL, hf, hr, hl⟩ := R
  have hz := SS.size (o := o) pL
  have hb : es.size < scanBound := by rw [hz]; exact sm
  refine Calls.call_function_entry kind_sorted plain_sorted entry_sorted (args_sorted1 _) ?_
  unfold Builtin.«sorted»
  refine wpAny_bind (m := checkCount "sorted" 1 1 _) (wpAny_pure ?_)
  refine wpAny_bind (collect_set (A := A.in1) hh ⟨o, ho, hex.1, hd⟩ hf hb hr hl fun s1 vs k1 hz1 g1 o1 pm => ?_)
  have hvl : vs.length = L.length := by rw [pm.length_eq, List.length_map, Array.length_toList]; exact hz
  have hS : StrsAre vs (vs.map fun v => kS (0, v)) := strsAre_of vs fun v hv => by
    obtain ⟨e, he, q⟩ := List.mem_map.mp (pm.mem_iff.mp hv)
    obtain ⟨x, tk, h1, _⟩ := g e he
    exact ⟨x, tk, by rw [← q]; exact h1⟩
  have pk : (vs.map fun v => kS (0, v)).Perm L := by
    have q := pm.map fun v => kS (0, v)
    rw [List.map_map] at q
    exact q.trans pL
  refine wpAny_bind (wpAny_newList ?_ (by rw [hvl, sizeLine_eq]; omega))
  have hoL : (s1.heap.push (seqObj "list" vs.toArray 0)).get? s1.heap.objs.size = some (seqObj "list" vs.toArray 0) := Heap.get?_push_size _ rfl
  refine wpAny_bind (wpAny_holding (wpAny_call_entry slot_list_sort ⟨_, hoL, rfl⟩ entry_list_sort
    (list_sort_treeK strKind_oneLt hoL hS.keysOf (fun v₁ v₂ rest e => keyKind_strs (by rw [← e]; exact hS)) (by rw [hvl]; exact h64) fun st' hp hs => ⟨_, rfl, ?_⟩) (args_list_sort _)))
  obtain ⟨ys, a1, a2, a3⟩ := sorted_out_str hS hp hs
  obtain ⟨c, hc⟩ := sortedHeap_at (vs := vs) (out := (arrOf st').map (·.2)) hoL
  refine wpAny_pure ⟨_, rfl, hQ _ s1.heap.objs.size _ c ys (fun b u e => ?_) g1 o1 hz1 hc a1 (a2.trans pk) a3⟩
  have q := k1 b u e
  have hlt := Heap.lt_size q
  show (sortedHeap (s1.heap.push (seqObj "list" vs.toArray 0)) s1.heap.objs.size vs _).get? b = some u
  rw [sortedHeap_old (Nat.ne_of_lt hlt) (by rw [size_push']; exact Nat.lt_succ_of_lt hlt)]
  exact Heap.get?_push_of_some _ q
end
/-! ### over the layer -/
/-- the set of texts at a -/
def SSO (w : World) (a : Addr) (L : List Str) : HO := .ext fun h => SS w h a L
theorem sso_new {w : World} {P : Program} {H : Hp} {h : Heap} {a : Addr} {L : List Str} (R : SS w h a L) : ObjOk P w H h a (SSO w a L) := by
  obtain ⟨o, es, ep, t, ho, _⟩ := R.ex
  exact ⟨R, ⟨o, ho⟩, fun h1 h2 p k => SS.at p k⟩
section
variable {X : Cx}
theorem sso_get {pins : List (Addr × Obj)} {σ : L2.St} {H : Hp} {s : Shared} {a : Addr} {L : List Str} (I : Inv X pins σ H s) (ha : H a = some (SSO X.w a L)) : SS X.w s.heap a L := (I.hok a _ ha).1
theorem addS {pins : List (Addr × Obj)} {σ : L2.St} {H : Hp} {s : Shared} {E : Value → Shared → Prop} {D : Addr} {L : List Str} {x : Str} {tk : Tok} {Q : Value → Shared → Prop} (I : Inv X pins σ H s) (hD : H D = some (SSO X.w D L)) (room : L.length + 1 < scanBound)
    (h : ∀ s', Inv X pins σ (upd H D (SSO X.w D (ins x L))) s' → Q .none s') : wpAny (model X.prog X.w) X.A (call (.builtin "set.add") [.ref D, .str x tk]) Q E s := by
  refine add_ok (sso_get I hD) room fun h' sb new => ?_
  have he : ∃ u, h'.get? D = some u := by
    obtain ⟨o, es, ep, t, ho, _⟩ := new.ex
    exact ⟨o, ho⟩
  exact h _ (I.write (e := D) (t' := s.toks + 1) (by rw [hD]; trivial) (.inl rfl) (fun b u hb hu => (sb.2 b hb).trans hu) he (sso_new new))
/-- sorted(a set of texts), fewer than 64 -/
def rSortedSS (w : World) : List V → Hp → VK → Prop := fun vs H Q => ∃ (a : Addr) (L : List Str), vs = [V.ref a] ∧ H a = some (SSO w a L) ∧ L.length < 64 ∧
  ∀ (ys : List Str) (p : Addr), ys.Perm L → sortedS ys = true → H p = none → Q (.ref p) (upd H p (.lst (ys.map V.str)))
theorem cr_sortedSS (hc : X.calm = true) : CallR X (.builtin "sorted") (rSortedSS X.w) := by
  intro pins s σ H vs us Q I r h
  obtain ⟨a, L, rfl, ha, h64, q⟩ := h
  rw [Vals.ref1 r]
  refine sorted_ok (sso_get I ha) (I.ok.hd hc) h64 fun s' p out c ys k g o hp hg hi pm hs => ?_
  have hlen : (ys.map V.str).length ≤ sizeLine := by rw [List.length_map, pm.length_eq]; exact small64 h64
  have hn : H p = none := I.hok.fresh hp
  have J : Inv X pins σ (upd H p (.lst (ys.map V.str))) { s with heap := s'.heap, gens := s'.gens, drawn := s'.drawn, toks := s'.toks } :=
    I.call (ch := []) (Un.laid k hp hn) (I.hok.laid k hp ⟨hlen, out.toList, c, vals_of_strs hi, hg⟩) (by rw [g]; exact I.bare) (fun _ z => nomatch z)
  have e : s' = { s with heap := s'.heap, gens := s'.gens, drawn := s'.drawn, toks := s'.toks } := by
    cases s'
    cases s
    cases o
    rfl
  rw [e]
  exact ⟨.ref p, _, J, rfl, q ys p pm hs hn⟩
end
section
variable {X : Cx}
/-- {elt for target in iter if ..}, elt a text: D the new set -/
def tSS (w : World) (wi : TI) (g : TG) (tt : TT) (te : TE) (vs : List Nat) : TE := fun σ H Q => wi σ H fun J H1 => ∀ D, H1 D = none → ∃ W : Nat → Nat → Hp → Prop, (∃ m, W 0 m (upd H1 D (SSO w D []))) ∧ ∀ i m H, W i m H →
  (J.stop i H ∧ Q (.ref D) H) ∨ (J.go i H ∧ ∃ Nx : Hp → Prop, (∀ H', Nx H' → ∃ m', m' < m ∧ W (i + 1) m' H') ∧ ∀ x H', J.yld i H x H' → g x (wipe σ vs) H' fun σ2 H2 => wipe σ2 vs = wipe σ vs ∧ tt σ2 H2 fun b H3 =>
    if b = true then te σ2 H3 fun y H4 => ∃ (c : Str) (L : List Str), y = .str c ∧ H4 D = some (SSO w D L) ∧ L.length + 1 < scanBound ∧ Nx (upd H4 D (SSO w D (ins c L))) else Nx H3)
theorem pe_ss {elt tg iter : Expr} {ifs : List Expr} {scope : Scope} {own : List (PySem.Str × Nat)} {pos : Pos} {wi : TI} {g : TG} {tt : TT} {te : TE} (hc : X.calm = true) (hN : X.N.Nodup) (hi : PI X tg iter wi) (ok : BlkOk X.N X.env.scope scope own)
    (hg : ∀ (s : Shared) (H : Hp) (C : Addr) (cl : List (PySem.Str × Addr)) (fp : List Addr), PG (X.blk s H scope (compEnvC scope cl C X.env) fp) tg g) (ht : ∀ (s : Shared) (H : Hp) (C : Addr) (cl : List (PySem.Str × Addr)) (fp : List Addr), PTs (X.blk s H scope (compEnvC scope cl C X.env) fp) ifs tt)
    (he : ∀ (s : Shared) (H : Hp) (C : Addr) (cl : List (PySem.Str × Addr)) (fp : List Addr), PE (X.blk s H scope (compEnvC scope cl C X.env) fp) elt te) (hs : ∀ x, foldedSetIterable iter X.env x = pure x := by intro _; rfl) :
    PE X (.SetComp elt [⟨tg, iter, ifs, 0⟩] scope pos) (tSS X.w wi g tt te (own.map (·.2))) := by
  refine ⟨fun pins s σ H Q I h => ?_⟩
  rw [PpSet.eval_SetComp]
  have known : ∀ y ∈ scope.names, y.2 = .free → ∃ c, X.env.cells.lookup y.1 = some c := fun y hy e => (ok.free y hy e).elim (fun k => I.ok.has _ (.inl k)) fun k => I.ok.has _ (.inr k)
  refine wpAny_comprehension_free (use := none) rfl hs (closure_ok known) ok.kind (fun y hy e => by rw [ok.uniq y hy, e])
    (thn (hi.run pins s σ H _ I h) fun xv s1 hx => thn hx fun itv s2 h2 => ?_)
  obtain ⟨it, fp, tn, J, H2, e, I2, T, st2, f2, q⟩ := h2
  subst e
  refine PpSet.newSet_ok (newEnv_comp ?_)
  generalize hD : s2.heap.objs.size = D
  obtain ⟨W, ⟨m0, w0⟩, turn⟩ := q D (I2.hok.fresh (Nat.le_of_eq hD))
  generalize hs3 : ({ s2 with heap := s2.heap.push { cls := .type "set", dict := none, data := .set #[] 0 (.fresh 0 0 (!X.w.params.followText "set-order")) } } : Shared) = s3
  have h3 : s3.heap = s2.heap.push { cls := .type "set", dict := none, data := .set #[] 0 (.fresh 0 0 (!X.w.params.followText "set-order")) } := by rw [← hs3]
  have I3 : Inv X pins σ (upd H2 D (SSO X.w D [])) s3 := by
    rw [← hs3]
    refine I2.laid (t' := s2.toks) (fun b o e => Heap.get?_push_of_some _ e) (Nat.le_of_eq hD) ?_
    rw [← hD]
    exact sso_new (fresh X.w)
  have older : ∀ b ∈ fp, b < s2.heap.objs.size := fun b hb => by
    obtain ⟨o, e, _⟩ := T.obj _ _ st2 b hb
    exact Heap.lt_size e
  have f3 : ∀ b ∈ fp, FpOk X pins (upd H2 D (SSO X.w D [])) b ∧ b < s3.heap.objs.size := fun b hb => by
    have hlt := older b hb
    refine ⟨⟨?_, (f2 b hb).2⟩, by rw [h3, Heap.size_push]; exact Nat.lt_succ_of_lt hlt⟩
    rw [upd_ne (by rw [← hD]; exact Nat.ne_of_lt hlt)]
    exact (f2 b hb).1
  have st3 : tn 0 s3.heap := T.keep _ _ _ st2 fun b _ o e => by rw [h3]; exact Heap.get?_push_of_some _ e
  have I4 := block_start I3 ok hN f3
  have pg := hg s3 (upd H2 D (SSO X.w D [])) s3.heap.objs.size (cellsFrom (s3.heap.objs.size + 1) scope.names (cloFrom X.env.cells scope.names [])) fp
  have pt := ht s3 (upd H2 D (SSO X.w D [])) s3.heap.objs.size (cellsFrom (s3.heap.objs.size + 1) scope.names (cloFrom X.env.cells scope.names [])) fp
  have pe := he s3 (upd H2 D (SSO X.w D [])) s3.heap.objs.size (cellsFrom (s3.heap.objs.size + 1) scope.names (cloFrom X.env.cells scope.names [])) fp
  have nfp : ∀ b ∈ fp, (upd H2 D (SSO X.w D [])) b = none := fun b hb => (f3 b hb).1.1
  show codeAny _ _ (.compStart (.SetComp elt [⟨tg, iter, ifs, 0⟩] scope pos) 0 (.ref it) (.ref D) (compEnvC scope (cellsFrom (s3.heap.objs.size + 1) scope.names (cloFrom X.env.cells scope.names [])) s3.heap.objs.size X.env)) (compPost (model X.prog X.w) X.A X.xe none _ (.ref D) s3.heap.objs.size) { s3 with heap := pushCells (s3.heap.push { cls := .type "dict", data := .dict #[] }) scope.names }
  generalize hce : compEnvC scope (cellsFrom (s3.heap.objs.size + 1) scope.names (cloFrom X.env.cells scope.names [])) s3.heap.objs.size X.env = ce at I4 pg pt pe ⊢
  have cL : ce.locals = s3.heap.objs.size := by subst hce; rfl
  generalize hH3 : upd H2 D (SSO X.w D []) = H3 at I3 I4 pg pt pe w0 nfp f3
  generalize hs4 : ({ s3 with heap := pushCells (s3.heap.push { cls := .type "dict", data := .dict #[] }) scope.names } : Shared) = s4 at I4 ⊢
  have st4 : tn 0 s4.heap := T.keep _ _ _ st3 fun b _ o e => by rw [← hs4]; exact pushCells_keeps _ _ _ _ (Heap.get?_push_of_some _ e)
  have stat : ∀ {σ' : L2.St} {H' : Hp} {s' : Shared}, Inv (X.blk s3 H3 scope ce fp) [] σ' H' s' → (∀ b ∈ fp, H' b = none) → ∀ b ∈ fp, FpOk (X.blk s3 H3 scope ce fp) [] H' b := fun {σ' H' s'} I' hn b hb =>
    ⟨hn b hb, (I'.ok.exf b hb).1, I'.ok.exfs b hb, .inl hb, fun x c e => (I'.ok.exf b hb).2 x c e, fun p hp => absurd (show p ∈ ([] : List (Addr × Obj)) ++ [] from hp) (by simp)⟩
  have loop : codeAny (model X.prog X.w) X.A (.compLoop (.SetComp elt [⟨tg, iter, ifs, 0⟩] scope pos) 0 (.ref it) (.ref D) ce) (compPost (model X.prog X.w) X.A X.xe none (EP X pins σ Q) (.ref D) s3.heap.objs.size) s4 := by
    refine PpSet.compLoopS_any (fun n s' => ∃ i H', Inv (X.blk s3 H3 scope ce fp) [] (wipe σ (own.map (·.2))) H' s' ∧ tn i s'.heap ∧ (∀ b ∈ fp, H' b = none) ∧ W i n H') ?_ m0 ⟨0, H3, I4, st4, nfp, w0⟩
    rintro n s5 ⟨i, H5, I5, st5, n5, w5⟩
    rcases turn i n H5 w5 with ⟨stop, qq⟩ | ⟨go, Nx, hNx, step⟩
    · refine thnF (T.done (X.blk s3 H3 scope ce fp) rfl rfl rfl hc i [] s5 _ H5 (fun _ _ => False) I5 (stat I5 n5) st5 stop) fun r s6 ⟨hr, I6⟩ => ?_
      subst hr
      have I7 : Inv X pins σ H5 s6 := I3.call' (ch := fp) I6.os I6.base I6.hok I6.bare fun b hb => ⟨(f3 b hb).1.2.2.2.1, (f3 b hb).1.2.1, (f3 b hb).1.2.2.2.2.1, (f3 b hb).1.2.2.2.2.2⟩
      have nC : H5 s3.heap.objs.size = none := by
        have z : H5 ce.locals = none := I6.free
        rw [cL] at z
        exact z
      obtain ⟨m, hn, _⟩ := I6.loc
      have hn : s6.heap.Ns ce.locals m := hn
      rw [cL] at hn
      refine ⟨m, hn, fun h'' sb => ?_⟩
      obtain ⟨u0, u1, u2, u3, u4, u5⟩ := I3.fpOk (Nat.le_refl _) nC
      exact ⟨.ref D, H5, I7.turned (t' := s6.toks) (fun b o hb e => (sb.2 b hb).trans e) u0 u1 u3 u4 u5, rfl, qq⟩
    · refine thnF (T.item (X.blk s3 H3 scope ce fp) rfl rfl rfl hc i [] s5 _ H5 (fun _ _ => False) I5 (stat I5 n5) st5 go) fun r s6 ⟨u, hr, h6⟩ => ?_
      subst hr
      refine thnF h6 fun _ s7 ⟨x, H7, I7, r7, y7, st7, n7⟩ => ?_
      refine thnF (pg.run _ s7 _ H7 x u _ (I7.pinned (stat I7 n7) (T.obj _ _ st7)) r7 (step x H7 y7)) fun _ s8 ⟨σ8, H8, I8, hw8, q8⟩ => ?_
      refine thnF (pt.run _ s8 σ8 H8 _ I8 q8) fun b s9 ⟨H9, I9, q9⟩ => ?_
      have fin : ∀ {s' : Shared} {H' : Hp}, Inv (X.blk s3 H3 scope ce fp) ([] ++ pinsAt fp s7.heap) σ8 H' s' → Nx H' → ∃ m, m < n ∧ ∃ i H', Inv (X.blk s3 H3 scope ce fp) [] (wipe σ (own.map (·.2))) H' s' ∧ tn i s'.heap ∧ (∀ b ∈ fp, H' b = none) ∧ W i m H' := fun {s' H'} I' nx => by
        obtain ⟨m', hm, w'⟩ := hNx H' nx
        have held : ∀ b ∈ fp, ∀ o, s7.heap.get? b = some o → s'.heap.get? b = some o ∧ H' b = none := fun b hb o e =>
          let z := I'.pin (b, o) (List.mem_append_right _ (List.mem_append_right _ (mem_pinsAt hb e)))
          ⟨z.1, z.2.1⟩
        have hl : (wipe σ (own.map (·.2))).length = σ8.length := by rw [← hw8, wipe_length]
        refine ⟨m', hm, i + 1, H', (I'.unpinned (pins := [])).weak hl (fun j v e => ?_), T.keep _ _ _ st7 fun b hb o e => (held b hb o e).1, fun b hb => ?_, w'⟩
        · rw [← hw8] at e
          exact (wipe_some e).1
        · obtain ⟨o, e, _⟩ := T.obj _ _ st7 b hb
          exact (held b hb o e).2
      cases b with
      | false =>
        simp only [Bool.false_eq_true, if_false] at q9 ⊢
        exact fin I9 q9
      | true =>
        simp only [if_true] at q9 ⊢
        refine thnF (pe.run _ s9 σ8 H9 _ I9 q9) fun z s10 ⟨yv, H10, I10, r10, cb, S0, ey, hD10, hz10, nx⟩ => ?_
        subst ey
        obtain ⟨tk, rfl⟩ := (show ∃ t, z = Value.str cb t from r10)
        exact addS (X := X.blk s3 H3 scope ce fp) I10 hD10 hz10 fun s11 I11 => fin I11 nx
  exact PpSet.codeAny_compStart_set loop (T.self X.A 0 _ _ _ st4 loop)
end
/-- over a list that the block leaves as it is -/
theorem ss_list {K : PySem.W.Frag} {w : World} {a : Addr} {xs : List V} {g : TG} {tt : TT} {te : TE} {vs : List Nat} {σ : L2.St} {H1 : Hp} {D : Addr} {Qd : Hp → Prop} (Pv : Nat → Hp → Prop) (h0 : Pv 0 (upd H1 D (SSO w D []))) (hl : ∀ i H, i ≤ xs.length → Pv i H → SqL K H a xs)
    (hs : ∀ i x H, xs[i]? = some x → Pv i H → g x (wipe σ vs) H fun σ2 H2 => wipe σ2 vs = wipe σ vs ∧ tt σ2 H2 fun b H3 =>
      if b = true then te σ2 H3 fun y H4 => ∃ (c : Str) (L : List Str), y = .str c ∧ H4 D = some (SSO w D L) ∧ L.length + 1 < scanBound ∧ Pv (i + 1) (upd H4 D (SSO w D (ins c L))) else Pv (i + 1) H3) (hd : ∀ H, Pv xs.length H → Qd H) :
    ∃ W : Nat → Nat → Hp → Prop, (∃ m, W 0 m (upd H1 D (SSO w D []))) ∧ ∀ i m H, W i m H →
      ((Itl K a).stop i H ∧ Qd H) ∨ ((Itl K a).go i H ∧ ∃ Nx : Hp → Prop, (∀ H', Nx H' → ∃ m', m' < m ∧ W (i + 1) m' H') ∧ ∀ x H', (Itl K a).yld i H x H' → g x (wipe σ vs) H' fun σ2 H2 => wipe σ2 vs = wipe σ vs ∧ tt σ2 H2 fun b H3 =>
        if b = true then te σ2 H3 fun y H4 => ∃ (c : Str) (L : List Str), y = .str c ∧ H4 D = some (SSO w D L) ∧ L.length + 1 < scanBound ∧ Nx (upd H4 D (SSO w D (ins c L))) else Nx H3) := by
  refine ⟨fun i m H => m = xs.length - i ∧ i ≤ xs.length ∧ Pv i H, ⟨xs.length, by simp, Nat.zero_le _, h0⟩, ?_⟩
  rintro i m H ⟨rfl, hi, p⟩
  have q := hl i H hi p
  by_cases hlt : i < xs.length
  · refine .inr ⟨⟨xs, xs[i], q, by simp [hlt]⟩, Pv (i + 1), fun H' p' => ⟨xs.length - (i + 1), by omega, rfl, hlt, p'⟩, fun x H' y => ?_⟩
    obtain ⟨e, y⟩ := y
    subst e
    exact hs i x _ (y xs q) p
  · have e : i = xs.length := by omega
    subst e
    exact .inl ⟨⟨xs, q, Nat.le_refl _⟩, hd H p⟩
end Zs
set_option Elab.async false
set_option linter.all false
set_option maxRecDepth 100000
set_option maxHeartbeats 4000000
/-! Zr: some rules of values: xs.extend(a tuple), t * 1. -/
namespace Zr
open PySem PySem.Spec PyProof.Rows L2
theorem extend_tup (l : Addr) (items : Array Value) (n : Nat) (b : Addr) (items2 : Array Value) (n2 : Nat) (dd : Option Addr) (sl : Array (Option Value)) (hs0 : ¬(!items.isEmpty && Builtin.List.listTooLong (items.size + items2.size)) = true) (hs1 : items.size ≤ sizeLine) (hs2 : items.size + items2.size ≤ sizeLine + 1) :
    Meets (Builtin.«list.extend» ⟨[.ref l, .ref b], []⟩) (fun _ R s => s.heap.get? l = some { cls := .type "list", dict := none, data := .seq items n, slots := #[] } ∧ s.heap.get? b = some { cls := .type "tuple", dict := dd, data := .seq items2 n2, slots := sl } ∧
      R (.ok (.ret Value.none)) { s with heap := s.heap.update l (Obj.mapSeq fun x => x ++ items2), toks := s.toks }) :=
  .of_wp fun prog w A R s h => by
    obtain ⟨hp, g, d, tk, os⟩ := s
    obtain ⟨hl, hb, h⟩ := h
    have f1 := AutoSeq1.idx_int
    have f2 := AutoSeq1.sub_tuple_tuple
    have f3 := AutoSeq1.sub_list_list
    have f4 := AutoSeq1.sub_tuple_list
    have f5 := AutoSeq1.sub_list_tuple
    have hz' : (items ++ items2).size ≤ sizeLine + 1 := by rw [Array.size_append]; exact hs2
    wp_walk using (wpAny_updateSeq hl rfl (hz := hs1) (_hz' := hz')), wpAny_loadPart' hl, wpAny_loadPart' hb
    exact ⟨_, rfl, h⟩
theorem tuple_mul1 (l : Addr) (items : Array Value) (n : Nat) (dd : Option Addr) (sl : Array (Option Value)) (u : Tok) :
    Meets (Builtin.«tuple.__mul__» ⟨[.ref l, .int 1 u], []⟩) (fun _ R s => s.heap.get? l = some { cls := .type "tuple", dict := dd, data := .seq items n, slots := sl } ∧ R (.ok (.ret (Value.ref l))) s) :=
  .of_wp fun prog w A R s h => by
    obtain ⟨hp, g, d, tk, os⟩ := s
    obtain ⟨hl, h⟩ := h
    have f1 := AutoSeq1.idx_int
    have c0 : (decide ((1 : Int) < -(2 ^ 63)) || decide ((1 : Int) ≥ 2 ^ 63)) = false := by decide
    have c1 : (items.isEmpty || (1 : Int) == 1) = true := by simp
    wp_walk using wpAny_loadPart' hl
    repeat (first
      | (refine wpAny_ite_false (decide_eq_false (by rw [c0]; exact Bool.false_ne_true)) ?_; wp_walk using wpAny_loadPart' hl)
      | (refine wpAny_ite_true (decide_eq_true c1) ?_; wp_walk using wpAny_loadPart' hl))
    exact ⟨_, rfl, h⟩
section
variable {X : Cx}
def rExtT (K : PySem.W.Frag) : V → List V → Hp → VK → Prop := fun x vs H Q => ∃ l b xs zs, x = .ref l ∧ vs = [.ref b] ∧ H l = some (.lst xs) ∧ SqT K H b zs ∧ xs.length + zs.length ≤ sizeLine ∧ Q .non (upd H l (.lst (xs ++ zs)))
theorem mt_extT : MtM X "list.extend" (rExtT X.K) := by
  intro pins s σ H x vs v us Q I rx rv h
  obtain ⟨l, b, xs, zs, rfl, rfl, hH, hB, hz, q⟩ := h
  cases rx
  obtain ⟨u, rfl, ru⟩ := rv.one
  cases ru
  obtain ⟨z, its, n, r, hl, e⟩ := I.lstM hH
  obtain ⟨its2, r2, ⟨⟨cls, dd, data, sl⟩, ho, hc, n2, hd⟩, _⟩ := I.tuple hB
  simp only at hc hd
  subst hc hd
  have hl2 := r2.length
  have hsz : its.toArray.size + its2.toArray.size ≤ sizeLine := by rw [List.size_toArray, List.size_toArray]; omega
  have hlong : ¬ (!its.toArray.isEmpty && Builtin.List.listTooLong (its.toArray.size + its2.toArray.size)) = true := by
    rw [notLongL hsz, Bool.and_false]
    exact Bool.false_ne_true
  refine call_meets F.slot_list_extend ⟨_, e, rfl⟩ F.entry_list_extend (F.args_list_extend_2 _ _)
    (extend_tup l its.toArray n b its2.toArray n2 dd sl hlong (by rw [List.size_toArray]; omega) (by omega)) ⟨e, ho, ?_⟩
  refine ⟨.non, _, I.lset (its' := its ++ its2) hH e (by simp) (r.append r2) ?_, rfl, q⟩
  rw [List.length_append]
  omega
/-- t * k, k from 1 on -/
def rRep1 (K : PySem.W.Frag) : R2 := fun x y H Q => ∃ l k xs, x = .ref l ∧ y = .int k ∧ SqT K H l xs ∧ xs ≠ [] ∧ 1 ≤ k ∧ k ≤ 1000 ∧ xs.length ≤ 1000 ∧ (k = 1 → Q (.ref l) H) ∧ (k ≠ 1 → ∀ p, H p = none → Q (.ref p) (upd H p (.tup (List.replicate k.toNat xs).flatten)))
theorem op_rep1 : OpR X (binaryOp .Mult) (rRep1 X.K) := by
  intro pins s σ H x y v u Q I rx ry h
  obtain ⟨l, k, xs, rfl, rfl, hT, hne, h1, h2, hz, q1, q2⟩ := h
  by_cases hk : k = 1
  · subst hk
    cases rx
    obtain ⟨t, rfl⟩ := ry
    obtain ⟨its, r, ⟨⟨cls, dd, data, sl⟩, ho, hc, n, hd⟩, hs⟩ := I.tuple hT
    simp only at hc hd
    subst hc hd
    refine wpAny_binaryOp_repeat_ref (T := "tuple") (U := "int") (by decide) ⟨_, ho, rfl⟩ (fun s' => typeIs_int s' 1 t) noFill_tuple_mul F.fills_int_mul F.slot_int_rmul repeat_tuple F.slot_int_index.lookup
      (call_meets F.slot_int_rmul (typeIs_int s 1 t) F.entry_int_rmul (F.args_int_rmul_2 _ _) (int_rmul_tuple 1 t l its.toArray n dd sl)
        ⟨ho, rfl, ⟨_, ho, rfl⟩, call_meets F.slot_tuple_mul ⟨_, ho, rfl⟩ F.entry_tuple_mul (F.args_tuple_mul_2 _ _) (tuple_mul1 l its.toArray n dd sl t) ⟨ho, ?_⟩⟩)
    exact ⟨.ref l, H, I, rfl, q1 rfl⟩
  · exact op_repT pins s σ H _ _ v u Q I rx ry ⟨l, k, xs, rfl, rfl, hT, hne, by omega, h2, hz, q2 hk⟩
end
end Zr
set_option Elab.async false
set_option linter.all false
set_option maxRecDepth 100000
set_option maxHeartbeats 4000000
/-! Zd: data whose leaves are small: they can be shown, compared. -/
namespace Zd
open PySem PySem.Spec PyProof.Rows L2
mutual
def okd : PyData → Bool
  | .none | .bool _ => true
  | .int i => decide (i.natAbs < 10 ^ 40)
  | .str x => PyData.strOk x
  | .list xs | .tuple xs => okAll xs
  | .dict _ => false
def okAll : List PyData → Bool
  | [] => true
  | x :: xs => okd x && okAll xs
end
theorem okAll_iff : ∀ {l : List PyData}, okAll l = true ↔ ∀ d ∈ l, okd d = true
  | [] => by simp [okAll]
  | x :: l => by
    rw [okAll, Bool.and_eq_true, okAll_iff (l := l)]
    simp
theorem int_log {i : Int} (h : i.natAbs < 10 ^ 40) : i.natAbs.log2 < 1920 :=
  Nat.lt_of_lt_of_le (PySem.Flt.log2_lt_of (n := i.natAbs) (k := 133) (by decide) (Nat.lt_trans h (by decide))) (by decide)
mutual
theorem okd_short : ∀ d : PyData, okd d = true → d.leavesShort 44 = true
  | .none, _ => rfl
  | .bool _, _ => rfl
  | .int i, h => by
    have h' : i.natAbs < 10 ^ 40 := of_decide_eq_true h
    have q := int_text_length_le10 (k := 40) (by decide) h'
    show decide ((PyData.shown (.int i)).length ≤ 44) = true
    refine decide_eq_true ?_
    show (PySem.Str.ofString (toString i)).length ≤ 44
    rw [PySem.ofString_length]
    omega
  | .str x, h => by
    have h' : x.cps.all (· < 0x110000) = true := h
    show x.cps.toList.all (fun c => decide (c < 16 ^ 8)) = true
    rw [List.all_eq_true]
    intro c hc
    rw [Array.all_eq_true'] at h'
    have q := h' c (by simpa using hc)
    have q' : c < 0x110000 := by simpa using q
    exact decide_eq_true (Nat.lt_trans q' (by decide))
  | .list xs, h => okAll_short xs h
  | .tuple xs, h => okAll_short xs h
  | .dict _, h => by cases h
theorem okAll_short : ∀ l : List PyData, okAll l = true → PyData.leavesShortAll 44 l = true
  | [], _ => rfl
  | x :: l, h => by
    rw [okAll, Bool.and_eq_true] at h
    show (PyData.leavesShort 44 x && PyData.leavesShortAll 44 l) = true
    rw [okd_short x h.1, okAll_short l h.2]
    rfl
end
mutual
theorem okd_show : ∀ d : PyData, okd d = true → d.showable = true ∧ d.canLay0 = true ∧ d.hasDict = false
  | .none, _ => ⟨rfl, rfl, rfl⟩
  | .bool _, _ => ⟨rfl, rfl, rfl⟩
  | .int i, h => ⟨decide_eq_true (int_log (of_decide_eq_true h)), rfl, rfl⟩
  | .str x, h => ⟨rfl, h, rfl⟩
  | .list xs, h => okAll_show xs h
  | .tuple xs, h => okAll_show xs h
  | .dict _, h => by cases h
theorem okAll_show : ∀ l : List PyData, okAll l = true → PyData.showableAll l = true ∧ PyData.canLayAll0 l = true ∧ PyData.hasDictAll l = false
  | [], _ => ⟨rfl, rfl, rfl⟩
  | x :: l, h => by
    rw [okAll, Bool.and_eq_true] at h
    obtain ⟨a1, a2, a3⟩ := okd_show x h.1
    obtain ⟨b1, b2, b3⟩ := okAll_show l h.2
    refine ⟨?_, ?_, ?_⟩
    · show (PyData.showable x && PyData.showableAll l) = true
      rw [a1, b1]; rfl
    · show (PyData.canLay0 x && PyData.canLayAll0 l) = true
      rw [a2, b2]; rfl
    · show (PyData.hasDict x || PyData.hasDictAll l) = false
      rw [a3, b3]; rfl
end
theorem okd_fits {d : PyData} (h : okd d = true) (hb : d.bulk ≤ 300000) : d.shown.length ≤ sizeLine := by
  have q := PyData.shown_le_bulk 44 (by decide) d (okd_short d h)
  rw [sizeLine_eq]
  omega
theorem shaped_of {d : PyData} (h : okd d = true) (hd : d.depth ≤ 60) : SeqAt.shaped d = true := by
  show (d.canLay0 && decide (d.depth ≤ 64)) = true
  rw [(okd_show d h).2.1, decide_eq_true (by omega)]
  rfl
/-- repr(x), x an object that holds small data -/
theorem repr_of {K : PySem.W.Frag} {a : Addr} {d : PyData} {H : Hp} {Q : VK} (hd : Dp K H (.ref a) d) (h : okd d = true) (hp : d.depth ≤ 60) (hb : d.bulk ≤ 300000) (q : Q (.str d.shown) H) : Zg.rRepr K [.ref a] H Q :=
  ⟨a, d, rfl, hd, (okd_show d h).1, (okd_show d h).2.2, hp, okd_fits h hb, q⟩
theorem dpAll_of {K : PySem.W.Frag} {H : Hp} {α : Type} (f : α → V) (g : α → PyData) : ∀ {l : List α}, (∀ x ∈ l, Dp K H (f x) (g x)) → DpAll K H (l.map f) (l.map g)
  | [], _ => .nil
  | x :: l, h => .cons (h x List.mem_cons_self) (dpAll_of f g fun y hy => h y (List.mem_cons_of_mem _ hy))
theorem dp_ints {K : PySem.W.Frag} {H : Hp} (ns : List Int) : DpAll K H (ns.map V.int) (ns.map PyData.int) := dpAll_of V.int PyData.int fun x _ => .int x
mutual
theorem dp_mono {K : PySem.W.Frag} {H H' : Hp} (k : ∀ a o, H a = some o → H' a = some o) : ∀ (d : PyData) (v : V), Dp K H v d → Dp K H' v d
  | _, _, .non => .non
  | _, _, .bl b => .bl b
  | _, _, .int i => .int i
  | _, _, .str x => .str x
  | _, _, .lst (xs := xs) (ds := ds) hs ha => .lst (by
      rcases hs with (h | ⟨o, h⟩) | h
      · exact .inl (.inl (k _ _ h))
      · exact .inl (.inr ⟨o, k _ _ h⟩)
      · exact .inr h) (dpAll_mono k ds xs ha)
  | _, _, .tup (xs := xs) (ds := ds) hs ha => .tup (by
      rcases hs with (h | ⟨o, h⟩) | h
      · exact .inl (.inl (k _ _ h))
      · exact .inl (.inr ⟨o, k _ _ h⟩)
      · exact .inr h) (dpAll_mono k ds xs ha)
theorem dpAll_mono {K : PySem.W.Frag} {H H' : Hp} (k : ∀ a o, H a = some o → H' a = some o) : ∀ (ds : List PyData) (vs : List V), DpAll K H vs ds → DpAll K H' vs ds
  | _, _, .nil => .nil
  | _, _, .cons h t => .cons (dp_mono k _ _ h) (dpAll_mono k _ _ t)
end
theorem depth_ints : ∀ ns : List Int, PyData.depthAll (ns.map PyData.int) = 0
  | [] => rfl
  | n :: r => by
    show max 0 (PyData.depthAll (r.map PyData.int)) = 0
    rw [depth_ints r]
    rfl
theorem lay_ints : ∀ ns : List Int, PyData.canLayAll0 (ns.map PyData.int) = true
  | [] => rfl
  | n :: r => lay_ints r
theorem shaped_ints (ns : List Int) : SeqAt.shaped (.list (ns.map PyData.int)) = true := by
  show (PyData.canLayAll0 (ns.map PyData.int) && decide (PyData.depthAll (ns.map PyData.int) + 1 ≤ 64)) = true
  rw [lay_ints, depth_ints]
  rfl
theorem eqv_empty (ns : List Int) : PyData.eqv (.list (ns.map PyData.int)) (.list []) = ns.isEmpty := by
  cases ns <;> rfl
end Zd
set_option Elab.async false
set_option linter.all false
set_option maxRecDepth 100000
set_option maxHeartbeats 4000000
/-! Zt: sorted texts are one. -/
namespace Zt
open PySem PySem.Spec PyProof.Rows L2
theorem le_trans' {a b c : List Nat} (h1 : ¬ b < a) (h2 : ¬ c < b) : ¬ c < a := by
  have q1 : a ≤ b := h1
  have q2 : b ≤ c := h2
  exact List.le_trans q1 q2
theorem rising_pw : ∀ (l : List PySem.Str) (p : PySem.Str), risingS p l = true → (p :: l).Pairwise (fun a b => ¬ b.cps.toList < a.cps.toList)
  | [], p, _ => List.pairwise_singleton _ _
  | x :: r, p, h => by
    have h' : (!ltCps x.cps.toList p.cps.toList && risingS x r) = true := h
    rw [Bool.and_eq_true, ltCps_eq] at h'
    have q := rising_pw r x h'.2
    have e : ¬ x.cps.toList < p.cps.toList := by simpa using h'.1
    refine List.Pairwise.cons (fun y hy => ?_) q
    rcases List.mem_cons.mp hy with rfl | hy
    · exact e
    · exact le_trans' e ((List.pairwise_cons.mp q).1 y hy)
theorem sorted_pw : ∀ (l : List PySem.Str), sortedS l = true → l.Pairwise (fun a b => ¬ b.cps.toList < a.cps.toList)
  | [], _ => List.Pairwise.nil
  | x :: r, h => rising_pw r x h
theorem str_ext {x y : PySem.Str} (h : x.cps.toList = y.cps.toList) : x = y := by
  obtain ⟨⟨x⟩⟩ := x
  obtain ⟨⟨y⟩⟩ := y
  have h' : x = y := h
  rw [h']
theorem sorted_uniq {l m : List PySem.Str} (h1 : sortedS l = true) (h2 : sortedS m = true) (n1 : l.Nodup) (n2 : m.Nodup) (h : ∀ x, x ∈ l ↔ x ∈ m) : l = m :=
  List.Perm.eq_of_pairwise (le := fun a b : PySem.Str => ¬ b.cps.toList < a.cps.toList) (fun a b _ _ p q => str_ext (List.le_antisymm p q)) (sorted_pw l h1) (sorted_pw m h2) ((List.perm_ext_iff_of_nodup n1 n2).mpr h)
end Zt
set_option Elab.async false
set_option linter.all false
set_option maxRecDepth 100000
set_option maxHeartbeats 4000000
/-! k07, the text, the draws. -/
namespace K07
open PySem PySem.Spec PyProof.Rows L2 Zg Zs Zr Zd
/-! ### the orders of keywords -/
def pm0 {α : Type} (l : List α) : List α := l
theorem pm0_rel {zs : List V} {ws : List Value} (r : Vals zs ws) : Vals (pm0 zs) (pm0 ws) := r
def pm10 {α : Type} (l : List α) : List α := match l with
  | [a, b] => [b, a]
  | l => l
theorem pm10_rel {zs : List V} {ws : List Value} (r : Vals zs ws) : Vals (pm10 zs) (pm10 ws) := by
  cases r with
  | nil => exact .nil
  | cons r1 r =>
    cases r with
    | nil => exact .cons r1 .nil
    | cons r2 r =>
      cases r with
      | nil => exact .cons r2 (.cons r1 .nil)
      | cons r3 r => exact .cons r1 (.cons r2 (.cons r3 r))
/-! ### the text -/
def topS (i : Nat) : Stmt := PySem.Challenge.pw_plugcaller_k07_parts_sizes_names.main.body.getD i (.Pass ⟨0, 0, 0, 0⟩)
abbrev s_functions_of : Stmt := topS 1
abbrev N_functions_of : List PySem.Str := ["term"]
abbrev P_functions_of : List PySem.Str := ["term"]
theorem sc_functions_of : FnScope N_functions_of P_functions_of (defScope s_functions_of) := ⟨rfl, rfl, rfl, by decide +kernel, rfl, by decide +kernel, by decide +kernel⟩
abbrev s_tasks_of : Stmt := topS 2
abbrev N_tasks_of : List PySem.Str := ["term"]
abbrev P_tasks_of : List PySem.Str := ["term"]
theorem sc_tasks_of : FnScope N_tasks_of P_tasks_of (defScope s_tasks_of) := ⟨rfl, rfl, rfl, by decide +kernel, rfl, by decide +kernel, by decide +kernel⟩
abbrev s_parts_of : Stmt := topS 3
abbrev N_parts_of : List PySem.Str := ["term"]
abbrev P_parts_of : List PySem.Str := ["term"]
theorem sc_parts_of : FnScope N_parts_of P_parts_of (defScope s_parts_of) := ⟨rfl, rfl, rfl, by decide +kernel, rfl, by decide +kernel, by decide +kernel⟩
abbrev s_part_at : Stmt := topS 4
abbrev N_part_at : List PySem.Str := ["term", "way", "number", "parts"]
abbrev P_part_at : List PySem.Str := ["term", "way"]
theorem sc_part_at : FnScope N_part_at P_part_at (defScope s_part_at) := ⟨rfl, rfl, rfl, by decide +kernel, rfl, by decide +kernel, by decide +kernel⟩
abbrev s_terms_in : Stmt := topS 5
abbrev N_terms_in : List PySem.Str := ["term", "found", "at"]
abbrev P_terms_in : List PySem.Str := ["term"]
theorem sc_terms_in : FnScope N_terms_in P_terms_in (defScope s_terms_in) := ⟨rfl, rfl, rfl, by decide +kernel, rfl, by decide +kernel, by decide +kernel⟩
abbrev s_size_of : Stmt := topS 6
abbrev N_size_of : List PySem.Str := ["term"]
abbrev P_size_of : List PySem.Str := ["term"]
theorem sc_size_of : FnScope N_size_of P_size_of (defScope s_size_of) := ⟨rfl, rfl, rfl, by decide +kernel, rfl, by decide +kernel, by decide +kernel⟩
abbrev s_names_in : Stmt := topS 7
abbrev N_names_in : List PySem.Str := ["term", "one"]
abbrev P_names_in : List PySem.Str := ["term"]
theorem sc_names_in : FnScope N_names_in P_names_in (defScope s_names_in) := ⟨rfl, rfl, rfl, by decide +kernel, rfl, by decide +kernel, by decide +kernel⟩
abbrev s_well : Stmt := topS 9
abbrev N_well : List PySem.Str := ["script", "told", "blend", "number"]
abbrev P_well : List PySem.Str := ["script"]
theorem sc_well : FnScope N_well P_well (defScope s_well) := ⟨rfl, rfl, rfl, by decide +kernel, rfl, by decide +kernel, by decide +kernel⟩
abbrev s_drawn : Stmt := topS 10
abbrev N_drawn : List PySem.Str := ["well", "many", "seed", "number"]
abbrev P_drawn : List PySem.Str := ["well", "many"]
theorem sc_drawn : FnScope N_drawn P_drawn (defScope s_drawn) := ⟨rfl, rfl, rfl, by decide +kernel, rfl, by decide +kernel, by decide +kernel⟩
abbrev s_one_of : Stmt := topS 11
abbrev N_one_of : List PySem.Str := ["well", "some"]
abbrev P_one_of : List PySem.Str := ["well", "some"]
theorem sc_one_of : FnScope N_one_of P_one_of (defScope s_one_of) := ⟨rfl, rfl, rfl, by decide +kernel, rfl, by decide +kernel, by decide +kernel⟩
abbrev s_name : Stmt := topS 12
abbrev N_name : List PySem.Str := ["well", "k"]
abbrev P_name : List PySem.Str := ["well"]
theorem sc_name : FnScope N_name P_name (defScope s_name) := ⟨rfl, rfl, rfl, by decide +kernel, rfl, by decide +kernel, by decide +kernel⟩
abbrev s_new : Stmt := topS 13
abbrev N_new : List PySem.Str := ["plan", "word", "name", "functions", "tasks"]
abbrev P_new : List PySem.Str := ["plan", "word", "name", "functions", "tasks"]
theorem sc_new : FnScope N_new P_new (defScope s_new) := ⟨rfl, rfl, rfl, by decide +kernel, rfl, by decide +kernel, by decide +kernel⟩
abbrev s_plan : Stmt := topS 14
abbrev N_plan : List PySem.Str := ["well", "plan", "functions", "tasks", "k", "word", "some", "j", "many", "more", "number"]
abbrev P_plan : List PySem.Str := ["well"]
theorem sc_plan : FnScope N_plan P_plan (defScope s_plan) := ⟨rfl, rfl, rfl, by decide +kernel, rfl, by decide +kernel, by decide +kernel⟩
abbrev s_deep : Stmt := topS 15
abbrev N_deep : List PySem.Str := ["plan", "found", "word", "name", "functions", "tasks", "inner", "number", "deep", "many"]
abbrev P_deep : List PySem.Str := ["plan"]
theorem sc_deep : FnScope N_deep P_deep (defScope s_deep) := ⟨rfl, rfl, rfl, by decide +kernel, rfl, by decide +kernel, by decide +kernel⟩
abbrev s_terms : Stmt := topS 16
abbrev N_terms : List PySem.Str := ["plan", "found", "word", "name", "functions", "tasks", "some", "more", "number"]
abbrev P_terms : List PySem.Str := ["plan"]
theorem sc_terms : FnScope N_terms P_terms (defScope s_terms) := ⟨rfl, rfl, rfl, by decide +kernel, rfl, by decide +kernel, by decide +kernel⟩
abbrev s_walked : Stmt := topS 17
abbrev N_walked : List PySem.Str := ["plan", "row", "route", "number", "inner"]
abbrev P_walked : List PySem.Str := ["plan", "row", "route"]
theorem sc_walked : FnScope N_walked P_walked (defScope s_walked) := ⟨rfl, rfl, rfl, by decide +kernel, rfl, by decide +kernel, by decide +kernel⟩
abbrev s_names_of : Stmt := topS 18
abbrev N_names_of : List PySem.Str := ["plan", "row", "waiting", "found", "word", "name", "functions", "tasks"]
abbrev P_names_of : List PySem.Str := ["plan", "row"]
theorem sc_names_of : FnScope N_names_of P_names_of (defScope s_names_of) := ⟨rfl, rfl, rfl, by decide +kernel, rfl, by decide +kernel, by decide +kernel⟩
abbrev s_way : Stmt := topS 19
abbrev N_way : List PySem.Str := ["well", "plan", "row", "found", "inner", "many"]
abbrev P_way : List PySem.Str := ["well", "plan", "row"]
theorem sc_way : FnScope N_way P_way (defScope s_way) := ⟨rfl, rfl, rfl, by decide +kernel, rfl, by decide +kernel, by decide +kernel⟩
abbrev s_row_right : Stmt := topS 20
abbrev N_row_right : List PySem.Str := ["well", "plan", "terms", "row", "many", "shape", "was", "inner", "number", "names", "turn", "route", "at", "due"]
abbrev P_row_right : List PySem.Str := ["well", "plan", "terms", "row", "many"]
theorem sc_row_right : FnScope N_row_right P_row_right (defScope s_row_right) := ⟨rfl, rfl, rfl, by decide +kernel, rfl, by decide +kernel, by decide +kernel⟩
abbrev s_doubled : Stmt := topS 21
abbrev N_doubled : List PySem.Str := ["well", "many", "shape", "names", "due", "k", "name"]
abbrev P_doubled : List PySem.Str := ["well"]
theorem sc_doubled : FnScope N_doubled P_doubled (defScope s_doubled) := ⟨rfl, rfl, rfl, by decide +kernel, rfl, by decide +kernel, by decide +kernel⟩
abbrev s_law : Stmt := topS 22
abbrev N_law : List PySem.Str := ["script", "well", "turn", "plan", "terms", "deep", "row", "many"]
abbrev P_law : List PySem.Str := ["script"]
theorem sc_law : FnScope N_law P_law (defScope s_law) := ⟨rfl, rfl, rfl, by decide +kernel, rfl, by decide +kernel, by decide +kernel⟩
structure Txt (K : PySem.W.Frag) (mg : PySem.Str → Option Value) : Type where
  a_functions_of : Addr
  d_functions_of : FuncData
  F_functions_of : Fun K "functions_of" "functions_of" s_functions_of a_functions_of d_functions_of
  g_functions_of : mg "functions_of" = some (.ref a_functions_of)
  b_functions_of : Binds K d_functions_of P_functions_of []
  a_tasks_of : Addr
  d_tasks_of : FuncData
  F_tasks_of : Fun K "tasks_of" "tasks_of" s_tasks_of a_tasks_of d_tasks_of
  g_tasks_of : mg "tasks_of" = some (.ref a_tasks_of)
  b_tasks_of : Binds K d_tasks_of P_tasks_of []
  a_parts_of : Addr
  d_parts_of : FuncData
  F_parts_of : Fun K "parts_of" "parts_of" s_parts_of a_parts_of d_parts_of
  g_parts_of : mg "parts_of" = some (.ref a_parts_of)
  b_parts_of : Binds K d_parts_of P_parts_of []
  a_part_at : Addr
  d_part_at : FuncData
  F_part_at : Fun K "part_at" "part_at" s_part_at a_part_at d_part_at
  g_part_at : mg "part_at" = some (.ref a_part_at)
  b_part_at : Binds K d_part_at P_part_at []
  a_terms_in : Addr
  d_terms_in : FuncData
  F_terms_in : Fun K "terms_in" "terms_in" s_terms_in a_terms_in d_terms_in
  g_terms_in : mg "terms_in" = some (.ref a_terms_in)
  b_terms_in : Binds K d_terms_in P_terms_in []
  a_size_of : Addr
  d_size_of : FuncData
  F_size_of : Fun K "size_of" "size_of" s_size_of a_size_of d_size_of
  g_size_of : mg "size_of" = some (.ref a_size_of)
  b_size_of : Binds K d_size_of P_size_of []
  a_names_in : Addr
  d_names_in : FuncData
  F_names_in : Fun K "names_in" "names_in" s_names_in a_names_in d_names_in
  g_names_in : mg "names_in" = some (.ref a_names_in)
  b_names_in : Binds K d_names_in P_names_in []
  a_well : Addr
  d_well : FuncData
  F_well : Fun K "_law_well" "_law_well" s_well a_well d_well
  g_well : mg "_law_well" = some (.ref a_well)
  b_well : Binds K d_well P_well []
  a_drawn : Addr
  d_drawn : FuncData
  F_drawn : Fun K "_law_drawn" "_law_drawn" s_drawn a_drawn d_drawn
  g_drawn : mg "_law_drawn" = some (.ref a_drawn)
  b_drawn : Binds K d_drawn P_drawn []
  a_one_of : Addr
  d_one_of : FuncData
  F_one_of : Fun K "_law_one_of" "_law_one_of" s_one_of a_one_of d_one_of
  g_one_of : mg "_law_one_of" = some (.ref a_one_of)
  b_one_of : Binds K d_one_of P_one_of []
  a_name : Addr
  d_name : FuncData
  F_name : Fun K "_law_name" "_law_name" s_name a_name d_name
  g_name : mg "_law_name" = some (.ref a_name)
  b_name : Binds K d_name P_name []
  a_new : Addr
  d_new : FuncData
  F_new : Fun K "_law_new" "_law_new" s_new a_new d_new
  g_new : mg "_law_new" = some (.ref a_new)
  b_new : Binds K d_new P_new []
  a_plan : Addr
  d_plan : FuncData
  F_plan : Fun K "_law_plan" "_law_plan" s_plan a_plan d_plan
  g_plan : mg "_law_plan" = some (.ref a_plan)
  b_plan : Binds K d_plan P_plan []
  a_deep : Addr
  d_deep : FuncData
  F_deep : Fun K "_law_deep" "_law_deep" s_deep a_deep d_deep
  g_deep : mg "_law_deep" = some (.ref a_deep)
  b_deep : Binds K d_deep P_deep []
  a_terms : Addr
  d_terms : FuncData
  F_terms : Fun K "_law_terms" "_law_terms" s_terms a_terms d_terms
  g_terms : mg "_law_terms" = some (.ref a_terms)
  b_terms : Binds K d_terms P_terms []
  a_walked : Addr
  d_walked : FuncData
  F_walked : Fun K "_law_walked" "_law_walked" s_walked a_walked d_walked
  g_walked : mg "_law_walked" = some (.ref a_walked)
  b_walked : Binds K d_walked P_walked []
  a_names_of : Addr
  d_names_of : FuncData
  F_names_of : Fun K "_law_names_of" "_law_names_of" s_names_of a_names_of d_names_of
  g_names_of : mg "_law_names_of" = some (.ref a_names_of)
  b_names_of : Binds K d_names_of P_names_of []
  a_way : Addr
  d_way : FuncData
  F_way : Fun K "_law_way" "_law_way" s_way a_way d_way
  g_way : mg "_law_way" = some (.ref a_way)
  b_way : Binds K d_way P_way []
  a_row_right : Addr
  d_row_right : FuncData
  F_row_right : Fun K "_law_row_right" "_law_row_right" s_row_right a_row_right d_row_right
  g_row_right : mg "_law_row_right" = some (.ref a_row_right)
  b_row_right : Binds K d_row_right P_row_right []
  a_doubled : Addr
  d_doubled : FuncData
  F_doubled : Fun K "_law_doubled" "_law_doubled" s_doubled a_doubled d_doubled
  g_doubled : mg "_law_doubled" = some (.ref a_doubled)
  b_doubled : Binds K d_doubled P_doubled []
  a_law : Addr
  d_law : FuncData
  F_law : Fun K "law" "law" s_law a_law d_law
  g_law : mg "law" = some (.ref a_law)
  b_law : Binds K d_law P_law []
  kb_size_of_term : KB0 K d_size_of P_size_of ["term"] pm0 pm0
  kb_parts_of_term : KB0 K d_parts_of P_parts_of ["term"] pm0 pm0
  kb_names_in_term : KB0 K d_names_in P_names_in ["term"] pm0 pm0
  kb_part_at_way_term : KB0 K d_part_at P_part_at ["way", "term"] pm10 pm10
  n_int : mg "int" = none
  n_len : mg "len" = none
  n_list : mg "list" = none
  n_max : mg "max" = none
  n_range : mg "range" = none
  n_repr : mg "repr" = none
  n_sorted : mg "sorted" = none
  n_sum : mg "sum" = none
  n_tuple : mg "tuple" = none
/-! ### the heap but for some -/
/-- all that was tracked but at the addresses of S is as it was -/
def Kp (S : List Addr) (H H' : Hp) : Prop := ∀ a o, a ∉ S → H a = some o → H' a = some o
theorem Kp.refl (S : List Addr) (H : Hp) : Kp S H H := fun _ _ _ e => e
theorem Kp.trans {S : List Addr} {H H1 H2 : Hp} (a : Kp S H H1) (b : Kp S H1 H2) : Kp S H H2 := fun x o n e => b x o n (a x o n e)
theorem Kp.new {S : List Addr} {H : Hp} {p : Addr} {o : HO} (h : H p = none) : Kp S H (upd H p o) := fun a u _ e => by
  rw [upd_ne (ne_of_none e h)]
  exact e
theorem Kp.wr {S : List Addr} {H H' : Hp} {p : Addr} {o : HO} (k : Kp S H H') (h : p ∈ S ∨ H p = none) : Kp S H (upd H' p o) := fun a u n e => by
  have q : a ≠ p := fun z => by
    subst z
    rcases h with h | h
    · exact n h
    · rw [h] at e
      cases e
  rw [upd_ne q]
  exact k a u n e
theorem Kp.of {S : List Addr} {H H' : Hp} (k : Same H H') : Kp S H H' := fun a o _ e => k a o e
theorem Kp.free {S : List Addr} {H H' : Hp} (k : Kp S H H') {p : Addr} (n : p ∉ S) (h : H' p = none) : H p = none := by
  cases q : H p with
  | none => rfl
  | some o =>
    rw [k p o n q] at h
    cases h
/-! ### the well -/
/-- a dict of the well -/
def WK (l : Addr) (b c : Int) : List (Key × V) := [(.inr "told", .ref l), (.inr "blend", .int b), (.inr "count", .int c)]
theorem wk_told (l : Addr) (b c : Int) : valV (WK l b c) (.inr "told") = some (.ref l) := by rfl
theorem wk_blend (l : Addr) (b c : Int) : valV (WK l b c) (.inr "blend") = some (.int b) := by rfl
theorem wk_count (l : Addr) (b c : Int) : valV (WK l b c) (.inr "count") = some (.int c) := by rfl
theorem wk_put (l : Addr) (b c d : Int) : putK (WK l b c) (.inr "count") (.int d) = WK l b d := by rfl
/-- a well stands at w, its numbers in the list at l; so many draws at most were made -/
def Well (H : Hp) (w l : Addr) (C : Nat) : Prop := w ≠ l ∧ ∃ (b c : Int) (ns : List Int), H w = some (.dK (WK l b c)) ∧ H l = some (.lst (ns.map V.int)) ∧ 0 ≤ b ∧ b < 2147483587 ∧ 0 ≤ c ∧ c ≤ (C : Int) ∧ ns.length ≤ 63
theorem Well.mono {H : Hp} {w l : Addr} {C C' : Nat} (h : Well H w l C) (q : C ≤ C') : Well H w l C' := by
  obtain ⟨n, b, c, ns, h1, h2, h3, h4, h5, h6, h7⟩ := h
  exact ⟨n, b, c, ns, h1, h2, h3, h4, h5, by omega, h7⟩
theorem Well.same {H H' : Hp} {w l : Addr} {C : Nat} (h : Well H w l C) (k : Same H H') : Well H' w l C := by
  obtain ⟨n, b, c, ns, h1, h2, r⟩ := h
  exact ⟨n, b, c, ns, k _ _ h1, k _ _ h2, r⟩
abbrev LIM : Nat := 1000000000
section
variable {P : Program} {w : World} {K : PySem.W.Frag} {mg : PySem.Str → Option Value} {base : Heap}
def sp_well (K : PySem.W.Frag) : Sp := fun vs H Q _ => ∃ (a : Addr) (ns : List Int), vs = [.ref a] ∧ SqL K H a (ns.map V.int) ∧ ns.length ≤ 63 ∧
  ∀ (H' : Hp) (w l : Addr), Same H H' → H w = none → H l = none → Well H' w l 0 → Q (.ref w) H'
def sp_drawn : Sp := fun vs H Q _ => ∃ (w l : Addr) (m : Int) (C : Nat), vs = [.ref w, .int m] ∧ Well H w l C ∧ C < LIM ∧ 0 < m ∧ m < 1073741824 ∧
  ∀ (H' : Hp) (r : Int), Kp [w, l] H H' → Well H' w l (C + 1) → 0 ≤ r → r < m → Q (.int r) H'
theorem cut63 {ns : List Int} (h : ns.length ≤ 63) : cutV (ns.map V.int) none (some 63) = ns.map V.int := by
  unfold cutV
  rw [HT.sIx_none, show HT.sIx (ns.map V.int).length (ns.map V.int).length (some 63) = min 63 (ns.map V.int).length from HT.sIx_nat _ _ 63, List.length_map]
  rw [show min 63 ns.length = ns.length by omega]
  show List.take (ns.length - 0) (ns.map V.int) = _
  exact List.take_of_length_le (by rw [List.length_map]; omega)
theorem mod_in {a m : Int} (h : 0 < m) : 0 ≤ a % m ∧ a % m < m := ⟨Int.emod_nonneg _ (by omega), Int.emod_lt_of_pos _ h⟩
theorem cmul_mod {x m j : Int} (h : 0 < m) (h2 : m ≤ 2 ^ 64) : CMul (x % m) j := .inl ⟨by have := (mod_in (a := x) h).1; omega, by have := (mod_in (a := x) h).2; omega⟩
theorem ok_well (T : Txt K mg) : FnOk P w K mg base CX0 1 T.a_well T.d_well P_well (sp_well K) := by
  refine T.F_well.ok sc_well (fun vs H Q E h => by obtain ⟨a, ns, rfl, _⟩ := h; rfl) (fun cdv A outer s H vs Q E hr h => ?_)
  refine ⟨_, (pss_cons (ps_par (i := 1) (j := 2) (by rfl) sc_well.nd rfl rfl (by decide) rfl rfl (pa_cons (pe_callTy call_list_of (by rfl) T.n_list (by decide +kernel) (pa_cons (pe_slice sl_list (pv 0) po_none (po_some pe_int)) pa_nil)) (pa_cons pe_int pa_nil)) (by rfl))
    (pss_cons (ps_for PassesOwn.never rfl (pi_list (pv 1)) (pg_name (i := 3) sc_well.nd rfl (Or.inl rfl)) (pss_one (ps_set (i := 2) sc_well.nd rfl (Or.inl rfl) (pe_op op_mod (pe_callTy call_int1 (by rfl) T.n_int (by decide +kernel) (pa_cons (pe_op op_add (pe_op op_add (pe_op op_mul (pv 2) pe_int) (pe_op op_mod (pe_callTy call_int1 (by rfl) T.n_int (by decide +kernel) (pa_cons (pv 3) pa_nil)) pe_int)) pe_int) pa_nil)) pe_int))))
    (pss_one (ps_ret (pe_disp (pps_cons pe_str (pe_revL (pv 1)) (pps_cons pe_str (pv 2) (pps_cons pe_str pe_int pps_nil))) (by rfl) (by rfl) (fun z => by cases z) (by decide)))))), ?_⟩
  obtain ⟨a, ns, rfl, hS, hl, q⟩ := h
  refine ⟨_, rfl, 63, rfl, a, ns.map V.int, rfl, hS, fun p hp => ?_⟩
  rw [cut63 hl]
  refine ⟨p, _, rfl, .inl (SqL.of upd_same), fun l hl2 => ?_⟩
  refine ⟨_, _, rfl, ?_⟩
  have pl : l ≠ p := fun e => by
    rw [e, upd_same] at hl2
    cases hl2
  have hl0 : H l = none := by rw [upd_ne pl] at hl2; exact hl2
  have s1 : Same H (upd (upd H p (.lst (ns.map V.int))) l (.lst (ns.map V.int))) := fun b o e => by
    rw [upd_ne (ne_of_none e hl0), upd_ne (ne_of_none e hp)]
    exact e
  generalize hH : upd (upd H p (.lst (ns.map V.int))) l (.lst (ns.map V.int)) = H2 at s1 ⊢
  have hL : H2 l = some (.lst (ns.map V.int)) := by rw [← hH]; exact upd_same
  refine ⟨_, rfl, l, rfl, ⟨_, SqL.of hL⟩, for_list (K := K) (a := l) (xs := ns.map V.int) (fun i σ H' => ∃ (b : Int) (y : Option V), σ = [some (.ref a), some (.ref l), some (.int b), y] ∧ H' = H2 ∧ 0 ≤ b ∧ b < 2147483587)
    ⟨52433, none, rfl, rfl, by decide, by decide⟩ (fun i σ H' _ ⟨_, _, _, e, _⟩ => by rw [e]; exact SqL.of hL) ?_ ?_⟩
  · rintro i x σ H' hi ⟨b, y, rfl, rfl, hb0, hb1⟩
    obtain ⟨z, rfl⟩ : ∃ z, x = V.int z := by
      rw [List.getElem?_map] at hi
      cases e : ns[i]? with
      | none => rw [e] at hi; cases hi
      | some z => rw [e] at hi; exact ⟨z, (Option.some.inj hi).symm⟩
    refine ⟨_, rfl, _, _, rfl, rfl, .inr ⟨by decide, by decide⟩, _, rfl, .inl ⟨_, rfl, _, _, rfl, rfl, (by decide : (0 : Int) < 2147483629), _, _, rfl, rfl, _, _, rfl, rfl, .inl ⟨_, rfl, _, _, rfl, rfl, (by decide : (0 : Int) < 2147483587), ?_⟩⟩⟩
    exact ⟨_, _, rfl, rfl, (mod_in (by decide)).1, (mod_in (by decide)).2⟩
  · rintro σ H' ⟨b, y, rfl, rfl, hb0, hb1⟩
    refine fun d hd => ?_
    have dl : d ≠ l := fun e => by
      rw [e, hL] at hd
      cases hd
    refine ⟨_, rfl, l, ns.map V.int, rfl, SqL.of (by rw [upd_ne dl.symm]; exact hL), fun r hr2 => ?_⟩
    have rd : r ≠ d := fun e => by
      rw [e, upd_same] at hr2
      cases hr2
    have hr0 : H' r = none := by rw [upd_ne rd] at hr2; exact hr2
    refine ⟨_, rfl, ?_⟩
    refine ⟨by rw [upd_ne rd.symm]; exact upd_same, WK r b 0, rfl, (by show 3 ≤ 15; decide), ?_⟩
    refine q _ d r (fun x o e => ?_) (s1.free hd) (s1.free hr0) ⟨rd.symm, b, 0, ns.reverse, ?_, ?_, hb0, hb1, by decide, by decide, by rw [List.length_reverse]; exact hl⟩
    · have e2 := s1 x o e
      rw [upd_ne (ne_of_none e2 hd), upd_ne (ne_of_none e2 hr0), upd_ne (ne_of_none e2 hd)]
      exact e2
    · exact upd_same
    · rw [upd_ne rd, upd_same, List.map_reverse]

theorem ok_drawn (T : Txt K mg) : FnOk P w K mg base CX0 1 T.a_drawn T.d_drawn P_drawn sp_drawn := by
  refine T.F_drawn.ok sc_drawn (fun vs H Q E h => by obtain ⟨w, l, m, C, rfl, _⟩ := h; rfl) (fun cdv A outer s H vs Q E hr h => ?_)
  refine ⟨_, (pss_cons (ps_dput (hu_of hr) (pv 0) pe_str (pe_op op_add (pe_dget (hu_of hr) (pv 0) pe_str (fun _ _ => rfl)) pe_int) rfl)
    (pss_cons (ps_set (i := 2) sc_drawn.nd rfl (Or.inl rfl) (pe_op op_add (pe_dget (hu_of hr) (pv 0) pe_str (fun _ _ => rfl)) (pe_op op_mul (pe_op op_mul pe_int (pe_dget (hu_of hr) (pv 0) pe_str (fun _ _ => rfl))) (pe_dget (hu_of hr) (pv 0) pe_str (fun _ _ => rfl)))))
    (pss_cons (ps_if (pt_cmpR (op_neD hr.units) (pe_dget (hu_of hr) (pv 0) pe_str (fun _ _ => rfl)) (pe_lst pa_nil) (nomark _)) (pss_cons (ps_set (i := 3) sc_drawn.nd rfl (Or.inl rfl) (pe_bm0 PySem.F.plainAttrs_list PySem.F.slot_list_pop PySem.F.type_list_pop mt_pop (pe_dget (hu_of hr) (pv 0) pe_str (fun _ _ => rfl))))
    (pss_cons (ps_if (pt_cmpR op_ge (pv 3) (pe_op op_pow pe_int pe_int) (nomark _)) (pss_cons (ps_expr (pe_bm PySem.F.plainAttrs_list PySem.F.slot_list_append PySem.F.type_list_append mt_append (pe_dget (hu_of hr) (pv 0) pe_str (fun _ _ => rfl)) (pa_cons (pe_op op_fdiv (pv 3) (pv 1)) pa_nil)))
    (pss_one (ps_ret (pe_op op_mod (pe_callTy call_int1 (by rfl) T.n_int (by decide +kernel) (pa_cons (pv 3) pa_nil)) (pv 1))))) pss_nil)
    (pss_one (ps_set (i := 2) sc_drawn.nd rfl (Or.inl rfl) (pe_op op_add (pv 2) (pv 3)))))) pss_nil)
    (pss_cons (ps_set (i := 2) sc_drawn.nd rfl (Or.inl rfl) (pe_op op_mod (pe_callTy call_int1 (by rfl) T.n_int (by decide +kernel) (pa_cons (pe_op op_mul (pe_op op_mod (pe_callTy call_int1 (by rfl) T.n_int (by decide +kernel) (pa_cons (pv 2) pa_nil)) pe_int) pe_int) pa_nil)) pe_int))
    (pss_cons (ps_set (i := 2) sc_drawn.nd rfl (Or.inl rfl) (pe_op op_mod (pe_callTy call_int1 (by rfl) T.n_int (by decide +kernel) (pa_cons (pe_op op_add (pe_op op_add (pe_op op_mul (pv 2) (pv 2)) (pe_op op_mul pe_int (pv 2))) pe_int) pa_nil)) pe_int))
    (pss_one (ps_ret (pe_op op_mod (pe_callTy call_int1 (by rfl) T.n_int (by decide +kernel) (pa_cons (pe_op op_fdiv (pe_op op_mod (pe_callTy call_int1 (by rfl) T.n_int (by decide +kernel) (pa_cons (pe_op op_mul (pv 2) pe_int) pa_nil)) pe_int) pe_int) pa_nil)) (pv 1))))))))), ?_⟩
  obtain ⟨w, l, m, C, rfl, ⟨wl, b, c, ns, hw, hl, b0, b1, c0, c1, n63⟩, hC, m0, m1, q⟩ := h
  refine ⟨_, rfl, w, _, rfl, DGet.k (k := .inr "count") hw, _, _, rfl, rfl, _, rfl, w, _, rfl, DPut.k (k := .inr "count") hw (by show 3 < sizeLine; decide), ?_⟩
  rw [wk_put]
  -- the heap with one draw more
  have k1 : Kp [w, l] H (upd H w (.dK (WK l b (c + 1)))) := (Kp.refl _ H).wr (.inl List.mem_cons_self)
  have hw1 : (upd H w (.dK (WK l b (c + 1)))) w = some (.dK (WK l b (c + 1))) := upd_same
  have hl1 : (upd H w (.dK (WK l b (c + 1)))) l = some (.lst (ns.map V.int)) := by rw [upd_ne wl.symm]; exact hl
  generalize upd H w (.dK (WK l b (c + 1))) = H1 at k1 hw1 hl1 ⊢
  have hC' : (C : Int) < 1000000000 := Int.ofNat_lt.mpr hC
  -- seed
  refine ⟨_, rfl, w, _, rfl, DGet.k (k := .inr "blend") hw1, _, rfl, w, _, rfl, DGet.k (k := .inr "count") hw1, _, _, rfl, rfl, .inl ⟨by decide, by decide⟩, _, rfl, w, _, rfl, DGet.k (k := .inr "count") hw1, _, _, rfl, rfl, .inr ⟨by omega, by omega⟩, _, _, rfl, rfl, ?_⟩
  show tSeq _ _ _ _ _
  generalize b + 60343 * (c + 1) * (c + 1) = seed
  -- if well['told'] != []
  refine ⟨_, rfl, w, _, rfl, DGet.k (k := .inr "told") hw1, Nat.zero_le _, fun p hp => ?_⟩
  have pw : p ≠ w := fun e => by
    rw [e, hw1] at hp
    cases hp
  have pl : p ≠ l := fun e => by
    rw [e, hl1] at hp
    cases hp
  have k2 : Kp [w, l] H (upd H1 p (.lst [])) := k1.trans (Kp.new hp)
  have hw2 : (upd H1 p (.lst [])) w = some (.dK (WK l b (c + 1))) := by rw [upd_ne pw.symm]; exact hw1
  have hl2 : (upd H1 p (.lst [])) l = some (.lst (ns.map V.int)) := by rw [upd_ne pl.symm]; exact hl1
  refine ⟨.list (ns.map .int), .list [], .lst (SqL.of hl2) (dp_ints ns), .lst (SqL.of upd_same) .nil, shaped_ints ns, rfl, _, rfl, ?_⟩
  generalize upd H1 p (.lst []) = H2 at k2 hw2 hl2 ⊢
  rw [eqv_empty]
  have hW2 : ∀ ns' : List Int, ns'.length ≤ 63 → ∀ H3 : Hp, H3 w = some (.dK (WK l b (c + 1))) → H3 l = some (.lst (ns'.map V.int)) → Well H3 w l (C + 1) := fun ns' h63 H3 e1 e2 =>
    ⟨wl, b, c + 1, ns', e1, e2, b0, b1, by omega, by omega, h63⟩
  -- what is left to do, the seed in its slot
  cases ns with
  | nil =>
    refine iteF ?_
    refine ⟨_, rfl, .inl ⟨_, rfl, _, _, rfl, rfl, (by decide : (0 : Int) < 2147483629), _, _, rfl, rfl, cmul_mod (by decide) (by decide), .inl ⟨_, rfl, _, _, rfl, rfl, (by decide : (0 : Int) < 2147483647), ?_⟩⟩⟩
    refine ⟨_, rfl, _, rfl, _, _, rfl, rfl, cmul_mod (by decide) (by decide), _, rfl, _, _, rfl, rfl, .inl ⟨by decide, by decide⟩, _, _, rfl, rfl, _, _, rfl, rfl, .inl ⟨_, rfl, _, _, rfl, rfl, (by decide : (0 : Int) < 2147483563), ?_⟩⟩
    refine ⟨_, rfl, _, _, rfl, rfl, cmul_mod (by decide) (by decide), .inl ⟨_, rfl, _, _, rfl, rfl, (by decide : (0 : Int) < 2147483587), _, _, rfl, rfl, ⟨by decide, by decide⟩, .inl ⟨_, rfl, _, rfl, _, _, rfl, rfl, m0, ?_⟩⟩⟩
    exact q _ _ k2 (hW2 [] (by decide) _ hw2 hl2) (mod_in m0).1 (mod_in m0).2
  | cons z r =>
    refine iteT ?_
    -- number = well['told'].pop()
    have hlast : ((z :: r).map V.int)[((z :: r).map V.int).length - 1]? = some (V.int ((z :: r).getLast (List.cons_ne_nil z r))) := by
      rw [List.length_map, List.getElem?_map, ← List.getLast?_eq_getElem?, List.getLast?_eq_getLast (List.cons_ne_nil z r)]
      rfl
    have hdrop : ((z :: r).map V.int).dropLast = (z :: r).dropLast.map V.int := by rw [List.map_dropLast]
    have hlen : ((z :: r).dropLast).length ≤ 62 := by
      rw [List.length_dropLast]
      omega
    refine ⟨_, rfl, w, _, rfl, DGet.k (k := .inr "told") hw2, .inl ⟨rfl, _, SqL.of hl2⟩, l, _, _, rfl, rfl, hl2, hlast, ?_⟩
    generalize (z :: r).getLast (List.cons_ne_nil z r) = number
    rw [hdrop]
    generalize (z :: r).dropLast = more at hlen
    have hw3 : (upd H2 l (.lst (more.map V.int))) w = some (.dK (WK l b (c + 1))) := by rw [upd_ne wl]; exact hw2
    have hl3 : (upd H2 l (.lst (more.map V.int))) l = some (.lst (more.map V.int)) := upd_same
    have k3 : Kp [w, l] H (upd H2 l (.lst (more.map V.int))) := k2.wr (.inl (List.mem_cons_of_mem _ List.mem_cons_self))
    generalize upd H2 l (.lst (more.map V.int)) = H3 at k3 hw3 hl3 ⊢
    -- if number >= 10 ** 18
    refine ⟨_, rfl, _, _, rfl, rfl, ⟨by decide, by decide, by decide⟩, _, _, rfl, rfl, _, rfl, ite2 (fun e => ?_) (fun e => ?_)⟩
    · refine ⟨_, rfl, w, _, rfl, DGet.k (k := .inr "told") hw3, .inl ⟨rfl, _, SqL.of hl3⟩, _, rfl, _, rfl, _, _, rfl, rfl, ⟨m0, m1⟩, l, _, _, rfl, rfl, hl3, by rw [List.length_map, sizeLine_eq]; omega, ?_⟩
      refine ⟨_, rfl, .inl ⟨_, rfl, _, rfl, _, _, rfl, rfl, m0, ?_⟩⟩
      refine q _ _ (k3.wr (.inl (List.mem_cons_of_mem _ List.mem_cons_self))) (hW2 (more ++ [number / m]) (by rw [List.length_append, List.length_singleton]; omega) _ (by rw [upd_ne wl]; exact hw3) (by rw [upd_same, List.map_append]; rfl)) (mod_in m0).1 (mod_in m0).2
    · refine ⟨_, rfl, _, rfl, _, _, rfl, rfl, ?_⟩
      refine ⟨_, rfl, .inl ⟨_, rfl, _, _, rfl, rfl, (by decide : (0 : Int) < 2147483629), _, _, rfl, rfl, cmul_mod (by decide) (by decide), .inl ⟨_, rfl, _, _, rfl, rfl, (by decide : (0 : Int) < 2147483647), ?_⟩⟩⟩
      refine ⟨_, rfl, _, rfl, _, _, rfl, rfl, cmul_mod (by decide) (by decide), _, rfl, _, _, rfl, rfl, .inl ⟨by decide, by decide⟩, _, _, rfl, rfl, _, _, rfl, rfl, .inl ⟨_, rfl, _, _, rfl, rfl, (by decide : (0 : Int) < 2147483563), ?_⟩⟩
      refine ⟨_, rfl, _, _, rfl, rfl, cmul_mod (by decide) (by decide), .inl ⟨_, rfl, _, _, rfl, rfl, (by decide : (0 : Int) < 2147483587), _, _, rfl, rfl, ⟨by decide, by decide⟩, .inl ⟨_, rfl, _, rfl, _, _, rfl, rfl, m0, ?_⟩⟩⟩
      exact q _ _ k3 (hW2 more (by omega) _ hw3 hl3) (mod_in m0).1 (mod_in m0).2
end
end K07
set_option Elab.async false
set_option linter.all false
set_option maxRecDepth 100000
set_option maxHeartbeats 4000000
/-! k07: a drawn item, a drawn name, a new row. -/
namespace K07
open PySem PySem.Spec PyProof.Rows L2 Zg Zs Zr Zd
theorem atI_of {α : Type} {xs : List α} {r : Int} (h0 : 0 ≤ r) (h1 : r < xs.length) : ∃ (h : r.toNat < xs.length), atI xs r = some xs[r.toNat] := by
  have h : r.toNat < xs.length := by omega
  refine ⟨h, ?_⟩
  have q := atI_nat (xs := xs) (j := r.toNat) (v := xs[r.toNat]) (List.getElem?_eq_getElem h)
  have e : ((r.toNat : Nat) : Int) = r := Int.toNat_of_nonneg h0
  rw [e] at q
  exact q
theorem Kp.seq {K : PySem.W.Frag} {S : List Addr} {H H' : Hp} {a : Addr} {xs : List V} (k : Kp S H H') (n : a ∉ S) (h : SqL K H a xs) : SqL K H' a xs := by
  rcases h with (h | ⟨o, h⟩) | h
  · exact .inl (.inl (k _ _ n h))
  · exact .inl (.inr ⟨o, k _ _ n h⟩)
  · exact .inr h
theorem two {w l a : Addr} (h1 : a ≠ w) (h2 : a ≠ l) : a ∉ [w, l] := by
  intro h
  rcases List.mem_cons.mp h with e | h
  · exact h1 e
  · rw [List.mem_singleton] at h
    exact h2 h
theorem Well.ne {H : Hp} {w l p : Addr} {C : Nat} (h : Well H w l C) (n : H p = none) : p ∉ [w, l] := by
  obtain ⟨_, b, c, ns, h1, h2, _⟩ := h
  exact two (fun e => by rw [e, h1] at n; cases n) (fun e => by rw [e, h2] at n; cases n)
/-- a new thing beside the well -/
theorem Well.new {H : Hp} {w l p : Addr} {C : Nat} {o : HO} (h : Well H w l C) (n : p ∉ [w, l]) : Well (upd H p o) w l C := by
  obtain ⟨d, b, c, ns, h1, h2, r⟩ := h
  have n1 : w ≠ p := fun e => n (e ▸ List.mem_cons_self)
  have n2 : l ≠ p := fun e => n (e ▸ List.mem_cons_of_mem _ List.mem_cons_self)
  exact ⟨d, b, c, ns, by rw [upd_ne n1]; exact h1, by rw [upd_ne n2]; exact h2, r⟩
/-- a name as they are drawn -/
def Nm (z : PySem.Str) : Prop := z.length ≤ 8 ∧ PyData.strOk z = true
theorem nm_six : ∀ z ∈ (["a", "b", "op", "call", "do", "given"] : List PySem.Str), Nm z := by
  unfold Nm
  decide +kernel
theorem abc_len : ((("abcdefghijklmnopqrstuvwxyz" : PySem.Str).cps.toList.length : Nat) : Int) = 26 := by decide +kernel
theorem abc_ok : ∀ c ∈ ("abcdefghijklmnopqrstuvwxyz" : PySem.Str).cps.toList, c < 1114112 := by decide +kernel
theorem sum_ones : ∀ zs : List PySem.Str, (∀ z ∈ zs, z.length = 1) → (zs.map (·.length)).sum = zs.length
  | [], _ => rfl
  | z :: r, h => by
    rw [List.map_cons, List.sum_cons, h z List.mem_cons_self, sum_ones r fun y hy => h y (List.mem_cons_of_mem _ hy), List.length_cons]
    omega
theorem strOk_append {x y : PySem.Str} (h1 : PyData.strOk x = true) (h2 : PyData.strOk y = true) : PyData.strOk (x ++ y) = true := by
  show (x.cps ++ y.cps).all _ = true
  rw [Array.all_append]
  show (PyData.strOk x && PyData.strOk y) = true
  rw [h1, h2]
  rfl
theorem strOk_join : ∀ zs : List PySem.Str, (∀ z ∈ zs, PyData.strOk z = true) → PyData.strOk (PySem.Str.join "" zs) = true
  | [], _ => by decide +kernel
  | [x], h => h x List.mem_cons_self
  | x :: y :: r, h => strOk_append (strOk_append (h x List.mem_cons_self) (by decide +kernel)) (strOk_join (y :: r) fun z hz => h z (List.mem_cons_of_mem _ hz))
section
variable {P : Program} {w : World} {K : PySem.W.Frag} {mg : PySem.Str → Option Value} {base : Heap}
def sp_one_of (K : PySem.W.Frag) : Sp := fun vs H Q _ => ∃ (w l a : Addr) (xs : List V) (C : Nat), vs = [.ref w, .ref a] ∧ Well H w l C ∧ C < LIM ∧ a ∉ [w, l] ∧ SqL K H a xs ∧ 0 < xs.length ∧ xs.length ≤ 1000000 ∧
  ∀ (H' : Hp) (i : Nat) (h : i < xs.length), Kp [w, l] H H' → Well H' w l (C + 1) → Q xs[i] H'
theorem ok_one_of (T : Txt K mg) : FnOk P w K mg base CX0 2 T.a_one_of T.d_one_of P_one_of (sp_one_of K) := by
  refine T.F_one_of.ok sc_one_of (fun vs H Q E h => by obtain ⟨w, l, a, xs, C, rfl, _⟩ := h; rfl) (fun cdv A outer s H vs Q E hr h => ?_)
  refine ⟨_, (pss_one (ps_ret (pe_ix ix_list (pv 1) (pe_call (ok_drawn T) (hr.mono (by decide)) (by rfl) T.g_drawn T.F_drawn.kp T.b_drawn .nil pass0 (pa_cons (pv 0) (pa_cons (pe_callB call_len_seq (by rfl) T.n_len (by decide +kernel) (pa_cons (pv 1) pa_nil)) pa_nil))) (fun _ _ => rfl)))), ?_⟩
  obtain ⟨w, l, a, xs, C, rfl, hW, hC, ha, hS, h0, h1, q⟩ := h
  refine ⟨_, rfl, _, rfl, _, rfl, a, _, rfl, .inl hS, w, l, _, C, rfl, hW, hC, by omega, by omega, fun H' r k hW' r0 r1 => ?_⟩
  obtain ⟨hi, e⟩ := atI_of r0 r1
  exact ⟨a, xs, r, _, rfl, rfl, k.seq ha hS, e, q H' _ hi k hW'⟩
def sp_name : Sp := fun vs H Q _ => ∃ (w l : Addr) (C : Nat), vs = [.ref w] ∧ Well H w l C ∧ C + 10 < LIM ∧
  ∀ (H' : Hp) (z : PySem.Str), Kp [w, l] H H' → Well H' w l (C + 10) → Nm z → Q (.str z) H'
theorem ok_name (T : Txt K mg) : FnOk P w K mg base CX0 3 T.a_name T.d_name P_name sp_name := by
  refine T.F_name.ok sc_name (fun vs H Q E h => by obtain ⟨w, l, C, rfl, _⟩ := h; rfl) (fun cdv A outer s H vs Q E hr h => ?_)
  refine ⟨_, (pss_cons (ps_if (pt_cmpR op_eq (pe_call (ok_drawn T) (hr.mono (by decide)) (by rfl) T.g_drawn T.F_drawn.kp T.b_drawn .nil pass0 (pa_cons (pv 0) (pa_cons pe_int pa_nil))) pe_int (nomark _)) (pss_one (ps_ret (pe_call (ok_one_of T) (hr.mono (by decide)) (by rfl) T.g_one_of T.F_one_of.kp T.b_one_of .nil pass0 (pa_cons (pv 0) (pa_cons (pe_lst (pa_cons pe_str (pa_cons pe_str (pa_cons pe_str (pa_cons pe_str (pa_cons pe_str (pa_cons pe_str pa_nil))))))) pa_nil))))) pss_nil)
    (pss_one (ps_ret (pe_join pe_str (pe_lc (own := [("k", 1)]) rfl sc_name.nd (pi_range1 (by rfl) T.n_range (pa_cons (pe_op op_add pe_int (pe_call (ok_drawn T) (hr.mono (by decide)) (by rfl) T.g_drawn T.F_drawn.kp T.b_drawn .nil pass0 (pa_cons (pv 0) (pa_cons pe_int pa_nil)))) pa_nil)) (blkOk_by (own := [("k", 1)]) (N := N_name) (sc := defScope s_name) (by decide +kernel)) (fun _ _ _ _ _ => (pg_name (i := 1) sc_name.nd rfl (Or.inl rfl))) (fun _ _ _ _ _ => pts_nil) (fun _ _ _ _ _ => (pe_ix ix_str pe_str (pe_call (ok_drawn T) (hr.mono (by decide)) (by rfl) T.g_drawn T.F_drawn.kp T.b_drawn .nil pass0 (pa_cons (pv 0) (pa_cons pe_int pa_nil))) (fun _ _ => rfl)))))))), ?_⟩
  obtain ⟨w, l, C, rfl, hW, hC, q⟩ := h
  refine ⟨_, rfl, w, l, 2, C, rfl, hW, by omega, by decide, by decide, fun H1 r k1 hW1 r0 r1 => ?_⟩
  refine ⟨rfl, _, rfl, ite2 (fun e => ?_) (fun e => ?_)⟩
  · refine ⟨_, rfl, by show 6 ≤ sizeLine; decide, fun p hp => ?_⟩
    have np := hW1.ne hp
    refine ⟨w, l, p, (["a", "b", "op", "call", "do", "given"] : List PySem.Str).map V.str, C + 1, rfl, hW1.new np, by omega, np, SqL.of upd_same, by show 0 < 6; decide, by show 6 ≤ 1000000; decide, fun H2 i hi k2 hW2 => ?_⟩
    rw [List.getElem_map]
    exact q H2 _ ((k1.trans (Kp.new hp)).trans k2) (hW2.mono (by omega)) (nm_six _ (List.getElem_mem _))
  · refine ⟨⟨_, rfl⟩, _, rfl, w, l, 8, C + 1, rfl, hW1, by omega, by decide, by decide, fun H2 r2 k2 hW2 r20 r21 => ?_⟩
    refine ⟨_, _, rfl, rfl, _, rfl, by omega, by omega, fun D hD => ?_⟩
    have nD := hW2.ne hD
    refine lc_range (lo := 0) (n := (1 + r2).toNat) (fun i H' => ∃ zs : List PySem.Str, zs.length = i ∧ (∀ z ∈ zs, z.length = 1 ∧ PyData.strOk z = true) ∧ H' D = some (.lst (zs.map V.str)) ∧ Kp [w, l] H2 H' ∧ Well H' w l (C + 2 + i))
      ⟨[], rfl, (fun z hz => nomatch hz), upd_same, Kp.new hD, hW2.new nD⟩ ?_ ?_
    · rintro i H' hi ⟨zs, hzl, hz, hHD, k', hW'⟩
      refine ⟨rfl, ?_⟩
      refine ⟨_, rfl, w, l, 26, C + 2 + i, rfl, hW', by omega, by decide, by decide, fun H4 r4 k4 hW4 r40 r41 => ?_⟩
      obtain ⟨hi4, e4⟩ := atI_of (xs := ("abcdefghijklmnopqrstuvwxyz" : PySem.Str).cps.toList) (r := r4) r40 (by rw [abc_len]; exact r41)
      refine ⟨_, _, _, rfl, rfl, by rw [sizeLine_eq]; decide +kernel, e4, zs.map V.str, k4 _ _ nD hHD, by rw [List.length_map, sizeLine_eq]; omega, zs ++ [⟨#[("abcdefghijklmnopqrstuvwxyz" : PySem.Str).cps.toList[r4.toNat]]⟩], ?_, ?_, ?_, ?_, ?_⟩
      · rw [List.length_append, List.length_singleton, hzl]
      · intro z hzm
        rcases List.mem_append.mp hzm with h | h
        · exact hz z h
        · rw [List.mem_singleton] at h
          subst h
          refine ⟨rfl, ?_⟩
          have q2 := abc_ok _ (List.getElem_mem hi4)
          exact (by simpa [PyData.strOk] using q2)
      · rw [upd_same, List.map_append]
        rfl
      · exact (k'.trans k4).wr (.inr hD)
      · exact (hW4.mono (by omega)).new nD
    · rintro H' ⟨zs, hzl, hz, hHD, k', hW'⟩
      have h8 : zs.length ≤ 8 := by omega
      have hsum : (zs.map (·.length)).sum = zs.length := sum_ones zs fun z h => (hz z h).1
      refine ⟨_, D, zs, rfl, rfl, .inl (SqL.of hHD), ?_, ?_⟩
      · rw [hsum]
        show zs.length + zs.length * 0 ≤ 16777216
        omega
      · refine q H' _ ((k1.trans k2).trans k') (hW'.mono (by omega)) ⟨?_, ?_⟩
        · rw [TL.join_eq]
          have q2 := StrLaws.join_length_le "" zs
          rw [hsum] at q2
          have e2 : (("" : PySem.Str)).length = 0 := rfl
          rw [e2] at q2
          omega
        · rw [TL.join_eq]
          exact strOk_join zs fun z h => (hz z h).2
def sp_new : Sp := fun vs H Q _ => ∃ (p : Addr) (xs : List V) (w n : PySem.Str) (f t : Addr), vs = [.ref p, .str w, .str n, .ref f, .ref t] ∧ H p = some (.lst xs) ∧ xs.length ≤ 1000 ∧
  ∀ (r : Addr), H r = none → Q (.int (xs.length : Int)) (upd (upd H r (.tup [.str w, .str n, .ref f, .ref t])) p (.lst (xs ++ [.ref r])))
theorem ok_new (T : Txt K mg) : FnOk P w K mg base CX0 1 T.a_new T.d_new P_new sp_new := by
  refine T.F_new.ok sc_new (fun vs H Q E h => by obtain ⟨p, xs, w, n, f, t, rfl, _⟩ := h; rfl) (fun cdv A outer s H vs Q E hr h => ?_)
  refine ⟨_, (pss_cons (ps_expr (pe_bm PySem.F.plainAttrs_list PySem.F.slot_list_append PySem.F.type_list_append mt_append (pv 0) (pa_cons (pe_tup (pa_cons (pv 1) (pa_cons (pv 2) (pa_cons (pv 3) (pa_cons (pv 4) pa_nil))))) pa_nil)))
    (pss_one (ps_ret (pe_op op_sub (pe_callB call_len_seq (by rfl) T.n_len (by decide +kernel) (pa_cons (pv 0) pa_nil)) pe_int)))), ?_⟩
  obtain ⟨p, xs, w, n, f, t, rfl, hp, hl, q⟩ := h
  refine ⟨_, rfl, .inl ⟨rfl, _, SqL.of hp⟩, _, rfl, _, rfl, _, rfl, _, rfl, by show 4 ≤ sizeLine; decide, fun r hr0 => ?_⟩
  have pr : p ≠ r := ne_of_none hp hr0
  refine ⟨p, xs, _, rfl, rfl, by rw [upd_ne pr]; exact hp, by rw [sizeLine_eq]; omega, ?_⟩
  refine ⟨_, rfl, p, _, rfl, .inl (SqL.of upd_same), _, _, rfl, rfl, ?_⟩
  have e : ((xs ++ [V.ref r]).length : Int) - 1 = (xs.length : Int) := by
    rw [List.length_append, List.length_singleton]
    omega
  show Q (.int (((xs ++ [V.ref r]).length : Int) - 1)) _
  rw [e]
  exact q r hr0
end
end K07
set_option Elab.async false
set_option linter.all false
set_option maxRecDepth 100000
set_option maxHeartbeats 4000000
/-! k07: terms on the heap; functions_of, tasks_of, parts_of. -/
namespace K07
open PySem PySem.Spec PyProof.Rows L2 Zg Zs Zr Zd
/-! ### a plan and its terms -/
structure Row where
  w : PySem.Str
  n : PySem.Str
  fs : List Nat
  ts : List Nat
def Row.kids (r : Row) : List Nat := r.fs ++ r.ts
/-- the terms at some rows -/
def rf (adr : List Addr) (l : List Nat) : List V := l.map fun i => .ref (adr.getD i 0)
theorem rf_append (adr : List Addr) (l m : List Nat) : rf adr (l ++ m) = rf adr l ++ rf adr m := List.map_append
theorem rf_length (adr : List Addr) (l : List Nat) : (rf adr l).length = l.length := List.length_map _
/-- what a term holds, by its row -/
def Shape (K : PySem.W.Frag) (H : Hp) (adr : List Addr) (r : Row) (vs : List V) : Prop :=
  (r.w ∈ (["end", "wait", "fail"] : List PySem.Str) ∧ r.fs = [] ∧ r.ts = [] ∧ vs = [.str r.w]) ∨
  (r.w ∈ (["go", "given"] : List PySem.Str) ∧ r.fs = [] ∧ r.ts = [] ∧ vs = [.str r.w, .str r.n]) ∨
  (r.w = "do" ∧ r.fs = [] ∧ r.ts.length = 1 ∧ vs = .str r.w :: .str r.n :: rf adr r.ts) ∨
  (r.w = "test" ∧ r.fs = [] ∧ r.ts.length = 2 ∧ ∃ q, SqT K H q [.int 0, .int 2] ∧ vs = .str r.w :: .ref q :: rf adr r.ts) ∨
  (r.w = "pick" ∧ r.fs = [] ∧ vs = .str r.w :: rf adr r.ts) ∨
  (r.w ∈ (["call", "part"] : List PySem.Str) ∧ ∃ p q, SqT K H p (rf adr r.fs) ∧ SqT K H q (rf adr r.ts) ∧ vs = [.str r.w, .str r.n, .ref p, .ref q])
theorem _root_.L2.Same.sqt {K : PySem.W.Frag} {H H' : Hp} {a : Addr} {xs : List V} (k : Same H H') (h : SqT K H a xs) : SqT K H' a xs := by
  rcases h with (h | ⟨o, h⟩) | h
  · exact .inl (.inl (k _ _ h))
  · exact .inl (.inr ⟨o, k _ _ h⟩)
  · exact .inr h
theorem Shape.same {K : PySem.W.Frag} {H H' : Hp} {adr : List Addr} {r : Row} {vs : List V} (h : Shape K H adr r vs) (k : Same H H') : Shape K H' adr r vs := by
  rcases h with h | h | h | ⟨h1, h2, h3, q, h4, h5⟩ | h | ⟨h1, p, q, h2, h3, h4⟩
  · exact .inl h
  · exact .inr (.inl h)
  · exact .inr (.inr (.inl h))
  · exact .inr (.inr (.inr (.inl ⟨h1, h2, h3, q, k.sqt h4, h5⟩)))
  · exact .inr (.inr (.inr (.inr (.inl h))))
  · exact .inr (.inr (.inr (.inr (.inr ⟨h1, p, q, k.sqt h2, k.sqt h3, h4⟩))))
/-- a term stands at a -/
def Cont (K : PySem.W.Frag) (H : Hp) (adr : List Addr) (r : Row) (a : Addr) : Prop := r.fs.length ≤ 100 ∧ r.ts.length ≤ 100 ∧ ∃ vs, SqT K H a vs ∧ Shape K H adr r vs
theorem Cont.same {K : PySem.W.Frag} {H H' : Hp} {adr : List Addr} {r : Row} {a : Addr} (h : Cont K H adr r a) (k : Same H H') : Cont K H' adr r a := by
  obtain ⟨b1, b2, vs, h1, h2⟩ := h
  exact ⟨b1, b2, vs, k.sqt h1, h2.same k⟩
theorem Shape.word {K : PySem.W.Frag} {H : Hp} {adr : List Addr} {r : Row} {vs : List V} (h : Shape K H adr r vs) : atI vs 0 = some (.str r.w) := by
  rcases h with h | h | h | ⟨h1, h2, h3, q, h4, h5⟩ | h | ⟨h1, p, q, h2, h3, h4⟩
  · rw [h.2.2.2]; rfl
  · rw [h.2.2.2]; rfl
  · rw [h.2.2.2]; exact atI_nat (j := 0) rfl
  · rw [h5]; exact atI_nat (j := 0) rfl
  · rw [h.2.2]; exact atI_nat (j := 0) rfl
  · rw [h4]; rfl
theorem inV_str (x : PySem.Str) (L : List PySem.Str) : inV (.str x) (L.map V.str) = decide (x ∈ L) := by
  unfold inV
  rw [List.any_map, Bool.eq_iff_iff, decide_eq_true_iff, List.any_eq_true]
  constructor
  · rintro ⟨y, hy, e⟩
    have e2 : (y == x) = true := e
    rw [beq_iff_eq] at e2
    exact e2 ▸ hy
  · intro h
    exact ⟨x, h, by show (x == x) = true; rw [beq_iff_eq]⟩
theorem cut_from (xs : List V) (k : Nat) (h : k ≤ xs.length) : cutV xs (some (k : Int)) none = xs.drop k := by
  unfold cutV
  rw [HT.sIx_none, HT.sIx_nat, Nat.min_eq_left h]
  exact List.take_of_length_le (by rw [List.length_drop]; omega)
section
variable {P : Program} {w : World} {K : PySem.W.Frag} {mg : PySem.Str → Option Value} {base : Heap}
/-- the sources of a comparison with a written tuple of texts -/
theorem in_words {σ : L2.St} {x : PySem.Str} {L : List PySem.Str} {H : Hp} {Q : Bool → Hp → Prop} {tk : TA} (hk : ∀ q, q (L.map V.str) H → tk σ H q) (hl : L.length ≤ 100)
    (q1 : ∀ H', Same H H' → (x ∈ L → Q true H') ∧ (x ∉ L → Q false H')) : tTup tk σ H fun y H2 => rIn K false (.str x) y H2 fun z H' => ∃ k, z = V.bl k ∧ Q k H' := by
  refine hk _ ⟨by rw [List.length_map, sizeLine_eq]; omega, fun p hp => ?_⟩
  refine ⟨p, L.map V.str, rfl, .inr (SqT.of upd_same), rfl, ?_, _, rfl, ?_⟩
  · rw [List.all_map]
    exact List.all_eq_true.mpr fun _ _ => rfl
  · rw [inV_str]
    have hs : Same H (upd H p (.tup (L.map V.str))) := fun b o e => by rw [upd_ne (ne_of_none e hp)]; exact e
    by_cases h : x ∈ L
    · rw [decide_eq_true h]; exact (q1 _ hs).1 h
    · rw [decide_eq_false h]; exact (q1 _ hs).2 h
def sp_kids (K : PySem.W.Frag) (F : Row → List Nat) : Sp := fun vs H Q _ => ∃ (adr : List Addr) (r : Row) (a : Addr), vs = [.ref a] ∧ Cont K H adr r a ∧ ∀ (H' : Hp) (p : Addr), Same H H' → SqT K H' p (rf adr (F r)) → Q (.ref p) H'
theorem same_new {H : Hp} {p : Addr} {o : HO} (hp : H p = none) : Same H (upd H p o) := fun b u e => by rw [upd_ne (ne_of_none e hp)]; exact e
theorem no_mem {L M : List PySem.Str} {x : PySem.Str} (h1 : x ∈ L) (h2 : x ∈ M) (h : ∀ x ∈ L, x ∉ M) {C : Prop} : C := absurd h2 (h x h1)
theorem no_eq {y : PySem.Str} {M : List PySem.Str} {x : PySem.Str} (h1 : x = y) (h2 : x ∈ M) (h : y ∉ M) {C : Prop} : C := absurd (h1 ▸ h2) h
theorem in_of {y : PySem.Str} {M : List PySem.Str} {x : PySem.Str} (h1 : x = y) (h2 : x ∉ M) (h : y ∈ M) {C : Prop} : C := absurd (h1 ▸ h) h2
theorem ok_functions_of (T : Txt K mg) : FnOk P w K mg base CX0 1 T.a_functions_of T.d_functions_of P_functions_of (sp_kids K Row.fs) := by
  refine T.F_functions_of.ok sc_functions_of (fun vs H Q E h => by obtain ⟨adr, r, a, rfl, _⟩ := h; rfl) (fun cdv A outer s H vs Q E hr h => ?_)
  refine ⟨_, (pss_one (ps_ret (pe_ifExp (pt_cmpR op_in_seq (pe_ix ix_tup (pv 0) pe_int (fun _ _ => rfl)) (pe_tup (pa_cons pe_str (pa_cons pe_str pa_nil))) (by rfl)) (pe_ix ix_tup (pv 0) pe_int (fun _ _ => rfl)) (pe_tup pa_nil)))), ?_⟩
  obtain ⟨adr, r, a, rfl, ⟨b1, b2, vs, hS, hs⟩, q⟩ := h
  refine ⟨_, rfl, a, vs, 0, _, rfl, rfl, hS, hs.word, ?_⟩
  refine in_words (L := ["call", "part"]) (fun q h => h) (by decide) ?_
  intro H1 k1
  refine ⟨fun e => iteT ?_, fun e => iteF ?_⟩
  · rcases hs with h | h | h | h | h | ⟨h1, p, p2, h2, h3, h4⟩
    · exact no_mem h.1 e (by decide +kernel)
    · exact no_mem h.1 e (by decide +kernel)
    · exact no_eq h.1 e (by decide +kernel)
    · exact no_eq h.1 e (by decide +kernel)
    · exact no_eq h.1 e (by decide +kernel)
    · subst h4
      exact ⟨_, rfl, a, _, 2, _, rfl, rfl, k1.sqt hS, rfl, q H1 p k1 (k1.sqt h2)⟩
  · have e0 : r.fs = [] := by
      rcases hs with h | h | h | h | h | h
      · exact h.2.1
      · exact h.2.1
      · exact h.2.1
      · exact h.2.1
      · exact h.2.1
      · exact absurd h.1 e
    refine ⟨by decide, fun p hp => ?_⟩
    refine q _ p (k1.trans (same_new hp)) ?_
    rw [e0]
    exact SqT.of upd_same
theorem ok_tasks_of (T : Txt K mg) : FnOk P w K mg base CX0 1 T.a_tasks_of T.d_tasks_of P_tasks_of (sp_kids K Row.ts) := by
  refine T.F_tasks_of.ok sc_tasks_of (fun vs H Q E h => by obtain ⟨adr, r, a, rfl, _⟩ := h; rfl) (fun cdv A outer s H vs Q E hr h => ?_)
  refine ⟨_, (pss_cons (ps_if (pt_cmpR op_in_seq (pe_ix ix_tup (pv 0) pe_int (fun _ _ => rfl)) (pe_tup (pa_cons pe_str (pa_cons pe_str pa_nil))) (by rfl)) (pss_one (ps_ret (pe_ix ix_tup (pv 0) pe_int (fun _ _ => rfl)))) pss_nil)
    (pss_cons (ps_if (pt_cmpR op_in_seq (pe_ix ix_tup (pv 0) pe_int (fun _ _ => rfl)) (pe_tup (pa_cons pe_str (pa_cons pe_str pa_nil))) (by rfl)) (pss_one (ps_ret (pe_slice sl_tupA (pv 0) (po_some pe_int) po_none))) pss_nil)
    (pss_one (ps_ret (pe_ifExp (pt_cmpR op_eq (pe_ix ix_tup (pv 0) pe_int (fun _ _ => rfl)) pe_str (nomark _)) (pe_slice sl_tupA (pv 0) (po_some pe_int) po_none) (pe_tup pa_nil)))))), ?_⟩
  obtain ⟨adr, r, a, rfl, ⟨b1, b2, vs, hS, hs⟩, q⟩ := h
  refine ⟨_, rfl, a, vs, 0, _, rfl, rfl, hS, hs.word, ?_⟩
  refine in_words (L := ["call", "part"]) (fun q h => h) (by decide) ?_
  intro H1 k1
  refine ⟨fun e => iteT ?_, fun e => iteF ?_⟩
  · rcases hs with h | h | h | h | h | ⟨h1, p, p2, h2, h3, h4⟩
    · exact no_mem h.1 e (by decide +kernel)
    · exact no_mem h.1 e (by decide +kernel)
    · exact no_eq h.1 e (by decide +kernel)
    · exact no_eq h.1 e (by decide +kernel)
    · exact no_eq h.1 e (by decide +kernel)
    · subst h4
      exact ⟨_, rfl, a, _, 3, _, rfl, rfl, k1.sqt hS, rfl, q H1 p2 k1 (k1.sqt h3)⟩
  refine ⟨_, rfl, a, vs, 0, _, rfl, rfl, k1.sqt hS, hs.word, ?_⟩
  refine in_words (L := ["do", "test"]) (fun q h => h) (by decide) ?_
  intro H2 k2
  have k12 := k1.trans k2
  refine ⟨fun e2 => iteT ?_, fun e2 => iteF ?_⟩
  · have go : ∀ x y : V, vs = x :: y :: rf adr r.ts → 0 < r.ts.length → rSlA K (.ref a) (some 2) none H2 Q := fun x y ev h0 => by
      subst ev
      refine ⟨a, _, rfl, k12.sqt hS, fun hw => ?_, fun _ p hp => ?_⟩
      · have h1 := hw.1
        rw [show HT.sIx (x :: y :: rf adr r.ts).length 0 (some 2) = min 2 (x :: y :: rf adr r.ts).length from HT.sIx_nat _ _ 2] at h1
        simp only [List.length_cons] at h1
        omega
      · refine q _ p (k12.trans (same_new hp)) ?_
        rw [show cutV (x :: y :: rf adr r.ts) (some 2) none = (x :: y :: rf adr r.ts).drop 2 from cut_from _ 2 (by simp)]
        exact SqT.of upd_same
    rcases hs with h | h | h | ⟨h1, h2, h3, p, h4, h5⟩ | h | h
    · exact no_mem h.1 e2 (by decide +kernel)
    · exact no_mem h.1 e2 (by decide +kernel)
    · exact ⟨_, rfl, 2, rfl, go _ _ h.2.2.2 (by omega)⟩
    · exact ⟨_, rfl, 2, rfl, go _ _ h5 (by omega)⟩
    · exact no_eq h.1 e2 (by decide +kernel)
    · exact absurd h.1 e
  refine ⟨_, rfl, a, vs, 0, _, rfl, rfl, k12.sqt hS, hs.word, ?_⟩
  refine ⟨rfl, _, rfl, ?_⟩
  rw [dec_str]
  refine ite2 (fun e3 => ?_) (fun e3 => ?_)
  · have e4 : r.w = "pick" := beq_iff_eq.mp e3
    rcases hs with h | h | h | h | h | h
    · exact no_eq e4 h.1 (by decide +kernel)
    · exact no_eq e4 h.1 (by decide +kernel)
    · rw [e4] at h; exact absurd h.1 (by decide +kernel)
    · rw [e4] at h; exact absurd h.1 (by decide +kernel)
    · obtain ⟨h1, h2, h3⟩ := h
      subst h3
      refine ⟨_, rfl, 1, rfl, a, _, rfl, k12.sqt hS, fun hw => ?_, fun _ p hp => ?_⟩
      · have h1 := hw.1
        rw [show HT.sIx (V.str r.w :: rf adr r.ts).length 0 (some 1) = min 1 (V.str r.w :: rf adr r.ts).length from HT.sIx_nat _ _ 1] at h1
        simp only [List.length_cons] at h1
        omega
      · refine q _ p (k12.trans (same_new hp)) ?_
        rw [show cutV (V.str r.w :: rf adr r.ts) (some 1) none = (V.str r.w :: rf adr r.ts).drop 1 from cut_from _ 1 (by simp)]
        exact SqT.of upd_same
    · exact absurd h.1 e
  · have e4 : r.w ≠ "pick" := fun h => e3 (beq_iff_eq.mpr h)
    have e0 : r.ts = [] := by
      rcases hs with h | h | h | h | h | h
      · exact h.2.2.1
      · exact h.2.2.1
      · exact in_of h.1 e2 (by decide +kernel)
      · exact in_of h.1 e2 (by decide +kernel)
      · exact absurd h.1 e4
      · exact absurd h.1 e
    refine ⟨by decide, fun p hp => ?_⟩
    refine q _ p (k12.trans (same_new hp)) ?_
    rw [e0]
    exact SqT.of upd_same
theorem ok_parts_of (T : Txt K mg) : FnOk P w K mg base CX0 2 T.a_parts_of T.d_parts_of P_parts_of (sp_kids K Row.kids) := by
  refine T.F_parts_of.ok sc_parts_of (fun vs H Q E h => by obtain ⟨adr, r, a, rfl, _⟩ := h; rfl) (fun cdv A outer s H vs Q E hr h => ?_)
  refine ⟨_, (pss_one (ps_ret (pe_op op_catA (pe_call (ok_functions_of T) (hr.mono (by decide)) (by rfl) T.g_functions_of T.F_functions_of.kp T.b_functions_of .nil pass0 (pa_cons (pv 0) pa_nil)) (pe_call (ok_tasks_of T) (hr.mono (by decide)) (by rfl) T.g_tasks_of T.F_tasks_of.kp T.b_tasks_of .nil pass0 (pa_cons (pv 0) pa_nil))))), ?_⟩
  obtain ⟨adr, r, a, rfl, hC, q⟩ := h
  refine ⟨_, rfl, adr, r, a, rfl, hC, fun H1 p1 k1 h1 => ?_⟩
  refine ⟨_, rfl, adr, r, a, rfl, hC.same k1, fun H2 p2 k2 h2 => ?_⟩
  have k12 := k1.trans k2
  refine ⟨p1, p2, _, _, rfl, rfl, k2.sqt h1, h2, ?_, fun e => ?_, fun _ e => ?_, fun _ _ p hp => ?_⟩
  · rw [rf_length, rf_length, sizeLine_eq]
    have := hC.1
    have := hC.2.1
    omega
  · refine q _ _ k12 ?_
    rw [Row.kids, rf_append, e]
    exact h2
  · refine q _ _ k12 ?_
    rw [Row.kids, rf_append, e, List.append_nil]
    exact k2.sqt h1
  · refine q _ _ (k12.trans (same_new hp)) ?_
    rw [Row.kids, rf_append]
    exact SqT.of upd_same
end
end K07
set_option Elab.async false
set_option linter.all false
set_option maxRecDepth 100000
set_option maxHeartbeats 4000000
/-! k07: part_at, terms_in, size_of, names_in. -/
namespace K07
open PySem PySem.Spec PyProof.Rows L2 Zg Zs Zr Zd Zt
def Row0 : Row := ⟨"", "", [], []⟩
def rowAt (plan : List Row) (i : Nat) : Row := plan.getD i Row0
def kidsAt (plan : List Row) (i : Nat) : List Nat := (rowAt plan i).kids
/-- the plan's rows lead downward -/
def Down (plan : List Row) : Prop := ∀ i, i < plan.length → ∀ j ∈ kidsAt plan i, j < i
/-- the terms of a plan -/
def Tms (K : PySem.W.Frag) (H : Hp) (plan : List Row) (adr : List Addr) : Prop := Down plan ∧ ∀ i, i < plan.length → Cont K H adr (rowAt plan i) (adr.getD i 0)
theorem Tms.same {K : PySem.W.Frag} {H H' : Hp} {plan : List Row} {adr : List Addr} (h : Tms K H plan adr) (k : Same H H') : Tms K H' plan adr := ⟨h.1, fun i hi => (h.2 i hi).same k⟩
/-- one step of a way -/
def stepW (plan : List Row) (o : Option Nat) (n : Int) : Option Nat := o.bind fun i => if 0 ≤ n then (kidsAt plan i)[n.toNat]? else none
def walkW (plan : List Row) (o : Option Nat) (zs : List Int) : Option Nat := zs.foldl (stepW plan) o
theorem walkW_none (plan : List Row) : ∀ zs, walkW plan none zs = none
  | [] => rfl
  | z :: zs => walkW_none plan zs
theorem walkW_take {plan : List Row} {o : Option Nat} {zs : List Int} {i : Nat} {z : Int} (h : zs[i]? = some z) : walkW plan o (zs.take (i + 1)) = stepW plan (walkW plan o (zs.take i)) z := by
  unfold walkW
  rw [List.take_succ, h, List.foldl_append]
  rfl
theorem walkW_stop {plan : List Row} {o : Option Nat} {zs : List Int} {i : Nat} (h : walkW plan o (zs.take i) = none) : walkW plan o zs = none := by
  have e : walkW plan o zs = walkW plan (walkW plan o (zs.take i)) (zs.drop i) := by
    unfold walkW
    rw [← List.foldl_append, List.take_append_drop]
  rw [e, h, walkW_none]
theorem kids_lt {plan : List Row} (h : Down plan) {i j : Nat} (hi : i < plan.length) (hj : j ∈ kidsAt plan i) : j < plan.length := Nat.lt_trans (h i hi j hj) hi
/-- rows that one comes to -/
inductive Rch (plan : List Row) (i : Nat) : Nat → Prop
  | at : Rch plan i i
  | kid {j k : Nat} : Rch plan i j → k ∈ kidsAt plan j → Rch plan i k
theorem Rch.lt {plan : List Row} (h : Down plan) {i j : Nat} (hi : i < plan.length) (r : Rch plan i j) : j < plan.length := by
  induction r with
  | «at» => exact hi
  | kid _ hk ih => exact kids_lt h ih hk
/-- so many terms within -/
def Cnt (plan : List Row) (c : Nat → Nat) : Prop := ∀ i, i < plan.length → c i = 1 + ((kidsAt plan i).map c).sum
theorem le_sum (c : Nat → Nat) : ∀ l : List Nat, (∀ j ∈ l, 1 ≤ c j) → l.length ≤ (l.map c).sum
  | [], _ => Nat.zero_le _
  | x :: l, h => by
    have h1 := h x List.mem_cons_self
    have h2 := le_sum c l fun j hj => h j (List.mem_cons_of_mem _ hj)
    simp only [List.length_cons, List.map_cons, List.sum_cons]
    omega
def opt (adr : List Addr) : Option Nat → V
  | none => .non
  | some i => .ref (adr.getD i 0)
section
variable {P : Program} {w : World} {K : PySem.W.Frag} {mg : PySem.Str → Option Value} {base : Heap}
def sp_part_at (K : PySem.W.Frag) : Sp := fun vs H Q _ => ∃ (plan : List Row) (adr : List Addr) (i : Nat) (b : Addr) (zs : List Int), vs = [.ref (adr.getD i 0), .ref b] ∧ Tms K H plan adr ∧ i < plan.length ∧ SqT K H b (zs.map V.int) ∧
  ∀ (H' : Hp), Same H H' → Q (opt adr (walkW plan (some i) zs)) H'
theorem ok_part_at (T : Txt K mg) : FnOk P w K mg base CX0 3 T.a_part_at T.d_part_at P_part_at (sp_part_at K) := by
  refine T.F_part_at.ok sc_part_at (fun vs H Q E h => by obtain ⟨plan, adr, i, b, zs, rfl, _⟩ := h; rfl) (fun cdv A outer s H vs Q E hr h => ?_)
  refine ⟨_, (pss_cons (ps_for PassesOwn.never rfl (pi_tup (pv 1)) (pg_name (i := 2) sc_part_at.nd rfl (Or.inl rfl)) (pss_cons (ps_set (i := 3) sc_part_at.nd rfl (Or.inl rfl) (pe_call (ok_parts_of T) (hr.mono (by decide)) (by rfl) T.g_parts_of T.F_parts_of.kp T.b_parts_of .nil pass0 (pa_cons (pv 0) pa_nil)))
    (pss_cons (ps_if (pt_not (pt_chain op_le op_lt pe_int (pv 2) (pe_callB call_len_seq (by rfl) T.n_len (by decide +kernel) (pa_cons (pv 3) pa_nil)))) (pss_one (ps_ret pe_non)) pss_nil)
    (pss_one (ps_set (i := 0) sc_part_at.nd rfl (Or.inl rfl) (pe_ix ix_tup (pv 3) (pv 2) (fun _ _ => rfl)))))))
    (pss_one (ps_ret (pv 0)))), ?_⟩
  obtain ⟨plan, adr, i0, b, zs, rfl, hT, hi0, hb, q⟩ := h
  refine ⟨_, rfl, b, rfl, ⟨_, hb⟩, for_tup (K := K) (a := b) (xs := zs.map V.int) (fun i σ H' => ∃ (j : Nat) (y1 y2 : Option V), σ = [some (.ref (adr.getD j 0)), some (.ref b), y1, y2] ∧ Same H H' ∧ j < plan.length ∧ walkW plan (some i0) (zs.take i) = some j)
    ⟨i0, none, none, rfl, Same.refl H, hi0, rfl⟩ (fun i σ H' _ ⟨_, _, _, _, k, _⟩ => k.sqt hb) ?_ ?_⟩
  · rintro i x σ H' hi ⟨j, y1, y2, rfl, k, hj, hw⟩
    obtain ⟨z, hz, rfl⟩ : ∃ z, zs[i]? = some z ∧ x = V.int z := by
      rw [List.getElem?_map] at hi
      cases e : zs[i]? with
      | none => rw [e] at hi; cases hi
      | some z => rw [e] at hi; exact ⟨z, rfl, (Option.some.inj hi).symm⟩
    have hw2 := walkW_take (plan := plan) (o := some i0) hz
    rw [hw] at hw2
    refine ⟨_, rfl, adr, _, _, rfl, (hT.same k).2 j hj, fun H1 p k1 hp => ?_⟩
    have k01 := k.trans k1
    have fin : ∀ m, stepW plan (some j) z = some m → m < plan.length ∧ walkW plan (some i0) (zs.take (i + 1)) = some m := fun m e => by
      rw [hw2]
      refine ⟨?_, e⟩
      have e2 : (if 0 ≤ z then (kidsAt plan j)[z.toNat]? else none) = some m := e
      split at e2
      · exact kids_lt hT.1 hj (List.mem_of_getElem? e2)
      · cases e2
    have out : stepW plan (some j) z = none → walkW plan (some i0) zs = none := fun e => walkW_stop (i := i + 1) (hw2.trans e)
    have hl : (rf adr (rowAt plan j).kids).length = (kidsAt plan j).length := rf_length _ _
    refine ⟨_, rfl, _, _, rfl, rfl, _, rfl, ite2 (fun e => ?_) (fun e => ?_)⟩
    · have z0 : 0 ≤ z := of_decide_eq_true e
      refine ⟨_, rfl, p, _, rfl, .inr hp, _, _, rfl, rfl, _, rfl, ?_⟩
      show if (!decide (z < ((rf adr (rowAt plan j).kids).length : Int))) = true then _ else _
      rw [hl]
      by_cases hz2 : z < ((kidsAt plan j).length : Int)
      · rw [decide_eq_true hz2]
        refine iteF ?_
        have hn : z.toNat < (kidsAt plan j).length := by omega
        have e3 : (kidsAt plan j)[z.toNat]? = some (kidsAt plan j)[z.toNat] := List.getElem?_eq_getElem hn
        have e4 : stepW plan (some j) z = some (kidsAt plan j)[z.toNat] := by
          show (if 0 ≤ z then (kidsAt plan j)[z.toNat]? else none) = _
          rw [if_pos z0, e3]
        have e5 : atI (rf adr (rowAt plan j).kids) z = some (.ref (adr.getD (kidsAt plan j)[z.toNat] 0)) := by
          have q1 : (rf adr (kidsAt plan j))[z.toNat]? = some (.ref (adr.getD (kidsAt plan j)[z.toNat] 0)) := by
            unfold rf
            rw [List.getElem?_map, e3]
            rfl
          have q2 := atI_nat (xs := rf adr (kidsAt plan j)) (j := z.toNat) q1
          rw [Int.toNat_of_nonneg z0] at q2
          exact q2
        obtain ⟨m1, m2⟩ := fin _ e4
        exact ⟨_, rfl, _, rfl, p, _, z, _, rfl, rfl, hp, e5, ⟨_, _, _, rfl, k01, m1, m2⟩⟩
      · rw [decide_eq_false hz2]
        refine iteT ?_
        have e4 : stepW plan (some j) z = none := by
          show (if 0 ≤ z then (kidsAt plan j)[z.toNat]? else none) = _
          rw [if_pos z0]
          exact List.getElem?_eq_none (by omega)
        have qq := q H1 k01
        rw [out e4] at qq
        exact qq
    · have z0 : ¬ 0 ≤ z := fun h => e (decide_eq_true h)
      refine ⟨_, rfl, iteT ?_⟩
      have e4 : stepW plan (some j) z = none := by
        show (if 0 ≤ z then (kidsAt plan j)[z.toNat]? else none) = _
        rw [if_neg z0]
      have qq := q H1 k01
      rw [out e4] at qq
      exact qq
  · rintro σ H' ⟨j, y1, y2, rfl, k, hj, hw⟩
    rw [List.length_map, List.take_length] at hw
    have qq := q H' k
    rw [hw] at qq
    exact ⟨_, rfl, qq⟩
def sp_terms_in (K : PySem.W.Frag) : Sp := fun vs H Q _ => ∃ (plan : List Row) (adr : List Addr) (i : Nat) (c : Nat → Nat), vs = [.ref (adr.getD i 0)] ∧ Tms K H plan adr ∧ i < plan.length ∧ Cnt plan c ∧ c i ≤ 1000 ∧
  ∀ (H' : Hp) (f : Addr) (idx : List Nat), Same H H' → H' f = some (.lst (rf adr idx)) → idx.length = c i → (∀ j, j ∈ idx ↔ Rch plan i j) → Q (.ref f) H'
theorem ok_terms_in (T : Txt K mg) : FnOk P w K mg base CX0 3 T.a_terms_in T.d_terms_in P_terms_in (sp_terms_in K) := by
  refine T.F_terms_in.ok sc_terms_in (fun vs H Q E h => by obtain ⟨plan, adr, i, c, rfl, _⟩ := h; rfl) (fun cdv A outer s H vs Q E hr h => ?_)
  refine ⟨_, (pss_cons (ps_set (i := 1) sc_terms_in.nd rfl (Or.inl rfl) (pe_lst (pa_cons (pv 0) pa_nil)))
    (pss_cons (ps_set (i := 2) sc_terms_in.nd rfl (Or.inl rfl) pe_int)
    (pss_cons (ps_while PassesOwn.never (pt_cmpR op_lt (pv 2) (pe_callB call_len_seq (by rfl) T.n_len (by decide +kernel) (pa_cons (pv 1) pa_nil)) (nomark _)) (pss_cons (ps_expr (pe_bm PySem.F.plainAttrs_list PySem.F.slot_list_extend PySem.F.type_list_extend mt_extT (pv 1) (pa_cons (pe_call (ok_parts_of T) (hr.mono (by decide)) (by rfl) T.g_parts_of T.F_parts_of.kp T.b_parts_of .nil pass0 (pa_cons (pe_ix ix_list (pv 1) (pv 2) (fun _ _ => rfl)) pa_nil)) pa_nil)))
    (pss_one (ps_aug (i := 2) sc_terms_in.nd rfl (Or.inl rfl) pe_int ip_add))))
    (pss_one (ps_ret (pv 1)))))), ?_⟩
  obtain ⟨plan, adr, i0, c, rfl, hT, hi0, hc, hc1, q⟩ := h
  refine ⟨_, rfl, by show 1 ≤ sizeLine; decide, fun f hf => ?_⟩
  refine while_by (fun σ H' => ∃ (done todo : List Nat), σ = [some (.ref (adr.getD i0 0)), some (.ref f), some (.int (done.length : Int))] ∧ H' f = some (.lst (rf adr (done ++ todo))) ∧ Same H H' ∧ done.length + (todo.map c).sum = c i0 ∧
      (∀ j ∈ done ++ todo, Rch plan i0 j) ∧ i0 ∈ done ++ todo ∧ ∀ j ∈ done, ∀ k ∈ kidsAt plan j, k ∈ done ++ todo)
    (fun σ _ => match σ with
      | [_, _, some (.int n)] => c i0 - n.toNat
      | _ => 0) ?_ ?_ ?_
  · refine ⟨[], [i0], rfl, upd_same, same_new hf, by simp, fun j hj => ?_, by simp, fun j hj => (nomatch hj)⟩
    rw [List.nil_append, List.mem_singleton] at hj
    rw [hj]
    exact .at
  · rintro σ H' ⟨done, todo, rfl, hF, k, hsum, hr1, hin, hcl⟩
    refine ⟨_, rfl, _, rfl, f, _, rfl, .inl (SqL.of hF), _, _, rfl, rfl, _, rfl, ?_⟩
    rw [rf_length, List.length_append]
    cases todo with
    | nil =>
      rw [decide_eq_false (by simp)]
      refine iteF ?_
      rw [List.append_nil] at hF hr1 hin hcl
      refine ⟨_, rfl, q H' f done k hF ?_ fun j => ⟨fun h => hr1 j h, fun h => ?_⟩⟩
      · simpa using hsum
      · induction h with
        | «at» => exact hin
        | kid _ hk ih => exact hcl _ ih _ hk
    | cons j todo =>
      have hj : Rch plan i0 j := hr1 j (by simp)
      have hjl := hj.lt hT.1 hi0
      have hcj := hc j hjl
      rw [decide_eq_true (by simp only [List.length_cons]; omega)]
      refine iteT ?_
      have e1 : (rf adr (done ++ j :: todo))[done.length]? = some (.ref (adr.getD j 0)) := by
        unfold rf
        rw [List.getElem?_map, List.getElem?_append_right (Nat.le_refl _), Nat.sub_self]
        rfl
      refine ⟨_, rfl, .inl ⟨rfl, _, SqL.of hF⟩, _, rfl, _, rfl, f, _, _, _, rfl, rfl, SqL.of hF, atI_nat e1, adr, _, _, rfl, (hT.same k).2 j hjl, fun H1 p k1 hp => ?_⟩
      have hkl : (kidsAt plan j).length ≤ 1000 := by
        have := ((hT.2 j hjl).1)
        have := ((hT.2 j hjl).2.1)
        show (_ ++ _ : List Nat).length ≤ _
        rw [List.length_append]
        omega
      have hcl1 : (done ++ j :: todo).length ≤ 2000 := by
        have q2 := le_sum c (j :: todo) fun x hx => by
          have := hc x ((hr1 x (List.mem_append_right _ hx)).lt hT.1 hi0)
          omega
        rw [List.length_append]
        omega
      refine ⟨f, p, _, _, rfl, rfl, k1 _ _ hF, hp, ?_, ?_⟩
      · rw [rf_length, rf_length, sizeLine_eq]
        have : (rowAt plan j).kids.length ≤ 1000 := hkl
        omega
      refine ⟨_, rfl, _, _, rfl, rfl, ⟨done ++ [j], todo ++ kidsAt plan j, ?_, ?_, ?_, ?_, ?_, ?_, ?_⟩, ?_⟩
      · simp
      · rw [upd_same, ← rf_append]
        simp [kidsAt]
      · exact fun b o e => by rw [upd_ne (ne_of_none e hf)]; exact k1 _ _ (k _ _ e)
      · simp only [List.length_append, List.length_singleton, List.map_append, List.sum_append, List.map_cons, List.sum_cons] at hsum ⊢
        omega
      · intro x hx
        simp only [List.mem_append, List.mem_singleton] at hx
        rcases hx with (h | h) | h | h
        · exact hr1 x (by simp [h])
        · exact hr1 x (by simp [h])
        · exact hr1 x (by simp [h])
        · exact hj.kid h
      · simp only [List.mem_append, List.mem_cons, List.mem_singleton] at hin ⊢
        rcases hin with h | h | h <;> simp [h]
      · intro x hx y hy
        rcases List.mem_append.mp hx with h | h
        · have q2 := hcl x h y hy
          simp only [List.mem_append, List.mem_cons] at q2 ⊢
          rcases q2 with h | h | h <;> simp [h]
        · rw [List.mem_singleton] at h
          subst h
          simp [hy]
      · simp only [List.map_cons, List.sum_cons] at hsum
        show c i0 - ((done.length : Int) + 1).toNat < c i0 - ((done.length : Int)).toNat
        omega
  · rintro σ H' Q1 Q2 hQ h
    obtain ⟨x, h1, y, h2, p, ys, h3, h4, i, j, h5, h6, k, h7, h8⟩ := h
    exact ⟨x, h1, y, h2, p, ys, h3, h4, i, j, h5, h6, k, h7, hQ _ _ h8⟩
def sp_size_of (K : PySem.W.Frag) : Sp := fun vs H Q _ => ∃ (plan : List Row) (adr : List Addr) (i : Nat) (c : Nat → Nat), vs = [.ref (adr.getD i 0)] ∧ Tms K H plan adr ∧ i < plan.length ∧ Cnt plan c ∧ c i ≤ 1000 ∧
  ∀ (H' : Hp), Same H H' → Q (.int (c i : Nat)) H'
theorem ok_size_of (T : Txt K mg) : FnOk P w K mg base CX0 4 T.a_size_of T.d_size_of P_size_of (sp_size_of K) := by
  refine T.F_size_of.ok sc_size_of (fun vs H Q E h => by obtain ⟨plan, adr, i, c, rfl, _⟩ := h; rfl) (fun cdv A outer s H vs Q E hr h => ?_)
  refine ⟨_, (pss_one (ps_ret (pe_callB call_len_seq (by rfl) T.n_len (by decide +kernel) (pa_cons (pe_call (ok_terms_in T) (hr.mono (by decide)) (by rfl) T.g_terms_in T.F_terms_in.kp T.b_terms_in .nil pass0 (pa_cons (pv 0) pa_nil)) pa_nil)))), ?_⟩
  obtain ⟨plan, adr, i0, c, rfl, hT, hi0, hc, hc1, q⟩ := h
  refine ⟨_, rfl, plan, adr, i0, c, rfl, hT, hi0, hc, hc1, fun H' f idx k hf hl hm => ?_⟩
  refine ⟨f, _, rfl, .inl (SqL.of hf), ?_⟩
  rw [rf_length, hl]
  exact q H' k
def NAMED : List PySem.Str := ["call", "given", "part"]
/-- the names within, in order -/
def IsNames (plan : List Row) (i : Nat) (ys : List PySem.Str) : Prop := sortedS ys = true ∧ ys.Nodup ∧ ∀ x, x ∈ ys ↔ ∃ j, Rch plan i j ∧ (rowAt plan j).w ∈ NAMED ∧ (rowAt plan j).n = x
theorem IsNames.uniq {plan : List Row} {i : Nat} {l m : List PySem.Str} (h1 : IsNames plan i l) (h2 : IsNames plan i m) : l = m :=
  sorted_uniq h1.1 h2.1 h1.2.1 h2.2.1 fun x => (h1.2.2 x).trans (h2.2.2 x).symm
theorem Shape.name {K : PySem.W.Frag} {H : Hp} {adr : List Addr} {r : Row} {vs : List V} (h : Shape K H adr r vs) (hw : r.w ∈ NAMED) : atI vs 1 = some (.str r.n) := by
  rcases h with h | h | h | h | h | ⟨h1, p, q, h2, h3, h4⟩
  · exact no_mem h.1 hw (by decide +kernel)
  · rw [h.2.2.2]; rfl
  · exact no_eq h.1 hw (by decide +kernel)
  · exact no_eq h.1 hw (by decide +kernel)
  · exact no_eq h.1 hw (by decide +kernel)
  · rw [h4]; rfl
def sp_names_in (K : PySem.W.Frag) : Sp := fun vs H Q _ => ∃ (plan : List Row) (adr : List Addr) (i : Nat) (c : Nat → Nat), vs = [.ref (adr.getD i 0)] ∧ Tms K H plan adr ∧ i < plan.length ∧ Cnt plan c ∧ c i ≤ 62 ∧
  ∀ (H' : Hp) (p : Addr) (ys : List PySem.Str), Same H H' → SqT K H' p (ys.map V.str) → IsNames plan i ys → ys.length ≤ 62 → Q (.ref p) H'
theorem ok_names_in (T : Txt K mg) : FnOk P w K mg base CX0 4 T.a_names_in T.d_names_in P_names_in (sp_names_in K) := by
  refine T.F_names_in.ok sc_names_in (fun vs H Q E h => by obtain ⟨plan, adr, i, c, rfl, _⟩ := h; rfl) (fun cdv A outer s H vs Q E hr h => ?_)
  refine ⟨_, (pss_one (ps_ret (pe_callTy call_tuple_of (by rfl) T.n_tuple (by decide +kernel) (pa_cons (pe_callB (cr_sortedSS rfl) (by rfl) T.n_sorted (by decide +kernel) (pa_cons (pe_ss (own := [("one", 1)]) rfl sc_names_in.nd (pi_list (pe_call (ok_terms_in T) (hr.mono (by decide)) (by rfl) T.g_terms_in T.F_terms_in.kp T.b_terms_in .nil pass0 (pa_cons (pv 0) pa_nil))) (blkOk_by (own := [("one", 1)]) (N := N_names_in) (sc := defScope s_names_in) (by decide +kernel)) (fun _ _ _ _ _ => (pg_name (i := 1) sc_names_in.nd rfl (Or.inl rfl))) (fun _ _ _ _ _ => (pts_one (pt_cmpR (show OpR _ (compareOp .In) (rIn K false) from op_in_seq) (pe_ix (show IxR _ (rIxT K) from ix_tup) (pv 1) pe_int (fun _ _ => rfl)) (pe_tup (pa_cons pe_str (pa_cons pe_str (pa_cons pe_str pa_nil)))) (by rfl)))) (fun _ _ _ _ _ => (pe_ix (show IxR _ (rIxT K) from ix_tup) (pv 1) pe_int (fun _ _ => rfl)))) pa_nil)) pa_nil)))), ?_⟩
  obtain ⟨plan, adr, i0, c, rfl, hT, hi0, hc, hc1, q⟩ := h
  refine ⟨_, rfl, plan, adr, i0, c, rfl, hT, hi0, hc, by omega, fun H1 f idx k hf hl hm => ?_⟩
  have hll : (rf adr idx).length = idx.length := rf_length _ _
  refine ⟨f, rfl, ⟨_, SqL.of hf⟩, fun D hD => ?_⟩
  have fD : f ≠ D := ne_of_none hf hD
  refine ss_list (K := K) (a := f) (xs := rf adr idx) (fun i H' => ∃ L : List PySem.Str, H' D = some (SSO w D L) ∧ Same H1 H' ∧ L.Nodup ∧ L.length ≤ i ∧ ∀ x, x ∈ L ↔ ∃ j ∈ idx.take i, (rowAt plan j).w ∈ NAMED ∧ (rowAt plan j).n = x)
    ⟨[], upd_same, same_new hD, List.nodup_nil, Nat.le_refl _, fun x => by simp⟩ (fun i H' _ ⟨L, _, k', _⟩ => k'.seq (SqL.of hf)) ?_ ?_
  · rintro i x H' hi ⟨L, hL, k', hn, hlen, hmem⟩
    obtain ⟨j, hj, rfl⟩ : ∃ j, idx[i]? = some j ∧ x = .ref (adr.getD j 0) := by
      unfold rf at hi
      rw [List.getElem?_map] at hi
      cases e : idx[i]? with
      | none => rw [e] at hi; cases hi
      | some z => rw [e] at hi; exact ⟨z, rfl, (Option.some.inj hi).symm⟩
    have hil : i < idx.length := (List.getElem?_eq_some_iff.mp hj).1
    have hR : Rch plan i0 j := (hm j).mp (List.mem_of_getElem? hj)
    obtain ⟨b1, b2, vs, hS, hs⟩ := ((hT.same (k.trans k')).2 j (hR.lt hT.1 hi0))
    refine ⟨rfl, _, rfl, _, vs, 0, _, rfl, rfl, hS, hs.word, ?_⟩
    refine in_words (L := NAMED) (fun q h => h) (by decide) ?_
    intro H2 k2
    have hL2 := k2 _ _ hL
    refine ⟨fun e => iteT ?_, fun e => iteF ?_⟩
    · refine ⟨_, rfl, _, vs, 1, _, rfl, rfl, k2.sqt hS, hs.name e, _, L, rfl, hL2, ?_, ins (rowAt plan j).n L, upd_same, ?_, ins_nodup hn, ?_, ?_⟩
      · have e : scanBound = scanBound := rfl
        unfold scanBound
        omega
      · exact fun b o eb => by
          rw [upd_ne (ne_of_none eb hD)]
          exact k2 _ _ (k' _ _ eb)
      · have := ins_len (rowAt plan j).n L
        omega
      · intro x
        rw [mem_ins, hmem x, List.take_succ, hj]
        constructor
        · rintro (⟨m, h1, h2⟩ | h)
          · exact ⟨m, List.mem_append_left _ h1, h2⟩
          · exact ⟨j, List.mem_append_right _ (by simp), e, h.symm⟩
        · rintro ⟨m, h1, h2, h3⟩
          rcases List.mem_append.mp h1 with h | h
          · exact .inl ⟨m, h, h2, h3⟩
          · have h' : m = j := by simpa using h
            subst h'
            exact .inr h3.symm
    · refine ⟨L, hL2, k'.trans k2, hn, by omega, fun x => ?_⟩
      rw [hmem x, List.take_succ, hj]
      constructor
      · rintro ⟨m, h1, h2⟩
        exact ⟨m, List.mem_append_left _ h1, h2⟩
      · rintro ⟨m, h1, h2, h3⟩
        rcases List.mem_append.mp h1 with h | h
        · exact ⟨m, h, h2, h3⟩
        · have h' : m = j := by simpa using h
          subst h'
          exact absurd h2 e
  · rintro H' ⟨L, hL, k', hn, hlen, hmem⟩
    rw [hll, hl] at hlen
    rw [hll, List.take_length] at hmem
    refine ⟨D, L, rfl, hL, by omega, fun ys p hp hsort hfree => ?_⟩
    refine ⟨p, _, rfl, .inl ⟨SqL.of upd_same, fun l hl2 => ?_⟩⟩
    refine q _ l ys ((((k.trans k').trans (same_new hfree))).trans (same_new hl2)) (SqT.of upd_same) ⟨hsort, hp.nodup_iff.mpr hn, fun x => ?_⟩ (by rw [hp.length_eq]; omega)
    rw [hp.mem_iff, hmem x]
    constructor
    · rintro ⟨j, h1, h2⟩
      exact ⟨j, (hm j).mp h1, h2⟩
    · rintro ⟨j, h1, h2⟩
      exact ⟨j, (hm j).mpr h1, h2⟩
end
end K07
set_option Elab.async false
set_option linter.all false
set_option maxRecDepth 100000
set_option maxHeartbeats 4000000
/-! k07: the drawn plan. -/
namespace K07
open PySem PySem.Spec PyProof.Rows L2 Zg Zs Zr Zd Zt
/-! ### a plan on the heap -/
def numL (l : List Nat) : List V := l.map fun i => V.int (i : Nat)
theorem numL_append (l m : List Nat) : numL (l ++ m) = numL l ++ numL m := List.map_append
theorem numL_length (l : List Nat) : (numL l).length = l.length := List.length_map _
def RowOk (r : Row) : Prop := Nm r.n ∧ r.fs.length ≤ 2 ∧ r.ts.length ≤ 4 ∧
  ((r.w ∈ (["end", "wait", "fail"] : List PySem.Str) ∧ r.fs = [] ∧ r.ts = []) ∨ (r.w ∈ (["go", "given"] : List PySem.Str) ∧ r.fs = [] ∧ r.ts = []) ∨ (r.w = "do" ∧ r.fs = [] ∧ r.ts.length = 1) ∨
   (r.w = "test" ∧ r.fs = [] ∧ r.ts.length = 2) ∨ (r.w = "pick" ∧ r.fs = []) ∨ r.w ∈ (["call", "part"] : List PySem.Str))
def PlanOk (plan : List Row) : Prop := Down plan ∧ ∀ i, i < plan.length → RowOk (rowAt plan i)
/-- a row at a, none of its objects in S -/
def RowAt (H : Hp) (S : List Addr) (a : Addr) (r : Row) : Prop := ∃ f t, H a = some (.tup [.str r.w, .str r.n, .ref f, .ref t]) ∧ H f = some (.lst (numL r.fs)) ∧ H t = some (.lst (numL r.ts)) ∧ a ∉ S ∧ f ∉ S ∧ t ∉ S
def Rows (H : Hp) (S : List Addr) (ra : List Addr) (plan : List Row) : Prop := ra.length = plan.length ∧ ∀ i, i < plan.length → RowAt H S (ra.getD i 0) (rowAt plan i)
theorem Kp.sub {S S' : List Addr} {H H' : Hp} (h : Kp S H H') (e : ∀ a ∈ S, a ∈ S') : Kp S' H H' := fun a o n => h a o fun m => n (e a m)
theorem RowAt.kp {H H' : Hp} {S : List Addr} {a : Addr} {r : Row} (h : RowAt H S a r) (k : Kp S H H') : RowAt H' S a r := by
  obtain ⟨f, t, h1, h2, h3, n1, n2, n3⟩ := h
  exact ⟨f, t, k _ _ n1 h1, k _ _ n2 h2, k _ _ n3 h3, n1, n2, n3⟩
theorem Rows.kp {H H' : Hp} {S : List Addr} {ra : List Addr} {plan : List Row} (h : Rows H S ra plan) (k : Kp S H H') : Rows H' S ra plan := ⟨h.1, fun i hi => (h.2 i hi).kp k⟩
theorem RowAt.sub {H : Hp} {S S' : List Addr} {a : Addr} {r : Row} (h : RowAt H S a r) (e : ∀ a ∈ S', a ∈ S) : RowAt H S' a r := by
  obtain ⟨f, t, h1, h2, h3, n1, n2, n3⟩ := h
  exact ⟨f, t, h1, h2, h3, fun m => n1 (e _ m), fun m => n2 (e _ m), fun m => n3 (e _ m)⟩
theorem Rows.sub {H : Hp} {S S' : List Addr} {ra : List Addr} {plan : List Row} (h : Rows H S ra plan) (e : ∀ a ∈ S', a ∈ S) : Rows H S' ra plan := ⟨h.1, fun i hi => (h.2 i hi).sub e⟩
theorem rowAt_old {plan : List Row} {r : Row} {i : Nat} (h : i < plan.length) : rowAt (plan ++ [r]) i = rowAt plan i := by
  unfold rowAt
  rw [List.getD_eq_getElem?_getD, List.getD_eq_getElem?_getD, List.getElem?_append_left h]
theorem rowAt_new {plan : List Row} {r : Row} : rowAt (plan ++ [r]) plan.length = r := by
  unfold rowAt
  rw [List.getD_eq_getElem?_getD, List.getElem?_append_right (Nat.le_refl _), Nat.sub_self]
  rfl
theorem getD_old {ra : List Addr} {a : Addr} {i : Nat} (h : i < ra.length) : (ra ++ [a]).getD i 0 = ra.getD i 0 := by
  rw [List.getD_eq_getElem?_getD, List.getD_eq_getElem?_getD, List.getElem?_append_left h]
theorem getD_new {ra : List Addr} {a : Addr} : (ra ++ [a]).getD ra.length 0 = a := by
  rw [List.getD_eq_getElem?_getD, List.getElem?_append_right (Nat.le_refl _), Nat.sub_self]
  rfl
theorem snoc_lt {n i : Nat} {α : Type} {l : List α} {a : α} (h : i < (l ++ [a]).length) : i < l.length ∨ i = l.length := by
  rw [List.length_append, List.length_singleton] at h
  omega
theorem Rows.snoc {H : Hp} {S : List Addr} {ra : List Addr} {plan : List Row} {a : Addr} {r : Row} (h : Rows H S ra plan) (q : RowAt H S a r) : Rows H S (ra ++ [a]) (plan ++ [r]) := by
  refine ⟨by rw [List.length_append, List.length_append, h.1]; rfl, fun i hi => ?_⟩
  rcases snoc_lt (n := 0) hi with hi | hi
  · rw [getD_old (by rw [h.1]; exact hi), rowAt_old hi]
    exact h.2 i hi
  · subst hi
    rw [rowAt_new, ← h.1, getD_new]
    exact q
theorem PlanOk.snoc {plan : List Row} {r : Row} (h : PlanOk plan) (q : RowOk r) (d : ∀ j ∈ r.kids, j < plan.length) : PlanOk (plan ++ [r]) := by
  refine ⟨fun i hi j hj => ?_, fun i hi => ?_⟩
  · rcases snoc_lt (n := 0) hi with hi | hi
    · unfold kidsAt at hj
      rw [rowAt_old hi] at hj
      exact h.1 i hi j hj
    · subst hi
      unfold kidsAt at hj
      rw [rowAt_new] at hj
      exact d j hj
  · rcases snoc_lt (n := 0) hi with hi | hi
    · rw [rowAt_old hi]
      exact h.2 i hi
    · subst hi
      rw [rowAt_new]
      exact q
/-- while the plan is drawn: the plan at p, the numbers of functions at f, those of tasks at t -/
structure PSt (H0 H : Hp) (w l : Addr) (C : Nat) (p f t : Addr) (plan : List Row) (ra : List Addr) (fL tL : List Nat) : Prop where
  well : Well H w l C
  kp : Kp [w, l] H0 H
  np : H0 p = none
  nf : H0 f = none
  nt : H0 t = none
  dis : p ∉ [w, l] ∧ f ∉ [w, l] ∧ t ∉ [w, l] ∧ p ≠ f ∧ p ≠ t ∧ f ≠ t
  hp : H p = some (.lst (ra.map V.ref))
  hf : H f = some (.lst (numL fL))
  ht : H t = some (.lst (numL tL))
  rows : Rows H [w, l, p, f, t] ra plan
  ok : PlanOk plan
  fl : ∀ j ∈ fL, j < plan.length
  tl : ∀ j ∈ tL, j < plan.length
theorem sub5 {w l p f t a : Addr} (h : a ∈ [w, l]) : a ∈ [w, l, p, f, t] := by
  simp only [List.mem_cons, List.not_mem_nil, or_false] at h ⊢
  rcases h with h | h <;> simp [h]
section
variable {H0 H H' : Hp} {w l : Addr} {C C' : Nat} {p f t : Addr} {plan : List Row} {ra : List Addr} {fL tL : List Nat}
theorem PSt.draw (h : PSt H0 H w l C p f t plan ra fL tL) (k : Kp [w, l] H H') (q : Well H' w l C') : PSt H0 H' w l C' p f t plan ra fL tL :=
  ⟨q, h.kp.trans k, h.np, h.nf, h.nt, h.dis, k _ _ h.dis.1 h.hp, k _ _ h.dis.2.1 h.hf, k _ _ h.dis.2.2.1 h.ht, h.rows.kp (k.sub fun _ => sub5), h.ok, h.fl, h.tl⟩
theorem PSt.same (h : PSt H0 H w l C p f t plan ra fL tL) (k : Same H H') : PSt H0 H' w l C p f t plan ra fL tL := h.draw (Kp.of k) (h.well.same k)
theorem PSt.more (h : PSt H0 H w l C p f t plan ra fL tL) (q : C ≤ C') : PSt H0 H w l C' p f t plan ra fL tL :=
  ⟨h.well.mono q, h.kp, h.np, h.nf, h.nt, h.dis, h.hp, h.hf, h.ht, h.rows, h.ok, h.fl, h.tl⟩
theorem PSt.new {a : Addr} {o : HO} (h : PSt H0 H w l C p f t plan ra fL tL) (n : H a = none) : PSt H0 (upd H a o) w l C p f t plan ra fL tL :=
  h.draw (Kp.new n) (h.well.new (h.well.ne n))
theorem PSt.out {a : Addr} (h : PSt H0 H w l C p f t plan ra fL tL) (n : H a = none) : a ∉ [w, l, p, f, t] := by
  intro m
  have q := h.well.ne n
  simp only [List.mem_cons, List.not_mem_nil, or_false] at m q
  rcases m with e | e | e | e | e
  · exact q (.inl e)
  · exact q (.inr e)
  · rw [e, h.hp] at n; cases n
  · rw [e, h.hf] at n; cases n
  · rw [e, h.ht] at n; cases n
theorem Well.wr {a : Addr} {o : HO} (h : Well H w l C) (n : a ∉ [w, l]) : Well (upd H a o) w l C := h.new n
theorem kp_at {S : List Addr} {a : Addr} {o : HO} (m : a ∈ S) : Kp S H (upd H a o) := (Kp.refl S H).wr (.inl m)
theorem PSt.kpw {a : Addr} {o : HO} (h : PSt H0 H w l C p f t plan ra fL tL) (n : H0 a = none) : Kp [w, l] H0 (upd H a o) := h.kp.wr (.inr n)
theorem PSt.row {x y r : Addr} {wd nm : PySem.Str} {fs ts : List Nat} (h : PSt H0 H w l C p f t plan ra fL tL) (hx : H x = some (.lst (numL fs))) (hy : H y = some (.lst (numL ts))) (nx : x ∉ [w, l, p, f, t]) (ny : y ∉ [w, l, p, f, t])
    (ok : RowOk ⟨wd, nm, fs, ts⟩) (hfs : ∀ j ∈ fs, j < plan.length) (hts : ∀ j ∈ ts, j < plan.length) (nr : H r = none) :
    PSt H0 (upd (upd H r (.tup [.str wd, .str nm, .ref x, .ref y])) p (.lst (ra.map V.ref ++ [.ref r]))) w l C p f t (plan ++ [⟨wd, nm, fs, ts⟩]) (ra ++ [r]) fL tL := by
  have h1 := h.new (o := .tup [.str wd, .str nm, .ref x, .ref y]) nr
  have ro := h.out nr
  have hr1 : upd H r (.tup [.str wd, .str nm, .ref x, .ref y]) r = some (.tup [.str wd, .str nm, .ref x, .ref y]) := upd_same
  have hx1 := (Kp.new (S := [w, l]) (o := .tup [.str wd, .str nm, .ref x, .ref y]) nr) _ _ (fun m => nx (sub5 m)) hx
  have hy1 := (Kp.new (S := [w, l]) (o := .tup [.str wd, .str nm, .ref x, .ref y]) nr) _ _ (fun m => ny (sub5 m)) hy
  generalize upd H r (.tup [.str wd, .str nm, .ref x, .ref y]) = H1 at h1 hr1 hx1 hy1 ⊢
  have m5 : p ∈ [w, l, p, f, t] := by simp
  obtain ⟨d1, d2, d3, d4, d5, d6⟩ := h.dis
  have k := kp_at (H := H1) (S := [w, l, p, f, t]) (o := .lst (ra.map V.ref ++ [.ref r])) m5
  have rx : RowAt H1 [w, l, p, f, t] r ⟨wd, nm, fs, ts⟩ := ⟨x, y, hr1, hx1, hy1, ro, nx, ny⟩
  refine ⟨h1.well.wr d1, h1.kpw h.np, h.np, h.nf, h.nt, h.dis, ?_, ?_, ?_, (h1.rows.snoc rx).kp k, h.ok.snoc ok ?_, fun j hj => ?_, fun j hj => ?_⟩
  · rw [upd_same, List.map_append]; rfl
  · rw [upd_ne (Ne.symm d4)]; exact h1.hf
  · rw [upd_ne (Ne.symm d5)]; exact h1.ht
  · intro j hj
    rcases List.mem_append.mp hj with e | e
    · exact hfs j e
    · exact hts j e
  · have := h.fl j hj
    rw [List.length_append]
    omega
  · have := h.tl j hj
    rw [List.length_append]
    omega
theorem PSt.addf {n : Nat} (h : PSt H0 H w l C p f t plan ra fL tL) (hn : n < plan.length) : PSt H0 (upd H f (.lst (numL fL ++ [.int (n : Nat)]))) w l C p f t plan ra (fL ++ [n]) tL := by
  obtain ⟨d1, d2, d3, d4, d5, d6⟩ := h.dis
  refine ⟨h.well.wr d2, h.kpw h.nf, h.np, h.nf, h.nt, h.dis, ?_, ?_, ?_, h.rows.kp (kp_at (by simp)), h.ok, fun j hj => ?_, h.tl⟩
  · rw [upd_ne d4]; exact h.hp
  · rw [upd_same, numL_append]; rfl
  · rw [upd_ne (Ne.symm d6)]; exact h.ht
  · rcases List.mem_append.mp hj with e | e
    · exact h.fl j e
    · rw [List.mem_singleton] at e
      rw [e]; exact hn
theorem PSt.addt {n : Nat} (h : PSt H0 H w l C p f t plan ra fL tL) (hn : n < plan.length) : PSt H0 (upd H t (.lst (numL tL ++ [.int (n : Nat)]))) w l C p f t plan ra fL (tL ++ [n]) := by
  obtain ⟨d1, d2, d3, d4, d5, d6⟩ := h.dis
  refine ⟨h.well.wr d3, h.kpw h.nt, h.np, h.nf, h.nt, h.dis, ?_, ?_, ?_, h.rows.kp (kp_at (by simp)), h.ok, h.fl, fun j hj => ?_⟩
  · rw [upd_ne d5]; exact h.hp
  · rw [upd_ne d6]; exact h.hf
  · rw [upd_same, numL_append]; rfl
  · rcases List.mem_append.mp hj with e | e
    · exact h.tl j e
    · rw [List.mem_singleton] at e
      rw [e]; exact hn
theorem PSt.start (hW : Well H w l C) (hp : H p = none) (hf : upd H p (.lst []) f = none) (ht : upd (upd H p (.lst [])) f (.lst []) t = none) :
    PSt H (upd (upd (upd H p (.lst [])) f (.lst [])) t (.lst [])) w l C p f t [] [] [] [] := by
  have pf : f ≠ p := fun e => by rw [e, upd_same] at hf; cases hf
  have tf : t ≠ f := fun e => by rw [e, upd_same] at ht; cases ht
  have tp : t ≠ p := fun e => by rw [e, upd_ne (Ne.symm pf), upd_same] at ht; cases ht
  have hf0 : H f = none := by rw [upd_ne pf] at hf; exact hf
  have ht0 : H t = none := by rw [upd_ne tf, upd_ne tp] at ht; exact ht
  have n1 := hW.ne hp
  have n2 := hW.ne hf0
  have n3 := hW.ne ht0
  refine ⟨((hW.new n1).new n2).new n3, ((Kp.refl _ H).wr (.inr hp) |>.wr (.inr hf0)).wr (.inr ht0), hp, hf0, ht0, ⟨n1, n2, n3, Ne.symm pf, Ne.symm tp, Ne.symm tf⟩, ?_, ?_, upd_same, ⟨rfl, fun i hi => absurd hi (Nat.not_lt_zero _)⟩,
    ⟨fun i hi => absurd hi (Nat.not_lt_zero _), fun i hi => absurd hi (Nat.not_lt_zero _)⟩, fun j hj => (nomatch hj), fun j hj => (nomatch hj)⟩
  · rw [upd_ne (Ne.symm tp), upd_ne (Ne.symm pf), upd_same]; rfl
  · rw [upd_ne (Ne.symm tf), upd_same]; rfl
end
/-- a number out of a list of numbers -/
theorem numL_at {zs : List Nat} {i : Nat} (h : i < (numL zs).length) : ∃ z, z ∈ zs ∧ (numL zs)[i] = V.int (z : Nat) := by
  have q := List.getElem_mem h
  obtain ⟨z, h1, h2⟩ := List.mem_map.mp q
  exact ⟨z, h1, h2.symm⟩
def WORDS : List PySem.Str := ["do", "go", "test", "pick", "call", "call", "part", "part", "given"]
def MANY : List (Key × V) := [(.inr "do", .int 1), (.inr "go", .int 0), (.inr "given", .int 0), (.inr "test", .int 2)]
def manyOf (x : PySem.Str) : Option Int := if x = "do" then some 1 else if x = "go" then some 0 else if x = "given" then some 0 else if x = "test" then some 2 else none
theorem many_val : ∀ x ∈ WORDS, valV (mergeK [] MANY) (.inr x) = (manyOf x).map V.int := by decide +kernel
section
variable {P : Program} {w : World} {K : PySem.W.Frag} {mg : PySem.Str → Option Value} {base : Heap}
theorem nm_empty : Nm "" := by
  unfold Nm
  decide +kernel
/-- some numbers, drawn out of the list at c -/
theorem draws {H0 H : Hp} {w l : Addr} {C : Nat} {p f t : Addr} {plan : List Row} {ra : List Addr} {fL tL cL : List Nat} {σ : L2.St} {s n : Nat} {c D : Addr} {Qd : Hp → Prop} (h : PSt H0 H w l C p f t plan ra fL tL) (hD : H D = none)
    (hC : C + n < LIM) (h0 : ∀ y : V, ((wipe σ [7]).set 7 (some y))[0]? = some (some (.ref w))) (h1 : ∀ y : V, ((wipe σ [7]).set 7 (some y))[s]? = some (some (.ref c))) (h2 : ∀ y : V, wipe ((wipe σ [7]).set 7 (some y)) [7] = wipe σ [7])
    (h7 : 7 < (wipe σ [7]).length)
    (hc : c = f ∧ cL = fL ∨ c = t ∧ cL = tL) (hcl : 0 < cL.length) (hcl2 : cL.length ≤ 1000) (hn : n ≤ 100)
    (q : ∀ (H' : Hp) (zs : List Nat) (C' : Nat), PSt H0 H' w l C' p f t plan ra fL tL → Kp [w, l] H H' → C' ≤ C + n → H' D = some (.lst (numL zs)) → zs.length = n → (∀ z ∈ zs, z ∈ cL) → Qd H') :
    ∃ W : Nat → Nat → Hp → Prop, (∃ m, W 0 m (upd H D (.lst []))) ∧ ∀ i m H, W i m H →
      ((Itr 0 n).stop i H ∧ Qd H) ∨ ((Itr 0 n).go i H ∧ ∃ Nx : Hp → Prop, (∀ H', Nx H' → ∃ m', m' < m ∧ W (i + 1) m' H') ∧ ∀ x H', (Itr 0 n).yld i H x H' → gName 7 x (wipe σ [7]) H' fun σ2 H2 => wipe σ2 [7] = wipe σ [7] ∧ tYes σ2 H2 fun b H3 =>
        if b = true then tCall (sp_one_of K) [] E0 (tCons (tVar 0) (tCons (tVar s) tNil)) σ2 H3 fun y H4 => ∃ acc, H4 D = some (.lst acc) ∧ acc.length < sizeLine ∧ Nx (upd H4 D (.lst (acc ++ [y]))) else Nx H3) := by
  have nD := h.well.ne hD
  have hcc : H c = some (.lst (numL cL)) ∧ c ∉ [w, l] := by
    rcases hc with ⟨rfl, rfl⟩ | ⟨rfl, rfl⟩
    · exact ⟨h.hf, h.dis.2.1⟩
    · exact ⟨h.ht, h.dis.2.2.1⟩
  refine lc_range (lo := 0) (n := n) (fun i H' => ∃ (zs : List Nat), Kp [w, l] H H' ∧ Well H' w l (C + i) ∧ H' D = some (.lst (numL zs)) ∧ zs.length = i ∧ ∀ z ∈ zs, z ∈ cL)
    ⟨[], Kp.new hD, h.well.new nD, upd_same, rfl, fun z hz => (nomatch hz)⟩ ?_ ?_
  · rintro i H' hi ⟨zs, k, hW, hDz, hzl, hz⟩
    refine ⟨h2 _, _, h0 _, _, h1 _, w, l, c, numL cL, C + i, rfl, hW, by omega, hcc.2, SqL.of (k _ _ hcc.2 hcc.1), by rw [numL_length]; exact hcl, by rw [numL_length]; omega, fun H2 j hj k2 hW2 => ?_⟩
    obtain ⟨z, hzm, ez⟩ := numL_at hj
    rw [ez]
    refine ⟨numL zs, k2 _ _ nD hDz, by rw [numL_length, sizeLine_eq]; omega, zs ++ [z], (k.trans k2).wr (.inr hD), (hW2.new nD), ?_, by rw [List.length_append, List.length_singleton, hzl], ?_⟩
    · rw [upd_same, numL_append]; rfl
    · intro x hx
      rcases List.mem_append.mp hx with e | e
      · exact hz x e
      · rw [List.mem_singleton] at e
        rw [e]; exact hzm
  · rintro H' ⟨zs, k, hW, hDz, hzl, hz⟩
    exact q H' zs (C + n) (h.draw k hW) k (Nat.le_refl _) hDz hzl hz
theorem asg_via {te : TE} {g : TG} {u : TS} {D : Ends} {σ : L2.St} {H : Hp} (R : VK → Prop) (h : ∀ Q2, R Q2 → te σ H Q2) (h2 : R (fun x H1 => g x σ H1 (u D))) : tSeq (tAsg te g) u D σ H := h _ h2
theorem kp_new3 {S : List Addr} {H : Hp} {d : Addr} {o o2 : HO} (hd : H d = none) : Kp S H (upd (upd H d o) d o2) := ((Kp.refl S H).wr (.inr hd)).wr (.inr hd)
def sp_plan : Sp := fun vs H Q _ => ∃ (w l : Addr) (C : Nat), vs = [.ref w] ∧ Well H w l C ∧ C + 400 < LIM ∧
  ∀ (H' : Hp) (p : Addr) (plan : List Row) (ra : List Addr), Kp [w, l] H H' → Well H' w l (C + 400) → H' p = some (.lst (ra.map V.ref)) → p ∉ [w, l] → Rows H' [w, l] ra plan → PlanOk plan → plan.length ≤ 14 → Q (.ref p) H'
theorem ok_plan (T : Txt K mg) : FnOk P w K mg base CX0 4 T.a_plan T.d_plan P_plan sp_plan := by
  refine T.F_plan.ok sc_plan (fun vs H Q E h => by obtain ⟨w, l, C, rfl, _⟩ := h; rfl) (fun cdv A outer s H vs Q E hr h => ?_)
  refine ⟨_, (pss_cons (ps_asg (pe_tup (pa_cons (pe_lst pa_nil) (pa_cons (pe_lst pa_nil) (pa_cons (pe_lst pa_nil) pa_nil)))) (pg_tup (by rfl) (pgs_cons (pg_name (i := 1) sc_plan.nd rfl (Or.inl rfl)) (pgs_cons (pg_name (i := 2) sc_plan.nd rfl (Or.inr rfl)) (pgs_cons (pg_name (i := 3) sc_plan.nd rfl (Or.inr rfl)) pgs_nil)))))
    (pss_cons (ps_expr (pe_bm PySem.F.plainAttrs_list PySem.F.slot_list_append PySem.F.type_list_append mt_append (pv 3) (pa_cons (pe_call (ok_new T) (hr.mono (by decide)) (by rfl) T.g_new T.F_new.kp T.b_new .nil pass0 (pa_cons (pv 1) (pa_cons (pe_call (ok_one_of T) (hr.mono (by decide)) (by rfl) T.g_one_of T.F_one_of.kp T.b_one_of .nil pass0 (pa_cons (pv 0) (pa_cons (pe_lst (pa_cons pe_str (pa_cons pe_str (pa_cons pe_str pa_nil)))) pa_nil))) (pa_cons pe_str (pa_cons (pe_lst pa_nil) (pa_cons (pe_lst pa_nil) pa_nil)))))) pa_nil)))
    (pss_cons (ps_expr (pe_bm PySem.F.plainAttrs_list PySem.F.slot_list_append PySem.F.type_list_append mt_append (pv 2) (pa_cons (pe_call (ok_new T) (hr.mono (by decide)) (by rfl) T.g_new T.F_new.kp T.b_new .nil pass0 (pa_cons (pv 1) (pa_cons pe_str (pa_cons (pe_call (ok_name T) (hr.mono (by decide)) (by rfl) T.g_name T.F_name.kp T.b_name .nil pass0 (pa_cons (pv 0) pa_nil)) (pa_cons (pe_lst pa_nil) (pa_cons (pe_lst pa_nil) pa_nil)))))) pa_nil)))
    (pss_cons (ps_for PassesOwn.never rfl (pi_range1 (by rfl) T.n_range (pa_cons (pe_op op_add pe_int (pe_call (ok_drawn T) (hr.mono (by decide)) (by rfl) T.g_drawn T.F_drawn.kp T.b_drawn .nil pass0 (pa_cons (pv 0) (pa_cons pe_int pa_nil)))) pa_nil)) (pg_name (i := 4) sc_plan.nd rfl (Or.inl rfl)) (pss_cons (ps_set (i := 5) sc_plan.nd rfl (Or.inl rfl) (pe_call (ok_one_of T) (hr.mono (by decide)) (by rfl) T.g_one_of T.F_one_of.kp T.b_one_of .nil pass0 (pa_cons (pv 0) (pa_cons (pe_lst (pa_cons pe_str (pa_cons pe_str (pa_cons pe_str (pa_cons pe_str (pa_cons pe_str (pa_cons pe_str (pa_cons pe_str (pa_cons pe_str (pa_cons pe_str pa_nil)))))))))) pa_nil))))
    (pss_cons (ps_set (i := 6) sc_plan.nd rfl (Or.inl rfl) (pe_ifExp (pt_cmpR op_in_seq (pv 5) (pe_tup (pa_cons pe_str (pa_cons pe_str pa_nil))) (by rfl)) (pe_lc (own := [("j", 7)]) rfl sc_plan.nd (pi_range1 (by rfl) T.n_range (pa_cons (pe_call (ok_drawn T) (hr.mono (by decide)) (by rfl) T.g_drawn T.F_drawn.kp T.b_drawn .nil pass0 (pa_cons (pv 0) (pa_cons pe_int pa_nil))) pa_nil)) (blkOk_by (own := [("j", 7)]) (N := N_plan) (sc := defScope s_plan) (by decide +kernel)) (fun _ _ _ _ _ => (pg_name (i := 7) sc_plan.nd rfl (Or.inl rfl))) (fun _ _ _ _ _ => pts_nil) (fun _ _ _ _ _ => (pe_call (ok_one_of T) (hr.mono (by decide)) (by rfl) T.g_one_of T.F_one_of.kp T.b_one_of .nil pass0 (pa_cons (pv 0) (pa_cons (pv 2) pa_nil))))) (pe_lst pa_nil)))
    (pss_cons (ps_set (i := 8) sc_plan.nd rfl (Or.inl rfl) (pe_dget2 (hu_of hr) (pe_disp (pps_cons pe_str pe_int (pps_cons pe_str pe_int (pps_cons pe_str pe_int (pps_cons pe_str pe_int pps_nil)))) (by rfl) (by rfl) (fun z => by cases z) (by decide)) (pv 5) (pe_op op_add (pe_call (ok_drawn T) (hr.mono (by decide)) (by rfl) T.g_drawn T.F_drawn.kp T.b_drawn .nil pass0 (pa_cons (pv 0) (pa_cons pe_int pa_nil))) (pe_callTy call_int1 (by rfl) T.n_int (by decide +kernel) (pa_cons (pe_cmpR op_eq (pv 5) pe_str (nomark _)) pa_nil))) ⟨by rfl, by rfl, by rfl, by rfl⟩))
    (pss_cons (ps_setLc (i := 9) (own := [("j", 7)]) rfl sc_plan.nd rfl rfl (sw_true rfl rfl rfl (by decide +kernel)) (pi_range1 (by rfl) T.n_range (pa_cons (pv 8) pa_nil)) (blkOk_by (own := [("j", 7)]) (N := N_plan) (sc := defScope s_plan) (by decide +kernel)) (fun _ _ _ _ _ => (pg_name (i := 7) sc_plan.nd rfl (Or.inl rfl))) (fun _ _ _ _ _ => pts_nil) (fun _ _ _ _ _ => (pe_call (ok_one_of T) (hr.mono (by decide)) (by rfl) T.g_one_of T.F_one_of.kp T.b_one_of .nil pass0 (pa_cons (pv 0) (pa_cons (pv 3) pa_nil)))))
    (pss_cons (ps_set (i := 10) sc_plan.nd rfl (Or.inl rfl) (pe_call (ok_new T) (hr.mono (by decide)) (by rfl) T.g_new T.F_new.kp T.b_new .nil pass0 (pa_cons (pv 1) (pa_cons (pv 5) (pa_cons (pe_call (ok_name T) (hr.mono (by decide)) (by rfl) T.g_name T.F_name.kp T.b_name .nil pass0 (pa_cons (pv 0) pa_nil)) (pa_cons (pv 6) (pa_cons (pv 9) pa_nil)))))))
    (pss_one (ps_if (pt_cmpR op_in_seq (pv 5) (pe_tup (pa_cons pe_str (pa_cons pe_str pa_nil))) (by rfl)) (pss_one (ps_expr (pe_bm PySem.F.plainAttrs_list PySem.F.slot_list_append PySem.F.type_list_append mt_append (pv 2) (pa_cons (pv 10) pa_nil)))) (pss_one (ps_expr (pe_bm PySem.F.plainAttrs_list PySem.F.slot_list_append PySem.F.type_list_append mt_append (pv 3) (pa_cons (pv 10) pa_nil))))))))))))
    (pss_one (ps_ret (pv 1))))))), ?_⟩
  obtain ⟨w, l, C, rfl, hW, hC, q⟩ := h
  refine ⟨Nat.zero_le _, fun p hp => ⟨Nat.zero_le _, fun f hf => ⟨Nat.zero_le _, fun t ht => ?_⟩⟩⟩
  have s0 := PSt.start hW hp hf ht
  generalize upd (upd (upd H p (.lst [])) f (.lst [])) t (.lst []) = H1 at s0 ⊢
  refine ⟨by show 3 ≤ sizeLine; decide, fun tp htp => ⟨tp, _, rfl, SqT.of upd_same, rfl, ?_⟩⟩
  have s1 := s0.new (o := .tup [V.ref p, V.ref f, V.ref t]) htp
  generalize upd H1 tp (.tup [V.ref p, V.ref f, V.ref t]) = H2 at s1 ⊢
  clear s0 hp hf ht htp
  -- tasks.append(_law_new(plan, ..))
  refine ⟨_, _, rfl, _, _, rfl, _, _, rfl, rfl, ?_⟩
  refine ⟨_, rfl, .inl ⟨rfl, _, SqL.of s1.ht⟩, _, rfl, _, rfl, by show 3 ≤ sizeLine; decide, fun a ha => ?_⟩
  have s2 := s1.new (o := .lst [V.str "end", V.str "wait", V.str "fail"]) ha
  have na := s1.well.ne ha
  refine ⟨w, l, a, (["end", "wait", "fail"] : List PySem.Str).map V.str, C, rfl, s2.well, by omega, na, SqL.of upd_same, by show 0 < 3; decide, by show 3 ≤ 1000000; decide, fun H3 i hi k3 hW3 => ?_⟩
  rw [List.getElem_map]
  have s3 := s2.draw k3 hW3
  have hwd := List.getElem_mem (l := (["end", "wait", "fail"] : List PySem.Str)) (by simpa using hi : i < 3)
  generalize (["end", "wait", "fail"] : List PySem.Str)[i] = wd at hwd ⊢
  refine ⟨Nat.zero_le _, fun x hx => ⟨Nat.zero_le _, fun y hy => ?_⟩⟩
  have ox := s3.out hx
  have s4 := s3.new (o := .lst []) hx
  have oy := s4.out hy
  have s5 := s4.new (o := .lst []) hy
  have hx5 : upd (upd H3 x (.lst [])) y (.lst []) x = some (.lst (numL [])) := by
    rw [upd_ne (fun e => by rw [← e, upd_same] at hy; cases hy), upd_same]; rfl
  have hy5 : upd (upd H3 x (.lst [])) y (.lst []) y = some (.lst (numL [])) := upd_same
  generalize upd (upd H3 x (.lst [])) y (.lst []) = H5 at s5 hx5 hy5 ⊢
  refine ⟨p, _, wd, "", x, y, rfl, s5.hp, by decide, fun r hr => ?_⟩
  have s6 := s5.row (wd := wd) (nm := "") (fs := []) (ts := []) hx5 hy5 ox oy ⟨nm_empty, (by show 0 ≤ 2; decide), (by show 0 ≤ 4; decide), .inl ⟨hwd, rfl, rfl⟩⟩ (fun j hj => nomatch hj) (fun j hj => nomatch hj) hr
  rw [List.length_map, s5.rows.1]
  generalize upd (upd H5 r (.tup [.str wd, .str "", .ref x, .ref y])) p (.lst (([] : List Addr).map V.ref ++ [.ref r])) = H6 at s6 ⊢
  refine ⟨t, _, _, rfl, rfl, s6.ht, by decide, ?_⟩
  have s7 := s6.addt (n := 0) (by show 0 < 1; decide)
  generalize upd H6 t (.lst (numL [] ++ [.int (0 : Nat)])) = H7 at s7 ⊢
  clear s1 s2 s3 s4 s5 s6
  -- functions.append(_law_new(plan, 'given', ..))
  refine ⟨_, rfl, .inl ⟨rfl, _, SqL.of s7.hf⟩, _, rfl, _, rfl, w, l, C + 1, rfl, s7.well, by omega, fun H8 z k8 hW8 hz => ?_⟩
  have s8 := s7.draw k8 hW8
  refine ⟨Nat.zero_le _, fun x1 hx1 => ⟨Nat.zero_le _, fun y1 hy1 => ?_⟩⟩
  have ox1 := s8.out hx1
  have s9 := s8.new (o := .lst []) hx1
  have oy1 := s9.out hy1
  have s10 := s9.new (o := .lst []) hy1
  have hx9 : upd (upd H8 x1 (.lst [])) y1 (.lst []) x1 = some (.lst (numL [])) := by
    rw [upd_ne (fun e => by rw [← e, upd_same] at hy1; cases hy1), upd_same]; rfl
  have hy9 : upd (upd H8 x1 (.lst [])) y1 (.lst []) y1 = some (.lst (numL [])) := upd_same
  generalize upd (upd H8 x1 (.lst [])) y1 (.lst []) = H9 at s10 hx9 hy9 ⊢
  refine ⟨p, _, "given", z, x1, y1, rfl, s10.hp, (by show 1 ≤ 1000; decide), fun r1 hr1 => ?_⟩
  have s11 := s10.row (wd := "given") (nm := z) (fs := []) (ts := []) hx9 hy9 ox1 oy1 ⟨hz, (by show 0 ≤ 2; decide), (by show 0 ≤ 4; decide), .inr (.inl ⟨(by decide +kernel : ("given" : PySem.Str) ∈ (["go", "given"] : List PySem.Str)), rfl, rfl⟩)⟩ (fun j hj => nomatch hj) (fun j hj => nomatch hj) hr1
  rw [List.length_map, s10.rows.1]
  generalize upd (upd H9 r1 (.tup [.str "given", .str z, .ref x1, .ref y1])) p (.lst (([] ++ [r] : List Addr).map V.ref ++ [.ref r1])) = H10 at s11 ⊢
  refine ⟨f, _, _, rfl, rfl, s11.hf, by decide, ?_⟩
  have s12 := s11.addf (n := ([] ++ [(⟨wd, "", [], []⟩ : Row)]).length) (by show 1 < 2; decide)
  generalize upd H10 f (.lst (numL [] ++ [.int (([] ++ [(⟨wd, "", [], []⟩ : Row)]).length : Nat)])) = H11 at s12 ⊢
  clear s7 s8 s9 s10 s11
  obtain ⟨C1, plan, ra, fL, tL, st, hC1, hpl, hfl, htl, hsum⟩ : ∃ C1 plan ra fL tL, PSt H H11 w l C1 p f t plan ra fL tL ∧ C1 ≤ C + 12 ∧ plan.length = 2 ∧ 0 < fL.length ∧ 0 < tL.length ∧ fL.length + tL.length = 2 :=
    ⟨_, _, _, _, _, s12, by omega, rfl, Nat.one_pos, Nat.one_pos, rfl⟩
  clear s12 hr hr1 hx9 hy9 oy1 ox1 hy1 hx1 hz hW8 k8 hx5 hy5 oy ox hx hy hwd hW3 k3 hi na ha
  -- the turns
  refine ⟨_, rfl, w, l, 9, C1, rfl, st.well, by omega, by decide, by decide, fun H12 n k12 hW12 n0 n1 => ?_⟩
  have s13 := st.draw k12 hW12
  refine ⟨_, _, rfl, rfl, _, rfl, by omega, by omega, ?_⟩
  refine for_range (lo := 0) (n := (2 + n).toNat) (fun i σ H' => ∃ (C2 : Nat) (plan : List Row) (ra : List Addr) (fL tL : List Nat) (y4 y5 y6 y7 y8 y9 y10 : Option V), σ = [some (.ref w), some (.ref p), some (.ref f), some (.ref t), y4, y5, y6, y7, y8, y9, y10] ∧
      PSt H H' w l C2 p f t plan ra fL tL ∧ C2 ≤ C + 13 + 30 * i ∧ plan.length = 2 + i ∧ 0 < fL.length ∧ 0 < tL.length ∧ fL.length + tL.length = 2 + i)
    ⟨C1 + 1, plan, ra, fL, tL, none, none, none, none, none, none, none, rfl, s13, by omega, by omega, hfl, htl, by omega⟩ ?_ ?_
  · rintro i σ H' hi ⟨C2, plan, ra, fL, tL, y4, y5, y6, y7, y8, y9, y10, rfl, s1, hC2, hpl, hfl, htl, hsum⟩
    have hi10 : i < 10 := by omega
    -- word
    refine ⟨_, rfl, (by show 9 ≤ sizeLine; decide), fun a ha => ?_⟩
    have s2 := s1.new (o := .lst (WORDS.map V.str)) ha
    refine ⟨w, l, a, WORDS.map V.str, C2, rfl, s2.well, by omega, s1.well.ne ha, SqL.of upd_same, by show 0 < 9; decide, by show 9 ≤ 1000000; decide, fun H3 j hj k3 hW3 => ?_⟩
    rw [List.getElem_map]
    have s3 := s2.draw k3 hW3
    have hwd := List.getElem_mem (l := WORDS) (by simpa using hj : j < WORDS.length)
    generalize WORDS[j]'(by simpa using hj) = wd at hwd ⊢
    clear s1 s2 k3 hW3
    -- some
    dsimp only [gName]
    refine asg_via (fun Q2 : VK => ∀ (x : Addr) (fs : List Nat) (H' : Hp) (C' : Nat), PSt H H' w l C' p f t plan ra fL tL → C' ≤ C2 + 4 → H' x = some (.lst (numL fs)) → x ∉ [w, l, p, f, t] → fs.length ≤ 2 → (∀ j ∈ fs, j < plan.length) → (wd ∉ (["call", "part"] : List PySem.Str) → fs = []) → Q2 (.ref x) H') (fun Q2 h2 => ?_) ?_
    · refine ⟨_, rfl, ?_⟩
      refine in_words (L := ["call", "part"]) (fun q h => h) (by decide) ?_
      intro H4 k4
      have s4 := s3.same k4
      refine ⟨fun e => iteT ?_, fun e => iteF ?_⟩
      · refine ⟨_, rfl, w, l, 3, C2 + 1, rfl, s4.well, by omega, by decide, by decide, fun H5 m k5 hW5 m0 m1 => ?_⟩
        have s5 := s4.draw k5 hW5
        refine ⟨_, rfl, by omega, by omega, fun D hD => ?_⟩
        refine draws (s := 2) (c := f) (cL := fL) s5 hD (by omega) (fun _ => rfl) (fun _ => rfl) (fun _ => rfl) (by show 7 < 11; decide) (.inl ⟨rfl, rfl⟩) hfl (by omega) (by omega) fun H6 zs C6 s6 _ hC6 hDz hzl hz => ?_
        exact h2 D zs H6 C6 s6 (by omega) hDz (s5.out hD) (by omega) (fun j hj => s6.fl j (hz j hj)) (fun n => absurd e n)
      · refine ⟨Nat.zero_le _, fun D hD => ?_⟩
        exact h2 D [] _ _ (s4.new hD) (by omega) upd_same (s4.out hD) (by show 0 ≤ 2; decide) (fun j hj => nomatch hj) (fun _ => rfl)
    intro x fs H4 C4 s4 hC4 hx ox hfs2 hfsl hfs0
    clear s3
    dsimp only [gName]
    -- many
    refine asg_via (fun Q2 : VK => ∀ (m : Nat) (H' : Hp) (C' : Nat), PSt H H' w l C' p f t plan ra fL tL → Kp [w, l] H4 H' → C' ≤ C4 + 1 → m ≤ 4 → (wd = "do" → m = 1) → (wd = "test" → m = 2) → (wd ∈ (["go", "given"] : List PySem.Str) → m = 0) → Q2 (.int (m : Nat)) H') (fun Q2 h2 => ?_) ?_
    · refine fun d hd => ⟨upd_same, MANY, rfl, (by show 4 ≤ 15; decide), ?_⟩
      have nd := s4.well.ne hd
      have s5 := s4.draw (kp_new3 (o := .dK []) (o2 := .dK (mergeK [] MANY)) hd) ((s4.well.new nd).new nd)
      refine ⟨d, rfl, .inl ⟨_, .inl upd_same⟩, _, rfl, _, rfl, w, l, 4, C4, rfl, s5.well, by omega, by decide, by decide, fun H5 r k5 hW5 r0 r1 => ?_⟩
      have s6 := s5.draw k5 hW5
      refine ⟨_, rfl, rfl, .inr ⟨_, rfl, _, _, rfl, rfl, _, DGet.k (k := .inr wd) (k5 _ _ nd upd_same), ?_⟩⟩
      have k6 : Kp [w, l] H4 H5 := (kp_new3 hd).trans k5
      rw [many_val _ hwd]
      unfold manyOf
      by_cases e1 : wd = "do"
      · rw [if_pos e1]
        exact h2 1 H5 _ s6 k6 (by omega) (by decide) (fun _ => rfl) (fun e => absurd (e1.symm.trans e) (by decide +kernel)) (fun e => no_eq e1 e (by decide +kernel))
      rw [if_neg e1]
      by_cases e2 : wd = "go"
      · rw [if_pos e2]
        exact h2 0 H5 _ s6 k6 (by omega) (by decide) (fun e => absurd e e1) (fun e => absurd (e2.symm.trans e) (by decide +kernel)) (fun e => rfl)
      rw [if_neg e2]
      by_cases e3 : wd = "given"
      · rw [if_pos e3]
        exact h2 0 H5 _ s6 k6 (by omega) (by decide) (fun e => absurd e e1) (fun e => absurd (e3.symm.trans e) (by decide +kernel)) (fun e => rfl)
      rw [if_neg e3]
      by_cases e4 : wd = "test"
      · rw [if_pos e4]
        exact h2 2 H5 _ s6 k6 (by omega) (by decide) (fun e => absurd e e1) (fun _ => rfl) (fun e => no_eq e4 e (by decide +kernel))
      rw [if_neg e4]
      show Q2 (.int (r + if decide (V.str wd = V.str "pick") = true then 1 else 0)) H5
      generalize decide (V.str wd = V.str "pick") = b
      have er : (r + if b = true then 1 else 0) = ((r.toNat + (if b = true then 1 else 0) : Nat) : Int) := by
        cases b
        · show r + 0 = ((r.toNat + 0 : Nat) : Int)
          omega
        · show r + 1 = ((r.toNat + 1 : Nat) : Int)
          omega
      rw [er]
      refine h2 _ H5 _ s6 k6 (by omega) ?_ (fun e => absurd e e1) (fun e => absurd e e4) (fun e => ?_)
      · cases b
        · show r.toNat + 0 ≤ 4
          omega
        · show r.toNat + 1 ≤ 4
          omega
      · rcases List.mem_cons.mp e with e | e
        · exact absurd e e2
        · exact absurd (List.mem_singleton.mp e) e3
    intro m H5 C5 s5 k5 hC5 hm4 hm1 hm2 hm0
    have hx5 := k5 _ _ (fun e => ox (sub5 e)) hx
    dsimp only [gName]
    -- more
    refine asg_via (fun Q2 : VK => ∀ (y : Addr) (ts : List Nat) (H' : Hp) (C' : Nat), PSt H H' w l C' p f t plan ra fL tL → Kp [w, l] H5 H' → C' ≤ C5 + 4 → H' y = some (.lst (numL ts)) → y ∉ [w, l, p, f, t] → ts.length = m → (∀ j ∈ ts, j < plan.length) → Q2 (.ref y) H') (fun Q2 h2 => ?_) ?_
    · refine ⟨_, rfl, _, rfl, by omega, by omega, fun D hD => ?_⟩
      refine draws (s := 3) (n := m) (c := t) (cL := tL) s5 hD (by omega) (fun _ => rfl) (fun _ => rfl) (fun _ => rfl) (by show 7 < 11; decide) (.inr ⟨rfl, rfl⟩) htl (by omega) (by omega) fun H6 zs C6 s6 k6 hC6 hDz hzl hz => ?_
      exact h2 D zs H6 C6 s6 k6 (by omega) hDz (s5.out hD) hzl (fun j hj => s6.tl j (hz j hj))
    intro y ts H6 C6 s6 k6 hC6 hy oy htm htl2
    have hx6 := k6 _ _ (fun e => ox (sub5 e)) hx5
    dsimp only [gName]
    refine ⟨_, rfl, _, rfl, _, rfl, w, l, C6, rfl, s6.well, by omega, fun H7 z k7 hW7 hz => ⟨_, rfl, _, rfl, ?_⟩⟩
    have s7 := s6.draw k7 hW7
    have hx7 := k7 _ _ (fun e => ox (sub5 e)) hx6
    have hy7 := k7 _ _ (fun e => oy (sub5 e)) hy
    refine ⟨p, _, wd, z, x, y, rfl, s7.hp, by rw [List.length_map, s7.rows.1]; omega, fun r hr => ?_⟩
    have s8 := s7.row (wd := wd) (nm := z) (fs := fs) (ts := ts) hx7 hy7 ox oy ⟨hz, hfs2, (by show ts.length ≤ 4; omega), ?_⟩ hfsl htl2 hr
    · rw [List.length_map, s7.rows.1]
      generalize upd (upd H7 r (.tup [.str wd, .str z, .ref x, .ref y])) p (.lst (ra.map V.ref ++ [.ref r])) = H8 at s8 ⊢
      dsimp only [gName]
      refine ⟨_, rfl, ?_⟩
      refine in_words (L := ["part", "given"]) (fun q h => h) (by decide) ?_
      intro H9 k9
      have s9 := s8.same k9
      have hln : plan.length < (plan ++ [(⟨wd, z, fs, ts⟩ : Row)]).length := by rw [List.length_append, List.length_singleton]; omega
      have hpl2 : (plan ++ [(⟨wd, z, fs, ts⟩ : Row)]).length = 2 + (i + 1) := by rw [List.length_append, List.length_singleton]; omega
      refine ⟨fun e => iteT ?_, fun e => iteF ?_⟩
      · refine ⟨_, rfl, .inl ⟨rfl, _, SqL.of s9.hf⟩, _, rfl, f, _, _, rfl, rfl, s9.hf, by rw [numL_length, sizeLine_eq]; omega, ?_⟩
        exact ⟨_, _, _, _, _, _, _, _, _, _, _, _, rfl, s9.addf hln, by omega, hpl2, by simp, htl, by simp; omega⟩
      · refine ⟨_, rfl, .inl ⟨rfl, _, SqL.of s9.ht⟩, _, rfl, t, _, _, rfl, rfl, s9.ht, by rw [numL_length, sizeLine_eq]; omega, ?_⟩
        exact ⟨_, _, _, _, _, _, _, _, _, _, _, _, rfl, s9.addt hln, by omega, hpl2, hfl, by simp, by simp; omega⟩
    · have hw7 : wd = "do" ∨ wd = "go" ∨ wd = "test" ∨ wd = "pick" ∨ wd = "call" ∨ wd = "part" ∨ wd = "given" := by
        simp only [WORDS, List.mem_cons, List.not_mem_nil, or_false] at hwd
        rcases hwd with h | h | h | h | h | h | h | h | h <;> simp [h]
      have z0 : ∀ {L : List Nat}, L.length = m → m = 0 → L = [] := fun a b => List.length_eq_zero_iff.mp (a.trans b)
      rcases hw7 with h | h | h | h | h | h | h
      · exact .inr (.inr (.inl ⟨h, hfs0 (by rw [h]; decide +kernel), htm.trans (hm1 h)⟩))
      · exact .inr (.inl ⟨(by show wd ∈ _; rw [h]; decide +kernel), hfs0 (by rw [h]; decide +kernel), z0 htm (hm0 (by rw [h]; decide +kernel))⟩)
      · exact .inr (.inr (.inr (.inl ⟨h, hfs0 (by rw [h]; decide +kernel), htm.trans (hm2 h)⟩)))
      · exact .inr (.inr (.inr (.inr (.inl ⟨h, hfs0 (by rw [h]; decide +kernel)⟩))))
      · exact .inr (.inr (.inr (.inr (.inr (by show wd ∈ _; rw [h]; decide +kernel)))))
      · exact .inr (.inr (.inr (.inr (.inr (by show wd ∈ _; rw [h]; decide +kernel)))))
      · exact .inr (.inl ⟨(by show wd ∈ _; rw [h]; decide +kernel), hfs0 (by rw [h]; decide +kernel), z0 htm (hm0 (by rw [h]; decide +kernel))⟩)
  · rintro σ H' ⟨C2, plan, ra, fL, tL, y4, y5, y6, y7, y8, y9, y10, rfl, s1, hC2, hpl, hfl, htl, hsum⟩
    refine ⟨_, rfl, q H' p plan ra s1.kp (s1.well.mono (by omega)) s1.hp s1.dis.1 (s1.rows.sub fun a => sub5) s1.ok (by omega)⟩
end
end K07
set_option Elab.async false
set_option linter.all false
set_option maxRecDepth 100000
set_option maxHeartbeats 4000000
/-! k07: how deep, how many; the terms. -/
namespace K07
open PySem PySem.Spec PyProof.Rows L2 Zg Zs Zr Zd Zt
theorem numL_get {zs : List Nat} {i : Nat} {x : V} (h : (numL zs)[i]? = some x) : ∃ z, zs[i]? = some z ∧ x = .int (z : Nat) := by
  unfold numL at h
  rw [List.getElem?_map] at h
  cases e : zs[i]? with
  | none => rw [e] at h; cases h
  | some z => rw [e] at h; exact ⟨z, rfl, (Option.some.inj h).symm⟩
/-- [xs[n] for n in zs] -/
theorem lc_pick {K : PySem.W.Frag} {a c D : Addr} {zs : List Nat} {vs : List V} {σ : L2.St} {n s : Nat} {H1 : Hp} {Qd : Hp → Prop} (ha : SqL K H1 a (numL zs)) (hc : SqL K H1 c vs) (hD : H1 D = none) (hz : ∀ z ∈ zs, z < vs.length) (hl : zs.length ≤ 1000)
    (h1 : ∀ y : V, ((wipe σ [n]).set n (some y))[s]? = some (some (.ref c))) (h3 : ∀ y : V, ((wipe σ [n]).set n (some y))[n]? = some (some y)) (h2 : ∀ y : V, wipe ((wipe σ [n]).set n (some y)) [n] = wipe σ [n])
    (q : ∀ H', Same H1 H' → H' D = some (.lst (zs.map fun z => vs.getD z .non)) → Qd H') :
    ∃ W : Nat → Nat → Hp → Prop, (∃ m, W 0 m (upd H1 D (.lst []))) ∧ ∀ i m H, W i m H →
      ((Itl K a).stop i H ∧ Qd H) ∨ ((Itl K a).go i H ∧ ∃ Nx : Hp → Prop, (∀ H', Nx H' → ∃ m', m' < m ∧ W (i + 1) m' H') ∧ ∀ x H', (Itl K a).yld i H x H' → gName n x (wipe σ [n]) H' fun σ2 H2 => wipe σ2 [n] = wipe σ [n] ∧ tYes σ2 H2 fun b H3 =>
        if b = true then tOp (rIxL K) (tVar s) (tVar n) σ2 H3 fun y H4 => ∃ acc, H4 D = some (.lst acc) ∧ acc.length < sizeLine ∧ Nx (upd H4 D (.lst (acc ++ [y]))) else Nx H3) := by
  refine lc_list (K := K) (a := a) (xs := numL zs) (fun i H' => Same H1 H' ∧ H' D = some (.lst ((zs.take i).map fun z => vs.getD z .non))) ⟨same_new hD, upd_same⟩ (fun i H' _ p => p.1.seq ha) ?_ ?_
  · rintro i x H' hi ⟨k, hDz⟩
    obtain ⟨z, hz1, rfl⟩ := numL_get hi
    have hzl : z < vs.length := hz z (List.mem_of_getElem? hz1)
    refine ⟨h2 _, _, h1 _, _, h3 _, c, vs, _, vs.getD z .non, rfl, rfl, k.seq hc, atI_nat (by rw [List.getD_eq_getElem?_getD, List.getElem?_eq_getElem hzl]; rfl), ?_⟩
    refine ⟨_, hDz, ?_, ?_, ?_⟩
    · rw [List.length_map, List.length_take, sizeLine_eq]
      omega
    · exact fun b o e => by rw [upd_ne (ne_of_none e hD)]; exact k _ _ e
    · rw [upd_same, List.take_succ, hz1, List.map_append]
      rfl
  · rintro H' ⟨k, hDz⟩
    rw [numL_length, List.take_length] at hDz
    exact q H' k hDz
/-- [u for u, v in xs], [v for u, v in xs] -/
theorem lc_pair {K : PySem.W.Frag} {a E : Addr} {zs : List Nat} {da : List Addr} {A B F : Nat → Int} {sel : V → V → V} {σ : L2.St} {u v s : Nat} {H1 : Hp} {Qd : Hp → Prop} (ha : SqL K H1 a (rf da zs)) (ht : ∀ z ∈ zs, SqT K H1 (da.getD z 0) [.int (A z), .int (B z)])
    (hE : H1 E = none) (hl : zs.length ≤ 1000) (h1 : ∀ y z : V, ((((wipe σ [u, v]).set u (some y)).set v (some z)))[s]? = some (some (sel y z))) (h2 : ∀ y z : V, wipe ((((wipe σ [u, v]).set u (some y)).set v (some z))) [u, v] = wipe σ [u, v])
    (hF : ∀ z ∈ zs, sel (.int (A z)) (.int (B z)) = .int (F z)) (q : ∀ H', Same H1 H' → H' E = some (.lst ((zs.map F).map V.int)) → Qd H') :
    ∃ W : Nat → Nat → Hp → Prop, (∃ m, W 0 m (upd H1 E (.lst []))) ∧ ∀ i m H, W i m H →
      ((Itl K a).stop i H ∧ Qd H) ∨ ((Itl K a).go i H ∧ ∃ Nx : Hp → Prop, (∀ H', Nx H' → ∃ m', m' < m ∧ W (i + 1) m' H') ∧ ∀ x H', (Itl K a).yld i H x H' → gTup K 2 (gCons (gName u) (gCons (gName v) gNil)) x (wipe σ [u, v]) H' fun σ2 H2 => wipe σ2 [u, v] = wipe σ [u, v] ∧ tYes σ2 H2 fun b H3 =>
        if b = true then tVar s σ2 H3 fun y H4 => ∃ acc, H4 E = some (.lst acc) ∧ acc.length < sizeLine ∧ Nx (upd H4 E (.lst (acc ++ [y]))) else Nx H3) := by
  refine lc_list (K := K) (a := a) (xs := rf da zs) (fun i H' => Same H1 H' ∧ H' E = some (.lst (((zs.take i).map F).map V.int))) ⟨same_new hE, upd_same⟩ (fun i H' _ p => p.1.seq ha) ?_ ?_
  · rintro i x H' hi ⟨k, hDz⟩
    unfold rf at hi
    rw [List.getElem?_map] at hi
    cases e : zs[i]? with
    | none => rw [e] at hi; cases hi
    | some z =>
      rw [e] at hi
      have ex := (Option.some.inj hi).symm
      subst ex
      have hzm := List.mem_of_getElem? e
      refine ⟨_, _, rfl, k.sqt (ht z hzm), rfl, _, _, rfl, _, _, rfl, rfl, h2 _ _, _, h1 _ _, _, hDz, ?_, ?_, ?_⟩
      · rw [List.length_map, List.length_map, List.length_take, sizeLine_eq]
        omega
      · exact fun b o e => by rw [upd_ne (ne_of_none e hE)]; exact k _ _ e
      · rw [upd_same, List.take_succ, e, hF z hzm, List.map_append, List.map_append]
        rfl
  · rintro H' ⟨k, hDz⟩
    rw [rf_length, List.take_length] at hDz
    exact q H' k hDz
theorem sum_cast (f : Nat → Nat) : ∀ zs : List Nat, (zs.map fun z => (f z : Int)).sum = ((zs.map f).sum : Nat)
  | [] => rfl
  | z :: zs => by
    rw [List.map_cons, List.sum_cons, List.map_cons, List.sum_cons, sum_cast f zs]
    omega
/-- no row is deeper -/
def Dep (plan : List Row) (d : Nat → Nat) : Prop := ∀ i, i < plan.length → 1 ≤ d i ∧ ∀ j ∈ kidsAt plan i, d j + 1 ≤ d i
theorem refs_get {ra : List Addr} {i : Nat} {x : V} (h : (ra.map V.ref)[i]? = some x) : i < ra.length ∧ x = .ref (ra.getD i 0) := by
  rw [List.getElem?_map] at h
  cases e : ra[i]? with
  | none => rw [e] at h; cases h
  | some z =>
    rw [e] at h
    refine ⟨(List.getElem?_eq_some_iff.mp e).1, ?_⟩
    rw [List.getD_eq_getElem?_getD, e]
    exact (Option.some.inj h).symm
theorem refs_getD {ra : List Addr} {z : Nat} (h : z < ra.length) : (ra.map V.ref).getD z .non = .ref (ra.getD z 0) := by
  rw [List.getD_eq_getElem?_getD, List.getD_eq_getElem?_getD, List.getElem?_map, List.getElem?_eq_getElem h]
  rfl
theorem rf_refs {adr : List Addr} {zs : List Nat} (h : ∀ z ∈ zs, z < adr.length) : (zs.map fun z => (adr.map V.ref).getD z .non) = rf adr zs :=
  List.map_congr_left fun z hz => refs_getD (h z hz)
theorem sqt_wr {K : PySem.W.Frag} {H : Hp} {g a : Addr} {xs ys : List V} {o : HO} (hg : H g = some (.lst xs)) (h : SqT K H a ys) : SqT K (upd H g o) a ys := by
  rcases h with (h | ⟨u, h⟩) | h
  · exact .inl (.inl (by rw [upd_ne (fun e => by rw [e, hg] at h; cases h)]; exact h))
  · exact .inl (.inr ⟨u, by rw [upd_ne (fun e => by rw [e, hg] at h; cases h)]; exact h⟩)
  · exact .inr h
theorem sqt_kp {K : PySem.W.Frag} {H H' : Hp} {w l a : Addr} {C : Nat} {ys : List V} (hW : Well H w l C) (k : Kp [w, l] H H') (h : SqT K H a ys) : SqT K H' a ys := by
  obtain ⟨_, b, c, ns, h1, h2, _⟩ := hW
  rcases h with (h | ⟨u, h⟩) | h
  · exact .inl (.inl (k _ _ (two (fun e => by rw [e, h1] at h; cases h) (fun e => by rw [e, h2] at h; cases h)) h))
  · exact .inl (.inr ⟨u, k _ _ (two (fun e => by rw [e, h1] at h; cases h) (fun e => by rw [e, h2] at h; cases h)) h⟩)
  · exact .inr h
theorem Shape.keep {K : PySem.W.Frag} {H H' : Hp} {adr : List Addr} {r : Row} {vs : List V} (h : Shape K H adr r vs) (k : ∀ a xs, SqT K H a xs → SqT K H' a xs) : Shape K H' adr r vs := by
  rcases h with h | h | h | ⟨h1, h2, h3, q, h4, h5⟩ | h | ⟨h1, p, q, h2, h3, h4⟩
  · exact .inl h
  · exact .inr (.inl h)
  · exact .inr (.inr (.inl h))
  · exact .inr (.inr (.inr (.inl ⟨h1, h2, h3, q, k _ _ h4, h5⟩)))
  · exact .inr (.inr (.inr (.inr (.inl h))))
  · exact .inr (.inr (.inr (.inr (.inr ⟨h1, p, q, k _ _ h2, k _ _ h3, h4⟩))))
theorem Cont.keep {K : PySem.W.Frag} {H H' : Hp} {adr : List Addr} {r : Row} {a : Addr} (h : Cont K H adr r a) (k : ∀ a xs, SqT K H a xs → SqT K H' a xs) : Cont K H' adr r a := by
  obtain ⟨b1, b2, vs, h1, h2⟩ := h
  exact ⟨b1, b2, vs, k _ _ h1, h2.keep k⟩
theorem rf_snoc {adr : List Addr} {x : Addr} {l : List Nat} (h : ∀ j ∈ l, j < adr.length) : rf (adr ++ [x]) l = rf adr l := List.map_congr_left fun j hj => by rw [getD_old (h j hj)]
theorem Cont.snoc {K : PySem.W.Frag} {H : Hp} {adr : List Addr} {r : Row} {a x : Addr} (h : Cont K H adr r a) (n : ∀ j ∈ r.kids, j < adr.length) : Cont K H (adr ++ [x]) r a := by
  obtain ⟨b1, b2, vs, h1, h2⟩ := h
  refine ⟨b1, b2, vs, h1, ?_⟩
  unfold Shape at h2 ⊢
  rw [rf_snoc (x := x) (l := r.fs) (fun j hj => n j (List.mem_append_left _ hj)), rf_snoc (x := x) (l := r.ts) (fun j hj => n j (List.mem_append_right _ hj))]
  exact h2
theorem catA_ok {K : PySem.W.Frag} {H : Hp} {Q : VK} {a b : Addr} {xs ys : List V} (ha : SqT K H a xs) (hb : SqT K H b ys) (hl : xs.length + ys.length ≤ 1000) (q : ∀ H' p, Same H H' → SqT K H' p (xs ++ ys) → Q (.ref p) H') : rCatA K (.ref a) (.ref b) H Q := by
  refine ⟨a, b, _, _, rfl, rfl, ha, hb, by rw [sizeLine_eq]; omega, fun e => ?_, fun _ e => ?_, fun _ _ p hp => ?_⟩
  · refine q _ _ (Same.refl H) ?_
    rw [e]; exact hb
  · refine q _ _ (Same.refl H) ?_
    rw [e, List.append_nil]; exact ha
  · exact q _ _ (same_new hp) (SqT.of upd_same)
section
variable {P : Program} {w : World} {K : PySem.W.Frag} {mg : PySem.Str → Option Value} {base : Heap}
def sp_deep (K : PySem.W.Frag) : Sp := fun vs H Q _ => ∃ (p : Addr) (plan : List Row) (ra : List Addr), vs = [.ref p] ∧ H p = some (.lst (ra.map V.ref)) ∧ Rows H [] ra plan ∧ PlanOk plan ∧ plan.length ≤ 100 ∧
  ∀ (H' : Hp) (g : Addr) (da : List Addr) (dp ct : Nat → Nat), Same H H' → H g = none → H' g = some (.lst (da.map V.ref)) → da.length = plan.length → (∀ i, i < plan.length → H' (da.getD i 0) = some (.tup [.int (dp i : Nat), .int (ct i : Nat)])) → Cnt plan ct → Dep plan dp → Q (.ref g) H'
theorem ok_deep (T : Txt K mg) : FnOk P w K mg base CX0 1 T.a_deep T.d_deep P_deep (sp_deep K) := by
  refine T.F_deep.ok sc_deep (fun vs H Q E h => by obtain ⟨p, plan, ra, rfl, _⟩ := h; rfl) (fun cdv A outer s H vs Q E hr h => ?_)
  refine ⟨_, (pss_cons (ps_set (i := 1) sc_deep.nd rfl (Or.inr rfl) (pe_lst pa_nil))
    (pss_cons (ps_for PassesOwn.never rfl (pi_list (pv 0)) (pg_tup (by rfl) (pgs_cons (pg_name (i := 2) sc_deep.nd rfl (Or.inl rfl)) (pgs_cons (pg_name (i := 3) sc_deep.nd rfl (Or.inl rfl)) (pgs_cons (pg_name (i := 4) sc_deep.nd rfl (Or.inl rfl)) (pgs_cons (pg_name (i := 5) sc_deep.nd rfl (Or.inl rfl)) pgs_nil))))) (pss_cons (ps_setLc (i := 6) (own := [("number", 7)]) rfl sc_deep.nd rfl rfl (sw_true rfl rfl rfl (by decide +kernel)) (pi_list (pe_op op_cat (pv 4) (pv 5))) (blkOk_by (own := [("number", 7)]) (N := N_deep) (sc := defScope s_deep) (by decide +kernel)) (fun _ _ _ _ _ => (pg_name (i := 7) sc_deep.nd rfl (Or.inl rfl))) (fun _ _ _ _ _ => pts_nil) (fun _ _ _ _ _ => (pe_ix (show IxR _ (rIxL K) from ix_list) (pv 1) (pv 7) (fun _ _ => rfl))))
    (pss_one (ps_expr (pe_bm PySem.F.plainAttrs_list PySem.F.slot_list_append PySem.F.type_list_append mt_append (pv 1) (pa_cons (pe_tup (pa_cons (pe_op op_add pe_int (pe_callB (cr_max rfl) (by rfl) T.n_max (by decide +kernel) (pa_cons (pe_op op_cat (pe_lst (pa_cons pe_int pa_nil)) (pe_lc (own := [("deep", 8), ("many", 9)]) rfl sc_deep.nd (pi_list (pv 6)) (blkOk_by (own := [("deep", 8), ("many", 9)]) (N := N_deep) (sc := defScope s_deep) (by decide +kernel)) (fun _ _ _ _ _ => (show PG _ _ (gTup K 2 _) from (pg_tup (by rfl) (pgs_cons (pg_name (i := 8) sc_deep.nd rfl (Or.inl rfl)) (pgs_cons (pg_name (i := 9) sc_deep.nd rfl (Or.inl rfl)) pgs_nil))))) (fun _ _ _ _ _ => pts_nil) (fun _ _ _ _ _ => (pv 8)))) pa_nil))) (pa_cons (pe_op op_add pe_int (pe_callB (cr_sum rfl) (by rfl) T.n_sum (by decide +kernel) (pa_cons (pe_lc (own := [("deep", 8), ("many", 9)]) rfl sc_deep.nd (pi_list (pv 6)) (blkOk_by (own := [("deep", 8), ("many", 9)]) (N := N_deep) (sc := defScope s_deep) (by decide +kernel)) (fun _ _ _ _ _ => (show PG _ _ (gTup K 2 _) from (pg_tup (by rfl) (pgs_cons (pg_name (i := 8) sc_deep.nd rfl (Or.inl rfl)) (pgs_cons (pg_name (i := 9) sc_deep.nd rfl (Or.inl rfl)) pgs_nil))))) (fun _ _ _ _ _ => pts_nil) (fun _ _ _ _ _ => (pv 9))) pa_nil))) pa_nil))) pa_nil))))))
    (pss_one (ps_ret (pv 1))))), ?_⟩
  obtain ⟨p, plan, ra, rfl, hp, hR, hO, hl, q⟩ := h
  refine ⟨Nat.zero_le _, fun g hg => ?_⟩
  refine ⟨_, rfl, p, rfl, ⟨_, SqL.of ((same_new hg) _ _ hp)⟩, for_list (K := K) (a := p) (xs := ra.map V.ref) (fun i σ H' => ∃ (y2 y3 y4 y5 y6 y7 y8 y9 : Option V) (da : List Addr) (dp ct : Nat → Nat), σ = [some (.ref p), some (.ref g), y2, y3, y4, y5, y6, y7, y8, y9] ∧ Same H H' ∧
      H' g = some (.lst (da.map V.ref)) ∧ da.length = i ∧ (∀ k, k < i → H' (da.getD k 0) = some (.tup [.int (dp k : Nat), .int (ct k : Nat)])) ∧ (∀ k, k < i → ct k = 1 + ((kidsAt plan k).map ct).sum) ∧ ∀ k, k < i → 1 ≤ dp k ∧ ∀ j ∈ kidsAt plan k, dp j + 1 ≤ dp k)
    ⟨none, none, none, none, none, none, none, none, [], fun _ => 0, fun _ => 0, rfl, same_new hg, upd_same, rfl, fun k hk => absurd hk (Nat.not_lt_zero _), fun k hk => absurd hk (Nat.not_lt_zero _), fun k hk => absurd hk (Nat.not_lt_zero _)⟩
    (fun i σ H' _ ⟨_, _, _, _, _, _, _, _, _, _, _, _, k, _⟩ => k.seq (SqL.of hp)) ?_ ?_⟩
  · rintro i x σ H' hi ⟨y2, y3, y4, y5, y6, y7, y8, y9, da, dp, ct, rfl, k, hg1, hda, htup, hct, hdp⟩
    obtain ⟨hil, rfl⟩ := refs_get hi
    have hil2 : i < plan.length := by rw [← hR.1]; exact hil
    obtain ⟨f, t, hrow, hf, ht, _⟩ := hR.2 i hil2
    have hrow1 := k _ _ hrow
    have hf1 := k _ _ hf
    have ht1 := k _ _ ht
    refine ⟨_, _, rfl, SqT.of hrow1, rfl, _, _, rfl, _, _, rfl, _, _, rfl, _, _, rfl, rfl, ?_⟩
    refine ⟨_, rfl, _, rfl, f, t, _, _, rfl, rfl, hf1, ht1, ?_, fun c hc => ?_⟩
    · rw [numL_length, numL_length, sizeLine_eq]
      have := (hO.2 i hil2).2.1
      have := (hO.2 i hil2).2.2.1
      omega
    have hkl : (kidsAt plan i).length ≤ 1000 := by
      have := (hO.2 i hil2).2.1
      have := (hO.2 i hil2).2.2.1
      show (_ ++ _ : List Nat).length ≤ _
      rw [List.length_append]
      omega
    have hkd := hO.1 i hil2
    rw [← numL_append]
    have kc := same_new (o := .lst (numL ((rowAt plan i).fs ++ (rowAt plan i).ts))) hc
    refine ⟨c, rfl, ⟨_, SqL.of upd_same⟩, fun D hD => ?_⟩
    refine lc_pick (n := 7) (s := 1) (c := g) (vs := da.map V.ref) (zs := kidsAt plan i) (SqL.of upd_same) (kc.seq (SqL.of hg1)) hD (fun z hz => by rw [List.length_map, hda]; exact hkd z hz) hkl (fun _ => rfl) (fun _ => rfl) (fun _ => rfl) fun H3 k3 hD3 => ?_
    rw [rf_refs (fun z hz => by rw [hda]; exact hkd z hz)] at hD3
    have k13 := kc.trans k3
    -- found.append((1 + max(..), 1 + sum(..)))
    refine ⟨_, rfl, .inl ⟨rfl, _, SqL.of (k13 _ _ hg1)⟩, by show 1 ≤ sizeLine; decide, fun b hb => ?_⟩
    have k4 := same_new (o := .lst [V.int 0]) hb
    refine ⟨_, rfl, D, rfl, ⟨_, SqL.of (k4 _ _ hD3)⟩, fun E1 hE1 => ?_⟩
    have k14 := k13.trans k4
    refine lc_pair (u := 8) (v := 9) (s := 8) (da := da) (zs := kidsAt plan i) (sel := fun y _ => y) (A := fun z => (dp z : Nat)) (B := fun z => (ct z : Nat)) (F := fun z => (dp z : Nat)) (SqL.of (k4 _ _ hD3)) (fun z hz => SqT.of (k14 _ _ (htup z (hkd z hz)))) hE1 hkl (fun _ _ => rfl) (fun _ _ => rfl) (fun _ _ => rfl) fun H5 k5 hE5 => ?_
    have k15 := k14.trans k5
    refine ⟨b, E1, _, _, rfl, rfl, k5 _ _ upd_same, hE5, ?_, fun e he => ?_⟩
    · rw [List.length_map, List.length_map, sizeLine_eq]
      show 1 + _ ≤ _
      omega
    have k6 := same_new (o := .lst ([V.int 0] ++ ((kidsAt plan i).map fun z => ((dp z : Nat) : Int)).map V.int)) he
    have k16 := k15.trans k6
    refine ⟨e, (0 : Int) :: (kidsAt plan i).map fun z => ((dp z : Nat) : Int), rfl, SqL.of upd_same, Nat.succ_pos _, fun m hm hmax => ?_⟩
    have m0 : 0 ≤ m := hmax 0 List.mem_cons_self
    refine ⟨_, _, rfl, rfl, ?_⟩
    refine ⟨_, rfl, D, rfl, ⟨_, SqL.of ((k4.trans (k5.trans k6)) _ _ hD3)⟩, fun E2 hE2 => ?_⟩
    refine lc_pair (u := 8) (v := 9) (s := 9) (da := da) (zs := kidsAt plan i) (sel := fun _ y => y) (A := fun z => (dp z : Nat)) (B := fun z => (ct z : Nat)) (F := fun z => (ct z : Nat)) (SqL.of ((k4.trans (k5.trans k6)) _ _ hD3)) (fun z hz => SqT.of (k16 _ _ (htup z (hkd z hz)))) hE2 hkl (fun _ _ => rfl) (fun _ _ => rfl) (fun _ _ => rfl) fun H7 k7 hE7 => ?_
    have k17 := k16.trans k7
    refine ⟨E2, (kidsAt plan i).map fun z => ((ct z : Nat) : Int), rfl, SqL.of hE7, _, _, rfl, rfl, by show 2 ≤ sizeLine; decide, fun r hr => ?_⟩
    have k8 := same_new (o := .tup [V.int (1 + m), V.int (1 + ((kidsAt plan i).map fun z => ((ct z : Nat) : Int)).sum)]) hr
    have k18 := k17.trans k8
    have hg8 := k18 _ _ hg1
    refine ⟨g, _, _, rfl, rfl, hg8, by rw [List.length_map, hda, sizeLine_eq]; omega, ?_⟩
    rw [sum_cast]
    rw [sum_cast] at k8 k18 hg8
    have eg : ∀ {x : Addr} {vs : List V}, (upd H7 r (.tup [V.int (1 + m), V.int (1 + (((kidsAt plan i).map ct).sum : Nat))])) x = some (.tup vs) → x ≠ g := fun h e => by
      rw [e, hg8] at h
      cases h
    have hr8 : (upd H7 r (.tup [V.int (1 + m), V.int (1 + (((kidsAt plan i).map ct).sum : Nat))])) r = some (.tup [V.int (1 + m), V.int (1 + (((kidsAt plan i).map ct).sum : Nat))]) := upd_same
    have dn : ∀ (f : Nat → Nat) (x k : Nat), k < i → (if k = i then x else f k) = f k := fun f x k hk => if_neg (Nat.ne_of_lt hk)
    have dk : ∀ (f : Nat → Nat) (x k : Nat), k ≤ i → (kidsAt plan k).map (fun j => if j = i then x else f j) = (kidsAt plan k).map f := fun f x k hk =>
      List.map_congr_left fun j hj => dn f x j (Nat.lt_of_lt_of_le (hO.1 k (Nat.lt_of_le_of_lt hk hil2) j hj) hk)
    have enew : (da ++ [r]).getD i 0 = r := by rw [← hda, getD_new]
    refine ⟨_, _, _, _, _, _, _, _, da ++ [r], fun k => if k = i then (1 + m).toNat else dp k, fun k => if k = i then 1 + ((kidsAt plan i).map ct).sum else ct k, rfl, ?_, ?_, ?_, ?_, ?_, ?_⟩
    · exact fun x o e => by rw [upd_ne (ne_of_none e hg)]; exact k18 _ _ (k _ _ e)
    · rw [upd_same, List.map_append]; rfl
    · rw [List.length_append, List.length_singleton, hda]
    · intro n hn
      dsimp only []
      rcases Nat.lt_succ_iff_lt_or_eq.mp hn with hn | hn
      · have e1 := k18 _ _ (htup n hn)
        rw [getD_old (by rw [hda]; exact hn), upd_ne (eg e1), dn dp _ n hn, dn ct _ n hn]
        exact e1
      · rw [hn, enew, upd_ne (eg hr8), if_pos rfl, if_pos rfl]
        rw [show ((1 + m).toNat : Int) = 1 + m by omega]
        exact hr8
    · intro n hn
      dsimp only []
      rcases Nat.lt_succ_iff_lt_or_eq.mp hn with hn | hn
      · rw [dn ct _ n hn, dk ct _ n (Nat.le_of_lt hn), hct n hn]
      · rw [hn, if_pos rfl, dk ct _ i (Nat.le_refl _)]
    · intro n hn
      dsimp only []
      rcases Nat.lt_succ_iff_lt_or_eq.mp hn with hn | hn
      · refine ⟨by rw [dn dp _ n hn]; exact (hdp n hn).1, fun j hj => ?_⟩
        rw [dn dp _ n hn, dn dp _ j (Nat.lt_trans (hO.1 n (Nat.lt_trans hn hil2) j hj) hn)]
        exact (hdp n hn).2 j hj
      · rw [hn]
        refine ⟨by rw [if_pos rfl]; omega, fun j hj => ?_⟩
        rw [if_pos rfl, dn dp _ j (hkd j hj)]
        have := hmax (dp j : Nat) (List.mem_cons_of_mem _ (List.mem_map_of_mem (f := fun z => ((dp z : Nat) : Int)) hj))
        omega
  · rintro σ H' ⟨y2, y3, y4, y5, y6, y7, y8, y9, da, dp, ct, rfl, k, hg1, hda, htup, hct, hdp⟩
    rw [List.length_map, hR.1] at hda htup hct hdp
    exact ⟨_, rfl, q H' g da dp ct k hg hg1 hda htup hct hdp⟩
def sp_terms (K : PySem.W.Frag) : Sp := fun vs H Q _ => ∃ (p : Addr) (plan : List Row) (ra : List Addr), vs = [.ref p] ∧ H p = some (.lst (ra.map V.ref)) ∧ Rows H [] ra plan ∧ PlanOk plan ∧ plan.length ≤ 100 ∧
  ∀ (H' : Hp) (g : Addr) (adr : List Addr), Same H H' → H g = none → H' g = some (.lst (adr.map V.ref)) → adr.length = plan.length → Tms K H' plan adr → Q (.ref g) H'
theorem ok_terms (T : Txt K mg) : FnOk P w K mg base CX0 1 T.a_terms T.d_terms P_terms (sp_terms K) := by
  refine T.F_terms.ok sc_terms (fun vs H Q E h => by obtain ⟨p, plan, ra, rfl, _⟩ := h; rfl) (fun cdv A outer s H vs Q E hr h => ?_)
  refine ⟨_, (pss_cons (ps_set (i := 1) sc_terms.nd rfl (Or.inr rfl) (pe_lst pa_nil))
    (pss_cons (ps_for PassesOwn.never rfl (pi_list (pv 0)) (pg_tup (by rfl) (pgs_cons (pg_name (i := 2) sc_terms.nd rfl (Or.inl rfl)) (pgs_cons (pg_name (i := 3) sc_terms.nd rfl (Or.inl rfl)) (pgs_cons (pg_name (i := 4) sc_terms.nd rfl (Or.inl rfl)) (pgs_cons (pg_name (i := 5) sc_terms.nd rfl (Or.inl rfl)) pgs_nil))))) (pss_cons (ps_par (i := 6) (j := 7) (by rfl) sc_terms.nd rfl rfl (by decide) rfl rfl (pa_cons (pe_callTy call_tuple_of (by rfl) T.n_tuple (by decide +kernel) (pa_cons (pe_lc (own := [("number", 8)]) rfl sc_terms.nd (pi_list (pv 4)) (blkOk_by (own := [("number", 8)]) (N := N_terms) (sc := defScope s_terms) (by decide +kernel)) (fun _ _ _ _ _ => (pg_name (i := 8) sc_terms.nd rfl (Or.inl rfl))) (fun _ _ _ _ _ => pts_nil) (fun _ _ _ _ _ => (pe_ix (show IxR _ (rIxL K) from ix_list) (pv 1) (pv 8) (fun _ _ => rfl)))) pa_nil)) (pa_cons (pe_callTy call_tuple_of (by rfl) T.n_tuple (by decide +kernel) (pa_cons (pe_lc (own := [("number", 8)]) rfl sc_terms.nd (pi_list (pv 5)) (blkOk_by (own := [("number", 8)]) (N := N_terms) (sc := defScope s_terms) (by decide +kernel)) (fun _ _ _ _ _ => (pg_name (i := 8) sc_terms.nd rfl (Or.inl rfl))) (fun _ _ _ _ _ => pts_nil) (fun _ _ _ _ _ => (pe_ix (show IxR _ (rIxL K) from ix_list) (pv 1) (pv 8) (fun _ _ => rfl)))) pa_nil)) pa_nil)) (by rfl))
    (pss_one (ps_if (pt_cmpR op_in_seq (pv 2) (pe_tup (pa_cons pe_str (pa_cons pe_str (pa_cons pe_str pa_nil)))) (by rfl)) (pss_one (ps_expr (pe_bm PySem.F.plainAttrs_list PySem.F.slot_list_append PySem.F.type_list_append mt_append (pv 1) (pa_cons (pe_tup (pa_cons (pv 2) pa_nil)) pa_nil)))) (pss_one (ps_if (pt_cmpR op_in_seq (pv 2) (pe_tup (pa_cons pe_str (pa_cons pe_str pa_nil))) (by rfl)) (pss_one (ps_expr (pe_bm PySem.F.plainAttrs_list PySem.F.slot_list_append PySem.F.type_list_append mt_append (pv 1) (pa_cons (pe_tup (pa_cons (pv 2) (pa_cons (pv 3) pa_nil))) pa_nil)))) (pss_one (ps_if (pt_cmpR op_eq (pv 2) pe_str (nomark _)) (pss_one (ps_expr (pe_bm PySem.F.plainAttrs_list PySem.F.slot_list_append PySem.F.type_list_append mt_append (pv 1) (pa_cons (pe_op op_catA (pe_tup (pa_cons (pv 2) (pa_cons (pv 3) pa_nil))) (pv 7)) pa_nil)))) (pss_one (ps_if (pt_cmpR op_eq (pv 2) pe_str (nomark _)) (pss_one (ps_expr (pe_bm PySem.F.plainAttrs_list PySem.F.slot_list_append PySem.F.type_list_append mt_append (pv 1) (pa_cons (pe_op op_catA (pe_tup (pa_cons (pv 2) (pa_cons (pe_tup (pa_cons pe_int (pa_cons pe_int pa_nil))) pa_nil))) (pv 7)) pa_nil)))) (pss_one (ps_if (pt_cmpR op_eq (pv 2) pe_str (nomark _)) (pss_one (ps_expr (pe_bm PySem.F.plainAttrs_list PySem.F.slot_list_append PySem.F.type_list_append mt_append (pv 1) (pa_cons (pe_op op_catA (pe_tup (pa_cons (pv 2) pa_nil)) (pv 7)) pa_nil)))) (pss_one (ps_expr (pe_bm PySem.F.plainAttrs_list PySem.F.slot_list_append PySem.F.type_list_append mt_append (pv 1) (pa_cons (pe_tup (pa_cons (pv 2) (pa_cons (pv 3) (pa_cons (pv 6) (pa_cons (pv 7) pa_nil))))) pa_nil))))))))))))))))
    (pss_one (ps_ret (pv 1))))), ?_⟩
  obtain ⟨p, plan, ra, rfl, hp, hR, hO, hl, q⟩ := h
  refine ⟨Nat.zero_le _, fun g hg => ?_⟩
  refine ⟨_, rfl, p, rfl, ⟨_, SqL.of ((same_new hg) _ _ hp)⟩, for_list (K := K) (a := p) (xs := ra.map V.ref) (fun i σ H' => ∃ (y2 y3 y4 y5 y6 y7 y8 : Option V) (adr : List Addr), σ = [some (.ref p), some (.ref g), y2, y3, y4, y5, y6, y7, y8] ∧ Same H H' ∧
      H' g = some (.lst (adr.map V.ref)) ∧ adr.length = i ∧ ∀ k, k < i → Cont K H' adr (rowAt plan k) (adr.getD k 0))
    ⟨none, none, none, none, none, none, none, [], rfl, same_new hg, upd_same, rfl, fun k hk => absurd hk (Nat.not_lt_zero _)⟩
    (fun i σ H' _ ⟨_, _, _, _, _, _, _, _, _, k, _⟩ => k.seq (SqL.of hp)) ?_ ?_⟩
  · rintro i x σ H' hi ⟨y2, y3, y4, y5, y6, y7, y8, adr, rfl, k, hg1, hda, hC⟩
    obtain ⟨hil, rfl⟩ := refs_get hi
    have hil2 : i < plan.length := by rw [← hR.1]; exact hil
    obtain ⟨f, t, hrow, hf, ht, _⟩ := hR.2 i hil2
    have hrow1 := k _ _ hrow
    have hf1 := k _ _ hf
    have ht1 := k _ _ ht
    obtain ⟨hn, hfl, htl, hw⟩ := hO.2 i hil2
    have hkd := hO.1 i hil2
    have hfd : ∀ z ∈ (rowAt plan i).fs, z < adr.length := fun z hz => by rw [hda]; exact hkd z (List.mem_append_left _ hz)
    have htd : ∀ z ∈ (rowAt plan i).ts, z < adr.length := fun z hz => by rw [hda]; exact hkd z (List.mem_append_right _ hz)
    have fin : ∀ (H2 : Hp) (a : Addr) (y2 y3 y4 y5 y6 y7 y8 : Option V), Same H' H2 → Cont K H2 adr (rowAt plan i) a → ∃ (z2 z3 z4 z5 z6 z7 z8 : Option V) (adr' : List Addr), [some (V.ref p), some (V.ref g), y2, y3, y4, y5, y6, y7, y8] = [some (V.ref p), some (V.ref g), z2, z3, z4, z5, z6, z7, z8] ∧ Same H (upd H2 g (.lst (adr.map V.ref ++ [.ref a]))) ∧
        (upd H2 g (.lst (adr.map V.ref ++ [.ref a]))) g = some (.lst (adr'.map V.ref)) ∧ adr'.length = i + 1 ∧ ∀ k, k < i + 1 → Cont K (upd H2 g (.lst (adr.map V.ref ++ [.ref a]))) adr' (rowAt plan k) (adr'.getD k 0) := by
      intro H2 a y2 y3 y4 y5 y6 y7 y8 k2 hCa
      have hg2 := k2 _ _ hg1
      refine ⟨_, _, _, _, _, _, _, adr ++ [a], rfl, ?_, ?_, ?_, ?_⟩
      · exact fun x o e => by rw [upd_ne (ne_of_none e hg)]; exact k2 _ _ (k _ _ e)
      · rw [upd_same, List.map_append]; rfl
      · rw [List.length_append, List.length_singleton, hda]
      · intro n hn
        rcases Nat.lt_succ_iff_lt_or_eq.mp hn with hn | hn
        · rw [getD_old (by rw [hda]; exact hn)]
          exact (((hC n hn).same k2).keep fun b xs h => sqt_wr hg2 h).snoc fun j hj => by rw [hda]; exact Nat.lt_trans (hO.1 n (Nat.lt_trans hn hil2) j hj) hn
        · have e : (adr ++ [a]).getD n 0 = a := by rw [hn, ← hda, getD_new]
          rw [e, hn]
          exact (hCa.keep fun b xs h => sqt_wr hg2 h).snoc fun j hj => by rw [hda]; exact hkd j hj
    refine ⟨_, _, rfl, SqT.of hrow1, rfl, _, _, rfl, _, _, rfl, _, _, rfl, _, _, rfl, rfl, ?_⟩
    refine ⟨_, rfl, f, rfl, ⟨_, SqL.of hf1⟩, fun D1 hD1 => ?_⟩
    refine lc_pick (n := 8) (s := 1) (c := g) (vs := adr.map V.ref) (zs := (rowAt plan i).fs) (SqL.of hf1) (SqL.of hg1) hD1 (fun z hz => by rw [List.length_map]; exact hfd z hz) (by omega) (fun _ => rfl) (fun _ => rfl) (fun _ => rfl) fun H3 k3 hD3 => ?_
    rw [rf_refs hfd] at hD3
    refine ⟨D1, _, rfl, .inl ⟨SqL.of hD3, fun s1 hs1 => ?_⟩⟩
    have k34 := k3.trans (same_new (o := .tup (rf adr (rowAt plan i).fs)) hs1)
    have hs1' : upd H3 s1 (.tup (rf adr (rowAt plan i).fs)) s1 = some (.tup (rf adr (rowAt plan i).fs)) := upd_same
    generalize upd H3 s1 (.tup (rf adr (rowAt plan i).fs)) = H4 at k34 hs1' ⊢
    refine ⟨_, rfl, t, rfl, ⟨_, SqL.of (k34 _ _ ht1)⟩, fun D2 hD2 => ?_⟩
    refine lc_pick (n := 8) (s := 1) (c := g) (vs := adr.map V.ref) (zs := (rowAt plan i).ts) (SqL.of (k34 _ _ ht1)) (SqL.of (k34 _ _ hg1)) hD2 (fun z hz => by rw [List.length_map]; exact htd z hz) (by omega) (fun _ => rfl) (fun _ => rfl) (fun _ => rfl) fun H5 k5 hD5 => ?_
    rw [rf_refs htd] at hD5
    refine ⟨D2, _, rfl, .inl ⟨SqL.of hD5, fun s2 hs2 => ?_⟩⟩
    have k56 := k5.trans (same_new (o := .tup (rf adr (rowAt plan i).ts)) hs2)
    have hs2' : upd H5 s2 (.tup (rf adr (rowAt plan i).ts)) s2 = some (.tup (rf adr (rowAt plan i).ts)) := upd_same
    generalize upd H5 s2 (.tup (rf adr (rowAt plan i).ts)) = H6 at k56 hs2' ⊢
    have k16 := k34.trans k56
    have hs1'' := k56 _ _ hs1'
    clear hs1 hs2 hD1 hD2 hD3 hD5 k3 k5 hs1' k34 k56
    have hal : (adr.map V.ref).length < sizeLine := by rw [List.length_map, hda, sizeLine_eq]; omega
    have b1 : (rowAt plan i).fs.length ≤ 100 := by omega
    have b2 : (rowAt plan i).ts.length ≤ 100 := by omega
    have htl2 : (rf adr (rowAt plan i).ts).length ≤ 100 := by rw [rf_length]; omega
    have cat : ∀ (H7 : Hp) (a : Addr) (xs : List V) (Q2 : VK), Same H6 H7 → SqT K H7 a xs → xs.length ≤ 10 → (∀ H8 b, Same H' H8 → SqT K H8 b (xs ++ rf adr (rowAt plan i).ts) → H8 g = some (.lst (adr.map V.ref)) → Same H7 H8 → Q2 (.ref b) H8) → rCatA K (.ref a) (.ref s2) H7 Q2 := fun H7 a xs Q2 k7 ha hx q2 =>
      catA_ok ha (k7.sqt (SqT.of hs2')) (by omega) fun H8 b k8 hb => q2 H8 b (k16.trans (k7.trans k8)) hb (k16.trans (k7.trans k8) _ _ hg1) k8
    refine ⟨_, _, rfl, ?_⟩
    refine ⟨_, rfl, ?_⟩
    refine in_words (L := ["end", "wait", "fail"]) (fun q h => h) (by decide) ?_
    intro H7 k7
    have k17 := k16.trans k7
    refine ⟨fun e => iteT ?_, fun e => iteF ?_⟩
    · refine ⟨_, rfl, .inl ⟨rfl, _, SqL.of (k17 _ _ hg1)⟩, _, rfl, (by show 1 ≤ sizeLine; decide), fun a ha => ?_⟩
      have k18 := k17.trans (same_new (o := .tup [V.str (rowAt plan i).w]) ha)
      refine ⟨g, _, _, rfl, rfl, k18 _ _ hg1, hal, fin _ a _ _ _ _ _ _ _ k18 ⟨b1, b2, _, SqT.of upd_same, ?_⟩⟩
      rcases hw with h | h | h | h | h | h
      · exact .inl ⟨h.1, h.2.1, h.2.2, rfl⟩
      · exact no_mem h.1 e (by decide +kernel)
      · exact no_eq h.1 e (by decide +kernel)
      · exact no_eq h.1 e (by decide +kernel)
      · exact no_eq h.1 e (by decide +kernel)
      · exact no_mem h e (by decide +kernel)
    refine ⟨_, rfl, ?_⟩
    refine in_words (L := ["go", "given"]) (fun q h => h) (by decide) ?_
    intro H8 k8
    have k18 := k17.trans k8
    have k68 := k7.trans k8
    refine ⟨fun e2 => iteT ?_, fun e2 => iteF ?_⟩
    · refine ⟨_, rfl, .inl ⟨rfl, _, SqL.of (k18 _ _ hg1)⟩, _, rfl, _, rfl, (by show 2 ≤ sizeLine; decide), fun a ha => ?_⟩
      have k19 := k18.trans (same_new (o := .tup [V.str (rowAt plan i).w, V.str (rowAt plan i).n]) ha)
      refine ⟨g, _, _, rfl, rfl, k19 _ _ hg1, hal, fin _ a _ _ _ _ _ _ _ k19 ⟨b1, b2, _, SqT.of upd_same, ?_⟩⟩
      rcases hw with h | h | h | h | h | h
      · exact absurd h.1 e
      · exact .inr (.inl ⟨h.1, h.2.1, h.2.2, rfl⟩)
      · exact no_eq h.1 e2 (by decide +kernel)
      · exact no_eq h.1 e2 (by decide +kernel)
      · exact no_eq h.1 e2 (by decide +kernel)
      · exact no_mem h e2 (by decide +kernel)
    refine ⟨_, rfl, rfl, _, rfl, ?_⟩
    rw [dec_str]
    refine ite2 (fun e3 => ?_) (fun e3 => ?_)
    · have e3' := beq_iff_eq.mp e3
      refine ⟨_, rfl, .inl ⟨rfl, _, SqL.of (k18 _ _ hg1)⟩, _, rfl, _, rfl, (by show 2 ≤ sizeLine; decide), fun a ha => ?_⟩
      have kn := same_new (o := .tup [V.str (rowAt plan i).w, V.str (rowAt plan i).n]) ha
      refine ⟨_, rfl, cat _ a [V.str (rowAt plan i).w, V.str (rowAt plan i).n] _ (k68.trans kn) (SqT.of upd_same) (by show 2 ≤ 10; decide) fun H9 b k9 hb hg9 _ => ?_⟩
      refine ⟨g, _, _, rfl, rfl, hg9, hal, fin _ b _ _ _ _ _ _ _ k9 ⟨b1, b2, _, hb, ?_⟩⟩
      rcases hw with h | h | h | h | h | h
      · exact absurd h.1 e
      · exact absurd h.1 e2
      · exact .inr (.inr (.inl ⟨h.1, h.2.1, h.2.2, rfl⟩))
      · exact absurd (e3'.symm.trans h.1) (by decide +kernel)
      · exact absurd (e3'.symm.trans h.1) (by decide +kernel)
      · exact no_eq e3' h (by decide +kernel)
    have e3' : (rowAt plan i).w ≠ "do" := fun h => e3 (beq_iff_eq.mpr h)
    refine ⟨_, rfl, rfl, _, rfl, ?_⟩
    rw [dec_str]
    refine ite2 (fun e4 => ?_) (fun e4 => ?_)
    · have e4' := beq_iff_eq.mp e4
      refine ⟨_, rfl, .inl ⟨rfl, _, SqL.of (k18 _ _ hg1)⟩, _, rfl, (by show 2 ≤ sizeLine; decide), fun c hc => ⟨(by show 2 ≤ sizeLine; decide), fun a ha => ?_⟩⟩
      have kc := same_new (o := .tup [V.int 0, V.int 2]) hc
      have kn := kc.trans (same_new (o := .tup [V.str (rowAt plan i).w, V.ref c]) ha)
      have hc2 := (same_new (o := .tup [V.str (rowAt plan i).w, V.ref c]) ha) _ _ (show upd H8 c (.tup [V.int 0, V.int 2]) c = some (.tup [V.int 0, V.int 2]) from upd_same)
      refine ⟨_, rfl, cat _ a [V.str (rowAt plan i).w, V.ref c] _ (k68.trans kn) (SqT.of upd_same) (by show 2 ≤ 10; decide) fun H9 b k9 hb hg9 k9' => ?_⟩
      refine ⟨g, _, _, rfl, rfl, hg9, hal, fin _ b _ _ _ _ _ _ _ k9 ⟨b1, b2, _, hb, ?_⟩⟩
      rcases hw with h | h | h | h | h | h
      · exact absurd h.1 e
      · exact absurd h.1 e2
      · exact absurd h.1 e3'
      · exact .inr (.inr (.inr (.inl ⟨h.1, h.2.1, h.2.2, c, SqT.of (k9' _ _ hc2), rfl⟩)))
      · exact absurd (e4'.symm.trans h.1) (by decide +kernel)
      · exact no_eq e4' h (by decide +kernel)
    have e4' : (rowAt plan i).w ≠ "test" := fun h => e4 (beq_iff_eq.mpr h)
    refine ⟨_, rfl, rfl, _, rfl, ?_⟩
    rw [dec_str]
    refine ite2 (fun e5 => ?_) (fun e5 => ?_)
    · have e5' := beq_iff_eq.mp e5
      refine ⟨_, rfl, .inl ⟨rfl, _, SqL.of (k18 _ _ hg1)⟩, _, rfl, (by show 1 ≤ sizeLine; decide), fun a ha => ?_⟩
      have kn := same_new (o := .tup [V.str (rowAt plan i).w]) ha
      refine ⟨_, rfl, cat _ a [V.str (rowAt plan i).w] _ (k68.trans kn) (SqT.of upd_same) (by show 1 ≤ 10; decide) fun H9 b k9 hb hg9 _ => ?_⟩
      refine ⟨g, _, _, rfl, rfl, hg9, hal, fin _ b _ _ _ _ _ _ _ k9 ⟨b1, b2, _, hb, ?_⟩⟩
      rcases hw with h | h | h | h | h | h
      · exact absurd h.1 e
      · exact absurd h.1 e2
      · exact absurd h.1 e3'
      · exact absurd h.1 e4'
      · exact .inr (.inr (.inr (.inr (.inl ⟨h.1, h.2, rfl⟩))))
      · exact no_eq e5' h (by decide +kernel)
    have e5' : (rowAt plan i).w ≠ "pick" := fun h => e5 (beq_iff_eq.mpr h)
    refine ⟨_, rfl, .inl ⟨rfl, _, SqL.of (k18 _ _ hg1)⟩, _, rfl, _, rfl, _, rfl, _, rfl, (by show 4 ≤ sizeLine; decide), fun a ha => ?_⟩
    have kn := same_new (o := .tup [V.str (rowAt plan i).w, V.str (rowAt plan i).n, V.ref s1, V.ref s2]) ha
    refine ⟨g, _, _, rfl, rfl, kn _ _ (k18 _ _ hg1), hal, fin _ a _ _ _ _ _ _ _ (k18.trans kn) ⟨b1, b2, _, SqT.of upd_same, ?_⟩⟩
    rcases hw with h | h | h | h | h | h
    · exact absurd h.1 e
    · exact absurd h.1 e2
    · exact absurd h.1 e3'
    · exact absurd h.1 e4'
    · exact absurd h.1 e5'
    · exact .inr (.inr (.inr (.inr (.inr ⟨h, s1, s2, (k68.trans kn).sqt (SqT.of hs1''), (k68.trans kn).sqt (SqT.of hs2'), rfl⟩))))
  · rintro σ H' ⟨y2, y3, y4, y5, y6, y7, y8, adr, rfl, k, hg1, hda, hC⟩
    rw [List.length_map, hR.1] at hda hC
    exact ⟨_, rfl, q H' g adr k hg hg1 hda ⟨hO.1, hC⟩⟩
end
end K07
set_option Elab.async false
set_option linter.all false
set_option maxRecDepth 100000
set_option maxHeartbeats 4000000
/-! k07: the terms as data. -/
namespace K07
open PySem PySem.Spec PyProof.Rows L2 Zg Zs Zr Zd Zt
def rowData (r : Row) (g : Nat → PyData) : PyData :=
  if r.w ∈ (["end", "wait", "fail"] : List PySem.Str) then .tuple [.str r.w]
  else if r.w ∈ (["go", "given"] : List PySem.Str) then .tuple [.str r.w, .str r.n]
  else if r.w = "do" then .tuple (.str r.w :: .str r.n :: r.ts.map g)
  else if r.w = "test" then .tuple (.str r.w :: .tuple [.int 0, .int 2] :: r.ts.map g)
  else if r.w = "pick" then .tuple (.str r.w :: r.ts.map g)
  else .tuple [.str r.w, .str r.n, .tuple (r.fs.map g), .tuple (r.ts.map g)]
/-- the data of a plan's terms -/
def dat (plan : List Row) : Nat → Nat → PyData
  | 0, _ => .none
  | f + 1, i => rowData (rowAt plan i) (dat plan f)
theorem dp_rf {K : PySem.W.Frag} {H : Hp} {adr : List Addr} {g : Nat → PyData} {l : List Nat} (h : ∀ j ∈ l, Dp K H (.ref (adr.getD j 0)) (g j)) : DpAll K H (rf adr l) (l.map g) := dpAll_of (fun j => V.ref (adr.getD j 0)) g h
theorem dp_term {K : PySem.W.Frag} {H : Hp} {plan : List Row} {adr : List Addr} (hT : Tms K H plan adr) : ∀ f i, i < f → i < plan.length → Dp K H (.ref (adr.getD i 0)) (dat plan f i)
  | 0, i, h, _ => absurd h (Nat.not_lt_zero _)
  | f + 1, i, h, hi => by
    have hk : ∀ j ∈ kidsAt plan i, Dp K H (.ref (adr.getD j 0)) (dat plan f j) := fun j hj => dp_term hT f j (by have := hT.1 i hi j hj; omega) (kids_lt hT.1 hi hj)
    have hf : ∀ j ∈ (rowAt plan i).fs, Dp K H (.ref (adr.getD j 0)) (dat plan f j) := fun j hj => hk j (List.mem_append_left _ hj)
    have ht : ∀ j ∈ (rowAt plan i).ts, Dp K H (.ref (adr.getD j 0)) (dat plan f j) := fun j hj => hk j (List.mem_append_right _ hj)
    obtain ⟨b1, b2, vs, hS, hs⟩ := hT.2 i hi
    show Dp K H _ (rowData (rowAt plan i) (dat plan f))
    generalize rowAt plan i = r at hf ht hS hs
    generalize dat plan f = g at hf ht
    unfold rowData
    rcases hs with h | h | h | ⟨h1, h2, h3, q, h4, h5⟩ | h | ⟨h1, p, q, h2, h3, h4⟩
    · rw [if_pos h.1]
      rw [h.2.2.2] at hS
      exact .tup hS (.cons (.str _) .nil)
    · rw [if_neg (fun e => no_mem h.1 e (by decide +kernel)), if_pos h.1]
      rw [h.2.2.2] at hS
      exact .tup hS (.cons (.str _) (.cons (.str _) .nil))
    · rw [if_neg (fun e => no_eq h.1 e (by decide +kernel)), if_neg (fun e => no_eq h.1 e (by decide +kernel)), if_pos h.1]
      rw [h.2.2.2] at hS
      exact .tup hS (.cons (.str _) (.cons (.str _) (dp_rf ht)))
    · rw [if_neg (fun e => no_eq h1 e (by decide +kernel)), if_neg (fun e => no_eq h1 e (by decide +kernel)), if_neg (fun e => absurd (e.symm.trans h1) (by decide +kernel)), if_pos h1]
      rw [h5] at hS
      exact .tup hS (.cons (.str _) (.cons (.tup h4 (.cons (.int _) (.cons (.int _) .nil))) (dp_rf ht)))
    · rw [if_neg (fun e => no_eq h.1 e (by decide +kernel)), if_neg (fun e => no_eq h.1 e (by decide +kernel)), if_neg (fun e => absurd (e.symm.trans h.1) (by decide +kernel)), if_neg (fun e => absurd (e.symm.trans h.1) (by decide +kernel)), if_pos h.1]
      rw [h.2.2] at hS
      exact .tup hS (.cons (.str _) (dp_rf ht))
    · rw [if_neg (fun e => no_mem h1 e (by decide +kernel)), if_neg (fun e => no_mem h1 e (by decide +kernel)), if_neg (fun e => no_eq e h1 (by decide +kernel)), if_neg (fun e => no_eq e h1 (by decide +kernel)), if_neg (fun e => no_eq e h1 (by decide +kernel))]
      rw [h4] at hS
      exact .tup hS (.cons (.str _) (.cons (.str _) (.cons (.tup h2 (dp_rf hf)) (.cons (.tup h3 (dp_rf ht)) .nil))))
/-- small data: okd, so deep, so big -/
def Sm (d : PyData) (k c : Nat) : Prop := okd d = true ∧ d.depth ≤ k ∧ d.bulk + 1 ≤ c
theorem sm_all {g : Nat → PyData} {dp ct : Nat → Nat} {k : Nat} : ∀ {l : List Nat}, (∀ j ∈ l, Sm (g j) (2 * dp j) (40 * ct j) ∧ dp j ≤ k) → okAll (l.map g) = true ∧ PyData.depthAll (l.map g) ≤ 2 * k ∧ PyData.bulkAll (l.map g) ≤ 40 * (l.map ct).sum
  | [], _ => ⟨rfl, Nat.zero_le _, Nat.zero_le _⟩
  | x :: l, h => by
    obtain ⟨a1, a2, a3⟩ := sm_all (l := l) fun j hj => h j (List.mem_cons_of_mem _ hj)
    obtain ⟨⟨b1, b2, b3⟩, b4⟩ := h x List.mem_cons_self
    refine ⟨?_, ?_, ?_⟩
    · show (okd (g x) && okAll (l.map g)) = true
      rw [b1, a1]; rfl
    · show max (g x).depth (PyData.depthAll (l.map g)) ≤ 2 * k
      omega
    · show (g x).bulk + 1 + PyData.bulkAll (l.map g) ≤ 40 * ((x :: l).map ct).sum
      rw [List.map_cons, List.sum_cons]
      omega
theorem words_ok : ∀ x ∈ (["end", "wait", "fail", "go", "given", "do", "test", "pick", "call", "part"] : List PySem.Str), x.cps.size ≤ 5 ∧ PyData.strOk x = true := by decide +kernel
theorem RowOk.word {r : Row} (h : RowOk r) : r.w.cps.size ≤ 5 ∧ PyData.strOk r.w = true := by
  refine words_ok _ ?_
  obtain ⟨_, _, _, h⟩ := h
  rcases h with h | h | h | h | h | h
  · exact (by decide +kernel : ∀ x ∈ (["end", "wait", "fail"] : List PySem.Str), x ∈ (["end", "wait", "fail", "go", "given", "do", "test", "pick", "call", "part"] : List PySem.Str)) _ h.1
  · exact (by decide +kernel : ∀ x ∈ (["go", "given"] : List PySem.Str), x ∈ (["end", "wait", "fail", "go", "given", "do", "test", "pick", "call", "part"] : List PySem.Str)) _ h.1
  · rw [h.1]; decide +kernel
  · rw [h.1]; decide +kernel
  · rw [h.1]; decide +kernel
  · exact (by decide +kernel : ∀ x ∈ (["call", "part"] : List PySem.Str), x ∈ (["end", "wait", "fail", "go", "given", "do", "test", "pick", "call", "part"] : List PySem.Str)) _ h
theorem sm_term {plan : List Row} {dp ct : Nat → Nat} (hO : PlanOk plan) (hc : Cnt plan ct) (hd : Dep plan dp) : ∀ f i, i < f → i < plan.length → Sm (dat plan f i) (2 * dp i) (40 * ct i)
  | 0, i, h, _ => absurd h (Nat.not_lt_zero _)
  | f + 1, i, h, hi => by
    obtain ⟨d1, dk⟩ := hd i hi
    have hk : ∀ j ∈ kidsAt plan i, Sm (dat plan f j) (2 * dp j) (40 * ct j) ∧ dp j ≤ dp i - 1 := fun j hj => ⟨sm_term hO hc hd f j (by have := hO.1 i hi j hj; omega) (kids_lt hO.1 hi hj), by have := dk j hj; omega⟩
    obtain ⟨f1, f2, f3⟩ := sm_all (l := (rowAt plan i).fs) fun j hj => hk j (List.mem_append_left _ hj)
    obtain ⟨t1, t2, t3⟩ := sm_all (l := (rowAt plan i).ts) fun j hj => hk j (List.mem_append_right _ hj)
    have hct := hc i hi
    have hks : ((kidsAt plan i).map ct).sum = (((rowAt plan i).fs).map ct).sum + (((rowAt plan i).ts).map ct).sum := by
      show ((_ ++ _ : List Nat).map ct).sum = _
      rw [List.map_append, List.sum_append]
    rw [hks] at hct
    have hR := hO.2 i hi
    obtain ⟨w1, w2⟩ := hR.word
    obtain ⟨n1, n2⟩ := hR.1
    have n1' : (rowAt plan i).n.cps.size ≤ 8 := n1
    show Sm (rowData (rowAt plan i) (dat plan f)) _ _
    generalize rowAt plan i = r at w1 w2 n2 n1' f1 f2 f3 t1 t2 t3 hct
    generalize dat plan f = g at f1 f2 f3 t1 t2 t3
    have ow : okd (.str r.w) = true := w2
    have on : okd (.str r.n) = true := n2
    have bw : (PyData.str r.w).bulk ≤ 5 := w1
    have bn : (PyData.str r.n).bulk ≤ 8 := n1'
    have zw : (PyData.str r.w).depth = 0 := rfl
    have zn : (PyData.str r.n).depth = 0 := rfl
    unfold rowData
    generalize PyData.str r.w = W at ow bw zw ⊢
    generalize PyData.str r.n = N at on bn zn ⊢
    split
    · refine ⟨?_, ?_, ?_⟩
      · show (okd W && true) = true
        rw [ow]; rfl
      · show max W.depth 0 + 1 ≤ _
        omega
      · show W.bulk + 1 + 0 + 1 ≤ _
        omega
    split
    · refine ⟨?_, ?_, ?_⟩
      · show (okd W && (okd N && true)) = true
        rw [ow, on]; rfl
      · show max W.depth (max N.depth 0) + 1 ≤ _
        omega
      · show W.bulk + 1 + (N.bulk + 1 + 0) + 1 ≤ _
        omega
    split
    · refine ⟨?_, ?_, ?_⟩
      · show (okd W && (okd N && okAll (r.ts.map g))) = true
        rw [ow, on, t1]; rfl
      · show max W.depth (max N.depth (PyData.depthAll (r.ts.map g))) + 1 ≤ _
        omega
      · show W.bulk + 1 + (N.bulk + 1 + PyData.bulkAll (r.ts.map g)) + 1 ≤ _
        omega
    split
    · refine ⟨?_, ?_, ?_⟩
      · show (okd W && (okd (.tuple [.int 0, .int 2]) && okAll (r.ts.map g))) = true
        rw [ow, t1]; rfl
      · show max W.depth (max (PyData.depth (.tuple [.int 0, .int 2])) (PyData.depthAll (r.ts.map g))) + 1 ≤ _
        have : PyData.depth (.tuple [.int 0, .int 2]) = 1 := rfl
        omega
      · show W.bulk + 1 + (PyData.bulk (.tuple [.int 0, .int 2]) + 1 + PyData.bulkAll (r.ts.map g)) + 1 ≤ _
        have : PyData.bulk (.tuple [.int 0, .int 2]) = 2 := rfl
        omega
    split
    · refine ⟨?_, ?_, ?_⟩
      · show (okd W && okAll (r.ts.map g)) = true
        rw [ow, t1]; rfl
      · show max W.depth (PyData.depthAll (r.ts.map g)) + 1 ≤ _
        omega
      · show W.bulk + 1 + PyData.bulkAll (r.ts.map g) + 1 ≤ _
        omega
    · refine ⟨?_, ?_, ?_⟩
      · show (okd W && (okd N && (okAll (r.fs.map g) && (okAll (r.ts.map g) && true)))) = true
        rw [ow, on, f1, t1]; rfl
      · show max W.depth (max N.depth (max (PyData.depthAll (r.fs.map g) + 1) (max (PyData.depthAll (r.ts.map g) + 1) 0))) + 1 ≤ _
        omega
      · show W.bulk + 1 + (N.bulk + 1 + (PyData.bulkAll (r.fs.map g) + 1 + (PyData.bulkAll (r.ts.map g) + 1 + 0))) + 1 ≤ _
        omega
end K07
set_option Elab.async false
set_option linter.all false
set_option maxRecDepth 100000
set_option maxHeartbeats 4000000
/-! k07: ways, names of the plan. -/
namespace K07
open PySem PySem.Spec PyProof.Rows L2 Zg Zs Zr Zd Zt
def optI : Option Nat → V
  | none => .non
  | some i => .int (i : Nat)
section
variable {P : Program} {w : World} {K : PySem.W.Frag} {mg : PySem.Str → Option Value} {base : Heap}
/-- the row of a plan, read out of its list -/
theorem row_at {H : Hp} {p : Addr} {S : List Addr} {ra : List Addr} {plan : List Row} {i : Nat} (hp : H p = some (.lst (ra.map V.ref))) (hR : Rows H S ra plan) (hi : i < plan.length) : ∃ f t, atI (ra.map V.ref) ((i : Nat) : Int) = some (.ref (ra.getD i 0)) ∧
    H (ra.getD i 0) = some (.tup [.str (rowAt plan i).w, .str (rowAt plan i).n, .ref f, .ref t]) ∧ H f = some (.lst (numL (rowAt plan i).fs)) ∧ H t = some (.lst (numL (rowAt plan i).ts)) := by
  obtain ⟨f, t, h1, h2, h3, _⟩ := hR.2 i hi
  refine ⟨f, t, atI_nat ?_, h1, h2, h3⟩
  rw [List.getElem?_map, List.getElem?_eq_getElem (by rw [hR.1]; exact hi), List.getD_eq_getElem?_getD, List.getElem?_eq_getElem (by rw [hR.1]; exact hi)]
  rfl
def sp_walked (K : PySem.W.Frag) : Sp := fun vs H Q _ => ∃ (p b : Addr) (plan : List Row) (ra : List Addr) (i : Nat) (zs : List Int), vs = [.ref p, .int (i : Nat), .ref b] ∧ H p = some (.lst (ra.map V.ref)) ∧ Rows H [] ra plan ∧ PlanOk plan ∧ i < plan.length ∧ SqT K H b (zs.map V.int) ∧
  ∀ (H' : Hp), Same H H' → Q (optI (walkW plan (some i) zs)) H'
theorem kids_small {plan : List Row} (hO : PlanOk plan) {i : Nat} (hi : i < plan.length) : (rowAt plan i).fs.length ≤ 2 ∧ (rowAt plan i).ts.length ≤ 4 := ⟨(hO.2 i hi).2.1, (hO.2 i hi).2.2.1⟩
theorem ok_walked (T : Txt K mg) : FnOk P w K mg base CX0 1 T.a_walked T.d_walked P_walked (sp_walked K) := by
  refine T.F_walked.ok sc_walked (fun vs H Q E h => by obtain ⟨p, b, plan, ra, i, zs, rfl, _⟩ := h; rfl) (fun cdv A outer s H vs Q E hr h => ?_)
  refine ⟨_, (pss_cons (ps_for PassesOwn.never rfl (pi_tup (pv 2)) (pg_name (i := 3) sc_walked.nd rfl (Or.inl rfl)) (pss_one (ps_if (pt_cmpR op_notN (pv 1) pe_non (nomark _)) (pss_cons (ps_set (i := 4) sc_walked.nd rfl (Or.inl rfl) (pe_op op_cat (pe_ix ix_tup (pe_ix ix_list (pv 0) (pv 1) (fun _ _ => rfl)) pe_int (fun _ _ => rfl)) (pe_ix ix_tup (pe_ix ix_list (pv 0) (pv 1) (fun _ _ => rfl)) pe_int (fun _ _ => rfl))))
    (pss_one (ps_set (i := 1) sc_walked.nd rfl (Or.inl rfl) (pe_ifExp (pt_chain op_le op_lt pe_int (pv 3) (pe_callB call_len_seq (by rfl) T.n_len (by decide +kernel) (pa_cons (pv 4) pa_nil))) (pe_ix ix_list (pv 4) (pv 3) (fun _ _ => rfl)) pe_non)))) pss_nil)))
    (pss_one (ps_ret (pv 1)))), ?_⟩
  obtain ⟨p, b, plan, ra, i0, zs, rfl, hp, hR, hO, hi0, hb, q⟩ := h
  refine ⟨_, rfl, b, rfl, ⟨_, hb⟩, for_tup (K := K) (a := b) (xs := zs.map V.int) (fun i σ H' => ∃ (o : Option Nat) (y3 y4 : Option V), σ = [some (.ref p), some (optI o), some (.ref b), y3, y4] ∧ Same H H' ∧ (∀ j, o = some j → j < plan.length) ∧ walkW plan (some i0) (zs.take i) = o)
    ⟨some i0, none, none, rfl, Same.refl H, fun j e => by cases e; exact hi0, rfl⟩ (fun i σ H' _ ⟨_, _, _, _, k, _⟩ => k.sqt hb) ?_ ?_⟩
  · rintro i x σ H' hi ⟨o, y3, y4, rfl, k, ho, hw⟩
    obtain ⟨z, hz, rfl⟩ : ∃ z, zs[i]? = some z ∧ x = V.int z := by
      rw [List.getElem?_map] at hi
      cases e : zs[i]? with
      | none => rw [e] at hi; cases hi
      | some z => rw [e] at hi; exact ⟨z, rfl, (Option.some.inj hi).symm⟩
    have hw2 := walkW_take (plan := plan) (o := some i0) hz
    rw [hw] at hw2
    cases o with
    | none =>
      refine ⟨_, rfl, rfl, _, rfl, ?_⟩
      refine iteF ?_
      exact ⟨none, _, _, rfl, k, (fun j e => by cases e), hw2⟩
    | some j =>
      have hj := ho j rfl
      obtain ⟨f, t, r1, r2, r3, r4⟩ := row_at (k _ _ hp) (hR.kp (Kp.of k)) hj
      refine ⟨_, rfl, rfl, _, rfl, ?_⟩
      refine iteT ?_
      refine ⟨_, rfl, _, rfl, p, _, _, _, rfl, rfl, SqL.of (k _ _ hp), r1, _, _, 2, _, rfl, rfl, SqT.of r2, rfl, _, rfl, _, rfl, p, _, _, _, rfl, rfl, SqL.of (k _ _ hp), r1, _, _, 3, _, rfl, rfl, SqT.of r2, rfl, ?_⟩
      obtain ⟨m1, m2⟩ := kids_small hO hj
      refine ⟨f, t, _, _, rfl, rfl, r3, r4, by rw [numL_length, numL_length, sizeLine_eq]; omega, fun c hc => ?_⟩
      rw [← numL_append]
      have kn := k.trans (same_new (o := .lst (numL ((rowAt plan j).fs ++ (rowAt plan j).ts))) hc)
      have hc2 : (upd H' c (.lst (numL ((rowAt plan j).fs ++ (rowAt plan j).ts)))) c = some (.lst (numL (kidsAt plan j))) := upd_same
      generalize upd H' c (.lst (numL ((rowAt plan j).fs ++ (rowAt plan j).ts))) = H2 at kn hc2 ⊢
      have out : stepW plan (some j) z = none → walkW plan (some i0) (zs.take (i + 1)) = none := fun e => hw2.trans e
      refine ⟨_, rfl, _, _, rfl, rfl, _, rfl, ite2 (fun e => ?_) (fun e => ?_)⟩
      · have z0 : 0 ≤ z := of_decide_eq_true e
        refine ⟨_, rfl, c, _, rfl, .inl (SqL.of hc2), _, _, rfl, rfl, _, rfl, ?_⟩
        show if decide (z < ((numL (kidsAt plan j)).length : Int)) = true then _ else _
        rw [numL_length]
        refine ite2 (fun e2 => ?_) (fun e2 => ?_)
        · have hz2 := of_decide_eq_true e2
          have hn : z.toNat < (kidsAt plan j).length := by omega
          have e3 : (kidsAt plan j)[z.toNat]? = some (kidsAt plan j)[z.toNat] := List.getElem?_eq_getElem hn
          have e4 : stepW plan (some j) z = some (kidsAt plan j)[z.toNat] := by
            show (if 0 ≤ z then (kidsAt plan j)[z.toNat]? else none) = _
            rw [if_pos z0, e3]
          have e5 : atI (numL (kidsAt plan j)) z = some (.int ((kidsAt plan j)[z.toNat] : Nat)) := by
            have q1 : (numL (kidsAt plan j))[z.toNat]? = some (.int ((kidsAt plan j)[z.toNat] : Nat)) := by
              unfold numL
              rw [List.getElem?_map, e3]
              rfl
            have q2 := atI_nat (xs := numL (kidsAt plan j)) (j := z.toNat) q1
            rw [Int.toNat_of_nonneg z0] at q2
            exact q2
          refine ⟨_, rfl, _, rfl, c, _, z, _, rfl, rfl, SqL.of hc2, e5, ⟨some (kidsAt plan j)[z.toNat], _, _, rfl, kn, fun m em => ?_, hw2.trans e4⟩⟩
          cases em
          exact kids_lt hO.1 hj (List.getElem_mem hn)
        · have hz2 : ¬ z < ((kidsAt plan j).length : Int) := fun h => e2 (decide_eq_true h)
          have e4 : stepW plan (some j) z = none := by
            show (if 0 ≤ z then (kidsAt plan j)[z.toNat]? else none) = _
            rw [if_pos z0]
            exact List.getElem?_eq_none (by omega)
          exact ⟨none, _, _, rfl, kn, (fun m em => by cases em), hw2.trans e4⟩
      · have z0 : ¬ 0 ≤ z := fun h => e (decide_eq_true h)
        have e4 : stepW plan (some j) z = none := by
          show (if 0 ≤ z then (kidsAt plan j)[z.toNat]? else none) = _
          rw [if_neg z0]
        exact ⟨_, rfl, iteF ⟨none, _, _, rfl, kn, (fun m em => by cases em), hw2.trans e4⟩⟩
  · rintro σ H' ⟨o, y3, y4, rfl, k, ho, hw⟩
    rw [List.length_map, List.take_length] at hw
    have qq := q H' k
    rw [hw] at qq
    exact ⟨_, rfl, qq⟩
theorem numL_int (l : List Nat) : numL l = (l.map fun i => ((i : Nat) : Int)).map V.int := by
  unfold numL
  rw [List.map_map]
  rfl
/-- a dict put among keys that are texts -/
theorem put_keys {kvs : List (Key × V)} {keys : List PySem.Str} {x : PySem.Str} {v : V} (h : kvs.map (·.1) = keys.map Sum.inr) : (putK kvs (.inr x) v).map (·.1) = (ins x keys).map Sum.inr := by
  have e : (kvs.any fun kv => decide (kv.1 = Sum.inr x)) = decide (x ∈ keys) := by
    have e1 : (kvs.any fun kv => decide (kv.1 = Sum.inr x)) = ((kvs.map (·.1)).any fun k => decide (k = Sum.inr x)) := by rw [List.any_map]; rfl
    rw [e1, h, List.any_map, Bool.eq_iff_iff, List.any_eq_true, decide_eq_true_iff]
    constructor
    · rintro ⟨y, hy, e⟩
      have e2 : (Sum.inr y : Key) = Sum.inr x := of_decide_eq_true e
      exact (Sum.inr.inj e2) ▸ hy
    · intro hx
      exact ⟨x, hx, decide_eq_true rfl⟩
  unfold putK ins
  rw [e]
  by_cases hx : x ∈ keys
  · rw [if_pos (decide_eq_true hx), if_pos hx, List.map_map, ← h]
    refine List.map_congr_left fun kv _ => ?_
    show (if kv.1 = Sum.inr x then (kv.1, v) else kv).1 = kv.1
    split <;> rfl
  · rw [if_neg (fun e => hx (of_decide_eq_true e)), if_neg hx, List.map_append, List.map_append, h]
    rfl
def vc (c : Nat → Nat) : V → Nat
  | .int i => c i.toNat
  | _ => 0
theorem vc_numL (c : Nat → Nat) (l : List Nat) : (numL l).map (vc c) = l.map c := by
  unfold numL
  rw [List.map_map]
  rfl
def sp_names_of (K : PySem.W.Frag) : Sp := fun vs H Q _ => ∃ (p : Addr) (plan : List Row) (ra : List Addr) (i : Nat) (c : Nat → Nat), vs = [.ref p, .int (i : Nat)] ∧ H p = some (.lst (ra.map V.ref)) ∧ Rows H [] ra plan ∧ PlanOk plan ∧ i < plan.length ∧ Cnt plan c ∧ c i ≤ 62 ∧
  ∀ (H' : Hp) (r : Addr) (ys : List PySem.Str), Same H H' → SqT K H' r (ys.map V.str) → IsNames plan i ys → Q (.ref r) H'
theorem ok_names_of (T : Txt K mg) : FnOk P w K mg base CX0 1 T.a_names_of T.d_names_of P_names_of (sp_names_of K) := by
  refine T.F_names_of.ok sc_names_of (fun vs H Q E h => by obtain ⟨p, plan, ra, i, c, rfl, _⟩ := h; rfl) (fun cdv A outer s H vs Q E hr h => ?_)
  refine ⟨_, (pss_cons (ps_par (i := 2) (j := 3) (by rfl) sc_names_of.nd rfl rfl (by decide) rfl rfl (pa_cons (pe_lst (pa_cons (pv 1) pa_nil)) (pa_cons pe_dnewK pa_nil)) (by rfl))
    (pss_cons (ps_while PassesOwn.never (pt_cmpR (op_neD hr.units) (pv 2) (pe_lst pa_nil) (nomark _)) (pss_cons (ps_asg (pe_ix ix_list (pv 0) (pe_bm0 PySem.F.plainAttrs_list PySem.F.slot_list_pop PySem.F.type_list_pop mt_pop (pv 2)) (fun _ _ => rfl)) (pg_tup (by rfl) (pgs_cons (pg_name (i := 4) sc_names_of.nd rfl (Or.inl rfl)) (pgs_cons (pg_name (i := 5) sc_names_of.nd rfl (Or.inl rfl)) (pgs_cons (pg_name (i := 6) sc_names_of.nd rfl (Or.inl rfl)) (pgs_cons (pg_name (i := 7) sc_names_of.nd rfl (Or.inl rfl)) pgs_nil))))))
    (pss_cons (ps_if (pt_cmpR op_in_seq (pv 4) (pe_tup (pa_cons pe_str (pa_cons pe_str (pa_cons pe_str pa_nil)))) (by rfl)) (pss_one (ps_dput (hu_of hr) (pv 3) (pv 5) pe_bl rfl)) pss_nil)
    (pss_one (ps_expr (pe_bm PySem.F.plainAttrs_list PySem.F.slot_list_extend PySem.F.type_list_extend mt_extend (pv 2) (pa_cons (pe_op op_cat (pv 6) (pv 7)) pa_nil)))))))
    (pss_one (ps_ret (pe_callTy call_tuple_of (by rfl) T.n_tuple (by decide +kernel) (pa_cons (pe_callB (call_sortedD rfl) (by rfl) T.n_sorted (by decide +kernel) (pa_cons (pv 3) pa_nil)) pa_nil)))))), ?_⟩
  obtain ⟨p, plan, ra, i0, c, rfl, hp, hR, hO, hi0, hc, hc1, q⟩ := h
  refine ⟨_, rfl, (by show 1 ≤ sizeLine; decide), fun wt hwt => ?_⟩
  refine fun fd hfd => ?_
  have fw : fd ≠ wt := fun e => by rw [e, upd_same] at hfd; cases hfd
  have fd0 : H fd = none := by rw [upd_ne fw] at hfd; exact hfd
  have k0 := (same_new (o := .lst [V.int (i0 : Nat)]) hwt).trans (same_new (o := .dK []) hfd)
  refine ⟨_, _, rfl, ?_⟩
  refine while_by (fun σ H' => ∃ (todo done : List Nat) (keys : List PySem.Str) (kvs : List (Key × V)) (y4 y5 y6 y7 : Option V), σ = [some (.ref p), some (.int (i0 : Nat)), some (.ref wt), some (.ref fd), y4, y5, y6, y7] ∧
      H' wt = some (.lst (numL todo)) ∧ H' fd = some (.dK kvs) ∧ kvs.map (·.1) = keys.map Sum.inr ∧ keys.Nodup ∧ keys.length ≤ done.length ∧ (∀ x, x ∈ keys ↔ ∃ j ∈ done, (rowAt plan j).w ∈ NAMED ∧ (rowAt plan j).n = x) ∧ Same H H' ∧
      done.length + (todo.map c).sum = c i0 ∧ (∀ j ∈ done ++ todo, Rch plan i0 j) ∧ i0 ∈ done ++ todo ∧ ∀ j ∈ done, ∀ k ∈ kidsAt plan j, k ∈ done ++ todo)
    (fun _ H' => match H' wt with
      | some (.lst xs) => (xs.map (vc c)).sum
      | _ => 0) ?_ ?_ ?_
  · refine ⟨[i0], [], [], [], none, none, none, none, rfl, ?_, upd_same, rfl, List.nodup_nil, Nat.le_refl _, fun x => by simp, k0, by simp, fun j hj => ?_, by simp, fun j hj => (nomatch hj)⟩
    · rw [upd_ne (Ne.symm fw), upd_same]; rfl
    · rw [List.nil_append, List.mem_singleton] at hj
      rw [hj]; exact .at
  · rintro σ H' ⟨todo, done, keys, kvs, y4, y5, y6, y7, rfl, hW, hF, hkv, hnd, hkl, hkm, k, hsum, hr1, hin, hcl⟩
    refine ⟨_, rfl, Nat.zero_le _, fun e he => ?_⟩
    have ke := same_new (o := .lst []) he
    refine ⟨.list ((todo.map fun i => ((i : Nat) : Int)).map .int), .list [], .lst (SqL.of (ke _ _ hW)) (by rw [numL_int]; exact dp_ints _), .lst (SqL.of upd_same) .nil, shaped_ints _, rfl, _, rfl, ?_⟩
    have hW1 := ke _ _ hW
    have hF1 := ke _ _ hF
    have k1 := k.trans ke
    generalize upd H' e (.lst []) = H1 at hW1 hF1 k1 ⊢
    rw [eqv_empty]
    rcases List.eq_nil_or_concat todo with rfl | ⟨t, j, rfl⟩
    · refine iteF ?_
      rw [List.append_nil] at hr1 hin hcl
      have hds : done.length = c i0 := by simpa using hsum
      refine ⟨_, rfl, fd, kvs, keys, rfl, .inl hF1, hkv, by omega, fun ys r hp hsort hr => ?_⟩
      refine ⟨r, _, rfl, .inl ⟨SqL.of upd_same, fun l hl => ?_⟩⟩
      refine q _ l ys ((k1.trans (same_new hr)).trans (same_new hl)) (SqT.of upd_same) ⟨hsort, hp.nodup_iff.mpr hnd, fun x => ?_⟩
      have hall : ∀ j, Rch plan i0 j → j ∈ done := fun j h => by
        induction h with
        | «at» => exact hin
        | kid _ hk ih => exact hcl _ ih _ hk
      rw [hp.mem_iff, hkm x]
      constructor
      · rintro ⟨j, h1, h2⟩
        exact ⟨j, hr1 j h1, h2⟩
      · rintro ⟨j, h1, h2⟩
        exact ⟨j, hall j h1, h2⟩
    · rw [List.concat_eq_append] at hW hW1 hsum hr1 hin hcl ⊢
      have hemp : (!((t ++ [j]).map fun i => ((i : Nat) : Int)).isEmpty) = true := by
        cases t <;> rfl
      rw [hemp]
      refine iteT ?_
      have hj : Rch plan i0 j := hr1 j (by simp)
      have hjl := hj.lt hO.1 hi0
      have hcj := hc j hjl
      obtain ⟨m1, m2⟩ := kids_small hO hjl
      have hlen : (t ++ [j]).length ≤ (((t ++ [j])).map c).sum := le_sum c (t ++ [j]) fun x hx => by
        have := hc x ((hr1 x (List.mem_append_right _ hx)).lt hO.1 hi0)
        omega
      have wf : wt ≠ fd := Ne.symm fw
      have hmu : (match H' wt with | some (.lst xs) => (xs.map (vc c)).sum | _ => 0) = (t.map c).sum + c j := by
        rw [hW]
        show ((numL (t ++ [j])).map (vc c)).sum = _
        rw [vc_numL, List.map_append, List.sum_append]
        simp
      rw [List.map_append, List.sum_append] at hsum hlen
      simp only [List.map_cons, List.map_nil, List.sum_cons, List.sum_nil, List.length_append, List.length_singleton] at hsum hlen
      have fin : ∀ (H3 : Hp) (keys' : List PySem.Str) (kvs' : List (Key × V)) (y4 y5 y6 y7 : Option V), H3 wt = some (.lst (numL t ++ numL (kidsAt plan j))) → H3 fd = some (.dK kvs') → kvs'.map (·.1) = keys'.map Sum.inr → keys'.Nodup → keys'.length ≤ done.length + 1 →
          (∀ x, x ∈ keys' ↔ ∃ j' ∈ done ++ [j], (rowAt plan j').w ∈ NAMED ∧ (rowAt plan j').n = x) → Same H H3 → (∃ (todo done : List Nat) (keys : List PySem.Str) (kvs : List (Key × V)) (z4 z5 z6 z7 : Option V), [some (V.ref p), some (V.int (i0 : Nat)), some (V.ref wt), some (V.ref fd), y4, y5, y6, y7] = [some (V.ref p), some (V.int (i0 : Nat)), some (V.ref wt), some (V.ref fd), z4, z5, z6, z7] ∧
            H3 wt = some (.lst (numL todo)) ∧ H3 fd = some (.dK kvs) ∧ kvs.map (·.1) = keys.map Sum.inr ∧ keys.Nodup ∧ keys.length ≤ done.length ∧ (∀ x, x ∈ keys ↔ ∃ j ∈ done, (rowAt plan j).w ∈ NAMED ∧ (rowAt plan j).n = x) ∧ Same H H3 ∧
            done.length + (todo.map c).sum = c i0 ∧ (∀ j ∈ done ++ todo, Rch plan i0 j) ∧ i0 ∈ done ++ todo ∧ ∀ j ∈ done, ∀ k ∈ kidsAt plan j, k ∈ done ++ todo) ∧
            (match H3 wt with | some (.lst xs) => (xs.map (vc c)).sum | _ => 0) < (match H' wt with | some (.lst xs) => (xs.map (vc c)).sum | _ => 0) := by
        intro H3 keys' kvs' y4 y5 y6 y7 w3 f3 kv3 nd3 kl3 km3 k3
        refine ⟨⟨t ++ kidsAt plan j, done ++ [j], keys', kvs', y4, y5, y6, y7, rfl, by rw [numL_append]; exact w3, f3, kv3, nd3, by rw [List.length_append]; exact kl3, km3, k3, ?_, ?_, ?_, ?_⟩, ?_⟩
        · rw [List.length_append, List.length_singleton, List.map_append, List.sum_append]
          omega
        · intro x hx
          simp only [List.mem_append, List.mem_singleton] at hx
          rcases hx with (h | h) | h | h
          · exact hr1 x (by simp [h])
          · exact hr1 x (by simp [h])
          · exact hr1 x (by simp [h])
          · exact hj.kid h
        · simp only [List.mem_append, List.mem_singleton] at hin ⊢
          rcases hin with h | h | h <;> simp [h]
        · intro x hx y hy
          rcases List.mem_append.mp hx with h | h
          · have q2 := hcl x h y hy
            simp only [List.mem_append, List.mem_singleton] at q2 ⊢
            rcases q2 with h | h | h <;> simp [h]
          · rw [List.mem_singleton] at h
            subst h
            simp [hy]
        · rw [hmu, w3]
          show ((numL t ++ numL (kidsAt plan j)).map (vc c)).sum < _
          rw [← numL_append, vc_numL, List.map_append, List.sum_append]
          omega
      -- plan[waiting.pop()]
      have hlast : (numL (t ++ [j]))[(numL (t ++ [j])).length - 1]? = some (.int (j : Nat)) := by
        rw [numL_append, List.length_append, List.getElem?_append_right (by simp [numL])]
        simp [numL]
      have hdrop : (numL (t ++ [j])).dropLast = numL t := by
        rw [numL_append]
        exact List.dropLast_concat
      have hp1 := k1 _ _ hp
      have pw : p ≠ wt := fun e => by rw [e, hwt] at hp; cases hp
      refine ⟨_, rfl, _, rfl, .inl ⟨rfl, _, SqL.of hW1⟩, wt, _, _, rfl, rfl, hW1, hlast, ?_⟩
      rw [hdrop]
      have k2 : Same H (upd H1 wt (.lst (numL t))) := fun x o e => by rw [upd_ne (ne_of_none e hwt)]; exact k1 _ _ e
      have hW2 : (upd H1 wt (.lst (numL t))) wt = some (.lst (numL t)) := upd_same
      have hF2 : (upd H1 wt (.lst (numL t))) fd = some (.dK kvs) := by rw [upd_ne fw]; exact hF1
      generalize upd H1 wt (.lst (numL t)) = H2 at k2 hW2 hF2 ⊢
      obtain ⟨f, tt, r1, r2, r3, r4⟩ := row_at (k2 _ _ hp) (hR.kp (Kp.of k2)) hjl
      refine ⟨p, _, _, _, rfl, rfl, SqL.of (k2 _ _ hp), r1, _, _, rfl, SqT.of r2, rfl, _, _, rfl, _, _, rfl, _, _, rfl, _, _, rfl, rfl, ?_⟩
      refine ⟨_, rfl, ?_⟩
      refine in_words (L := ["call", "part", "given"]) (fun q h => h) (by decide) ?_
      intro H3 k3
      have hnm : ∀ x : PySem.Str, x ∈ (["call", "part", "given"] : List PySem.Str) ↔ x ∈ NAMED := fun x => by
        simp only [NAMED, List.mem_cons, List.not_mem_nil, or_false]
        constructor
        · rintro (h | h | h) <;> simp [h]
        · rintro (h | h | h) <;> simp [h]
      have cat : ∀ (H4 : Hp) (Q2 : VK), Same H4 H4 → H4 f = some (.lst (numL (rowAt plan j).fs)) → H4 tt = some (.lst (numL (rowAt plan j).ts)) → (∀ c2, H4 c2 = none → Q2 (.ref c2) (upd H4 c2 (.lst (numL (kidsAt plan j))))) → rCat (.ref f) (.ref tt) H4 Q2 := fun H4 Q2 _ h1 h2 q2 =>
        ⟨f, tt, _, _, rfl, rfl, h1, h2, by rw [numL_length, numL_length, sizeLine_eq]; omega, fun c2 hc2 => by rw [← numL_append]; exact q2 c2 hc2⟩
      refine ⟨fun e => iteT ?_, fun e => iteF ?_⟩
      · have e' := (hnm _).mp e
        have hF3 := k3 _ _ hF2
        have hkl2 : kvs.length ≤ 62 := by
          have e1 := congrArg List.length hkv
          rw [List.length_map, List.length_map] at e1
          omega
        refine ⟨_, rfl, _, rfl, fd, _, rfl, DPut.k (k := .inr (rowAt plan j).n) hF3 (by rw [sizeLine_eq]; omega), ?_⟩
        have hF4 : (upd H3 fd (.dK (putK kvs (.inr (rowAt plan j).n) (.bl true)))) fd = some (.dK (putK kvs (.inr (rowAt plan j).n) (.bl true))) := upd_same
        have hW4 : (upd H3 fd (.dK (putK kvs (.inr (rowAt plan j).n) (.bl true)))) wt = some (.lst (numL t)) := by rw [upd_ne wf]; exact k3 _ _ hW2
        have k4 : Same H (upd H3 fd (.dK (putK kvs (.inr (rowAt plan j).n) (.bl true)))) := fun x o e => by rw [upd_ne (ne_of_none e fd0)]; exact k3 _ _ (k2 _ _ e)
        have hf4 : (upd H3 fd (.dK (putK kvs (.inr (rowAt plan j).n) (.bl true)))) f = some (.lst (numL (rowAt plan j).fs)) := by
          have h := k3 _ _ r3
          rw [upd_ne (fun e => by rw [e, hF3] at h; cases h)]; exact h
        have ht4 : (upd H3 fd (.dK (putK kvs (.inr (rowAt plan j).n) (.bl true)))) tt = some (.lst (numL (rowAt plan j).ts)) := by
          have h := k3 _ _ r4
          rw [upd_ne (fun e => by rw [e, hF3] at h; cases h)]; exact h
        generalize upd H3 fd (.dK (putK kvs (.inr (rowAt plan j).n) (.bl true))) = H4 at hF4 hW4 k4 hf4 ht4 ⊢
        refine ⟨_, rfl, .inl ⟨rfl, _, SqL.of hW4⟩, _, rfl, _, rfl, cat _ _ (Same.refl _) hf4 ht4 fun c2 hc2 => ?_⟩
        have wc : wt ≠ c2 := ne_of_none hW4 hc2
        have fc : fd ≠ c2 := ne_of_none hF4 hc2
        refine ⟨wt, c2, _, _, rfl, rfl, by rw [upd_ne wc]; exact hW4, upd_same, by rw [numL_length, numL_length, sizeLine_eq]; have : (kidsAt plan j).length ≤ 6 := (by show (_ ++ _ : List Nat).length ≤ _; rw [List.length_append]; omega); omega, ?_⟩
        exact fin _ (ins (rowAt plan j).n keys) _ _ _ _ _ upd_same (by rw [upd_ne fw, upd_ne fc]; exact hF4) (put_keys hkv) (ins_nodup hnd) (by have := ins_len (rowAt plan j).n keys; omega) (fun x => by
          rw [mem_ins, hkm x]
          constructor
          · rintro (⟨m, h1, h2⟩ | h)
            · exact ⟨m, List.mem_append_left _ h1, h2⟩
            · exact ⟨j, List.mem_append_right _ (by simp), e', h.symm⟩
          · rintro ⟨m, h1, h2, h3⟩
            rcases List.mem_append.mp h1 with h | h
            · exact .inl ⟨m, h, h2, h3⟩
            · rw [List.mem_singleton] at h
              subst h
              exact .inr h3.symm) fun x o e => by
          rw [upd_ne (ne_of_none e hwt)]
          exact same_new hc2 _ _ (k4 _ _ e)
      · have e' : (rowAt plan j).w ∉ NAMED := fun h => e ((hnm _).mpr h)
        refine ⟨_, rfl, .inl ⟨rfl, _, SqL.of (k3 _ _ hW2)⟩, _, rfl, _, rfl, cat _ _ (Same.refl _) (k3 _ _ r3) (k3 _ _ r4) fun c2 hc2 => ?_⟩
        have wc : wt ≠ c2 := ne_of_none (k3 _ _ hW2) hc2
        have fc : fd ≠ c2 := ne_of_none (k3 _ _ hF2) hc2
        refine ⟨wt, c2, _, _, rfl, rfl, by rw [upd_ne wc]; exact (k3 _ _ hW2), upd_same, by rw [numL_length, numL_length, sizeLine_eq]; have : (kidsAt plan j).length ≤ 6 := (by show (_ ++ _ : List Nat).length ≤ _; rw [List.length_append]; omega); omega, ?_⟩
        exact fin _ keys _ _ _ _ _ upd_same (by rw [upd_ne fw, upd_ne fc]; exact (k3 _ _ hF2)) hkv hnd (by omega) (fun x => by
          rw [hkm x]
          constructor
          · rintro ⟨m, h1, h2⟩
            exact ⟨m, List.mem_append_left _ h1, h2⟩
          · rintro ⟨m, h1, h2, h3⟩
            rcases List.mem_append.mp h1 with h | h
            · exact ⟨m, h, h2, h3⟩
            · rw [List.mem_singleton] at h
              subst h
              exact absurd h2 e') fun x o e => by
          rw [upd_ne (ne_of_none e hwt)]
          exact same_new hc2 _ _ ((k2.trans k3) _ _ e)
  · rintro σ H' Q1 Q2 hQ h
    obtain ⟨x, h1, h2, h3⟩ := h
    refine ⟨x, h1, h2, fun e he => ?_⟩
    obtain ⟨d1, d2, a1, a2, a3, a4, k, ek, h5⟩ := h3 e he
    exact ⟨d1, d2, a1, a2, a3, a4, k, ek, hQ _ _ h5⟩
/-- a while, then the rest: R where it ends -/
theorem while_then {c : TT} {tb u : TS} {D : Ends} {σ : L2.St} {H : Hp} (Pv : L2.St → Hp → Prop) (μ : L2.St → Hp → Nat) (R : L2.St → Hp → Prop) (h0 : Pv σ H) (after : ∀ σ H, R σ H → u D σ H)
    (hs : (∀ σ H, R σ H → u D σ H) → ∀ σ H, Pv σ H → c σ H fun b H1 => if b = true then ∃ N : L2.St → Hp → Prop, (∀ σ' H', N σ' H' → ∃ m', m' < μ σ H ∧ m' = μ σ' H' ∧ Pv σ' H') ∧ tb { D with nx := N, ct := N, bk := u D } σ H1 else u D σ H1) : tSeq (tWhile c tb) u D σ H := by
  refine ⟨fun m σ H => m = μ σ H ∧ Pv σ H, ⟨_, rfl, h0⟩, ?_⟩
  rintro m σ H ⟨rfl, p⟩
  exact hs after σ H p
/-- what a turn leaves -/
theorem turn_of {Pv : L2.St → Hp → Prop} {μ : L2.St → Hp → Nat} {n : Nat} : ∀ σ' H', (Pv σ' H' ∧ μ σ' H' < n) → ∃ m', m' < n ∧ m' = μ σ' H' ∧ Pv σ' H' := fun σ' H' h => ⟨_, h.2, rfl, h.1⟩
def sp_way (K : PySem.W.Frag) : Sp := fun vs H Q _ => ∃ (w l p : Addr) (C : Nat) (plan : List Row) (ra : List Addr) (i : Nat), vs = [.ref w, .ref p, .int (i : Nat)] ∧ Well H w l C ∧ C + 300 < LIM ∧ H p = some (.lst (ra.map V.ref)) ∧ p ∉ [w, l] ∧ Rows H [w, l] ra plan ∧ PlanOk plan ∧ i < plan.length ∧ plan.length ≤ 100 ∧
  ∀ (H' : Hp) (r : Addr) (zs : List Int), Kp [w, l] H H' → Well H' w l (C + 300) → SqT K H' r (zs.map V.int) → Q (.ref r) H'
theorem ok_way (T : Txt K mg) : FnOk P w K mg base CX0 3 T.a_way T.d_way P_way (sp_way K) := by
  refine T.F_way.ok sc_way (fun vs H Q E h => by obtain ⟨w, l, p, C, plan, ra, i, rfl, _⟩ := h; rfl) (fun cdv A outer s H vs Q E hr h => ?_)
  refine ⟨_, (pss_cons (ps_set (i := 3) sc_way.nd rfl (Or.inl rfl) (pe_lst pa_nil))
    (pss_cons (ps_while PassesOwn.never (PW.pt (pw_and (pt_cmpR op_gt (pe_callB call_len_seq (by rfl) T.n_len (by decide +kernel) (pa_cons (pe_op op_cat (pe_ix ix_tup (pe_ix ix_list (pv 1) (pv 2) (fun _ _ => rfl)) pe_int (fun _ _ => rfl)) (pe_ix ix_tup (pe_ix ix_list (pv 1) (pv 2) (fun _ _ => rfl)) pe_int (fun _ _ => rfl))) pa_nil)) pe_int (nomark _)) (pw_and1 (pt_cmpR op_gt (pe_call (ok_drawn T) (hr.mono (by decide)) (by rfl) T.g_drawn T.F_drawn.kp T.b_drawn .nil pass0 (pa_cons (pv 0) (pa_cons pe_int pa_nil))) pe_int (nomark _))))) (pss_cons (ps_set (i := 4) sc_way.nd rfl (Or.inl rfl) (pe_op op_cat (pe_ix ix_tup (pe_ix ix_list (pv 1) (pv 2) (fun _ _ => rfl)) pe_int (fun _ _ => rfl)) (pe_ix ix_tup (pe_ix ix_list (pv 1) (pv 2) (fun _ _ => rfl)) pe_int (fun _ _ => rfl))))
    (pss_cons (ps_expr (pe_bm PySem.F.plainAttrs_list PySem.F.slot_list_append PySem.F.type_list_append mt_append (pv 3) (pa_cons (pe_call (ok_drawn T) (hr.mono (by decide)) (by rfl) T.g_drawn T.F_drawn.kp T.b_drawn .nil pass0 (pa_cons (pv 0) (pa_cons (pe_callB call_len_seq (by rfl) T.n_len (by decide +kernel) (pa_cons (pv 4) pa_nil)) pa_nil))) pa_nil)))
    (pss_one (ps_set (i := 2) sc_way.nd rfl (Or.inl rfl) (pe_ix ix_list (pv 4) (pe_ix ix_list (pv 3) (pe_un un_neg pe_int) (fun _ _ => rfl)) (fun _ _ => rfl)))))))
    (pss_cons (ps_set (i := 5) sc_way.nd rfl (Or.inl rfl) (pe_callB call_len_seq (by rfl) T.n_len (by decide +kernel) (pa_cons (pe_op op_cat (pe_ix ix_tup (pe_ix ix_list (pv 1) (pv 2) (fun _ _ => rfl)) pe_int (fun _ _ => rfl)) (pe_ix ix_tup (pe_ix ix_list (pv 1) (pv 2) (fun _ _ => rfl)) pe_int (fun _ _ => rfl))) pa_nil)))
    (pss_one (ps_ret (pe_callTy call_tuple_of (by rfl) T.n_tuple (by decide +kernel) (pa_cons (pe_op op_cat (pv 3) (pe_call (ok_one_of T) (hr.mono (by decide)) (by rfl) T.g_one_of T.F_one_of.kp T.b_one_of .nil pass0 (pa_cons (pv 0) (pa_cons (pe_lst (pa_cons (pe_lst pa_nil) (pa_cons (pe_lst pa_nil) (pa_cons (pe_lst (pa_cons (pv 5) pa_nil)) (pa_cons (pe_lst (pa_cons (pe_un un_neg pe_int) pa_nil)) (pa_cons (pe_lst (pa_cons (pv 5) (pa_cons pe_int pa_nil))) (pa_cons (pe_lst (pa_cons (pe_op op_pow pe_int pe_int) pa_nil)) pa_nil))))))) pa_nil)))) pa_nil))))))), ?_⟩
  obtain ⟨w, l, p, C, plan, ra, i0, rfl, hW, hC, hp, np, hR, hO, hi0, hpl, q⟩ := h
  refine ⟨Nat.zero_le _, fun fd hfd => ?_⟩
  have nfd := hW.ne hfd
  dsimp only [gName]
  refine while_then (fun σ H' => ∃ (j : Nat) (fs : List Nat) (y4 y5 : Option V), σ = [some (.ref w), some (.ref p), some (.int (j : Nat)), some (.ref fd), y4, y5] ∧ j ≤ i0 ∧ fs.length ≤ i0 - j ∧ H' fd = some (.lst (numL fs)) ∧ Kp [w, l] H H' ∧ Well H' w l (C + 2 * (i0 - j)))
    (fun σ _ => match σ with
      | [_, _, some (.int n), _, _, _] => n.toNat
      | _ => 0)
    (fun σ H' => ∃ (j : Nat) (fs : List Nat) (y4 y5 : Option V), σ = [some (.ref w), some (.ref p), some (.int (j : Nat)), some (.ref fd), y4, y5] ∧ j ≤ i0 ∧ fs.length ≤ i0 ∧ H' fd = some (.lst (numL fs)) ∧ Kp [w, l] H H' ∧ Well H' w l (C + 2 * i0 + 1)) ?_ ?_ ?_
  · exact ⟨i0, [], none, none, rfl, Nat.le_refl _, Nat.zero_le _, upd_same, Kp.new hfd, (hW.new nfd).mono (by omega)⟩
  · rintro σ H' ⟨j, fs, y4, y5, rfl, hj, hfl, hF, k, hW1⟩
    have hjl : j < plan.length := Nat.lt_of_le_of_lt hj hi0
    obtain ⟨m1, m2⟩ := kids_small hO hjl
    obtain ⟨f, t, r1, r2, r3, r4⟩ := row_at (k _ _ np hp) (hR.kp k) hjl
    have rp := k _ _ np hp
    refine ⟨_, rfl, _, rfl, p, _, _, _, rfl, rfl, SqL.of rp, r1, _, _, 2, _, rfl, rfl, SqT.of r2, rfl, _, rfl, _, rfl, p, _, _, _, rfl, rfl, SqL.of rp, r1, _, _, 3, _, rfl, rfl, SqT.of r2, rfl, f, t, _, _, rfl, rfl, r3, r4, by rw [numL_length, numL_length, sizeLine_eq]; omega, fun c2 hc2 => ?_⟩
    refine ⟨c2, _, rfl, .inl (SqL.of upd_same), ?_⟩
    have n2 := hW1.ne hc2
    have kc : Kp [w, l] H (upd H' c2 (.lst (numL (rowAt plan j).fs ++ numL (rowAt plan j).ts))) := k.trans (Kp.new hc2)
    have hFc := (same_new (o := .lst (numL (rowAt plan j).fs ++ numL (rowAt plan j).ts)) hc2) _ _ hF
    have hWc := hW1.new (o := .lst (numL (rowAt plan j).fs ++ numL (rowAt plan j).ts)) n2
    generalize (numL (rowAt plan j).fs ++ numL (rowAt plan j).ts).length = M
    generalize upd H' c2 (.lst (numL (rowAt plan j).fs ++ numL (rowAt plan j).ts)) = H2 at kc hFc hWc ⊢
    dsimp only [gName]
    refine ⟨_, rfl, _, rfl, ?_⟩
    refine ⟨Nat.zero_le _, fun a1 g1 => ?_⟩
    have s1 := same_new (o := .lst []) g1
    have f1 : (upd H2 a1 (.lst [])) a1 = some (.lst []) := upd_same
    have w1 := hWc.new (o := .lst []) (hWc.ne g1)
    have d1 := hWc.ne g1
    have u1 := kc.trans (Kp.new (o := .lst []) g1)
    have v1 := s1 _ _ hFc
    generalize upd H2 a1 (.lst []) = G1 at s1 w1 u1 v1 f1 ⊢
    refine ⟨Nat.zero_le _, fun a2 g2 => ?_⟩
    have s2 := same_new (o := .lst []) g2
    have f2 : (upd G1 a2 (.lst [])) a2 = some (.lst []) := upd_same
    have w2 := w1.new (o := .lst []) (w1.ne g2)
    have d2 := w1.ne g2
    have u2 := u1.trans (Kp.new (o := .lst []) g2)
    have v2 := s2 _ _ v1
    replace f1 := s2 _ _ f1
    generalize upd G1 a2 (.lst []) = G2 at s2 w2 u2 v2 f1 f2 ⊢
    refine ⟨_, rfl, (by show 1 ≤ sizeLine; decide), fun a3 g3 => ?_⟩
    have s3 := same_new (o := .lst [V.int M]) g3
    have f3 : (upd G2 a3 (.lst [V.int M])) a3 = some (.lst [V.int M]) := upd_same
    have w3 := w2.new (o := .lst [V.int M]) (w2.ne g3)
    have d3 := w2.ne g3
    have u3 := u2.trans (Kp.new (o := .lst [V.int M]) g3)
    have v3 := s3 _ _ v2
    replace f1 := s3 _ _ f1
    replace f2 := s3 _ _ f2
    generalize upd G2 a3 (.lst [V.int M]) = G3 at s3 w3 u3 v3 f1 f2 f3 ⊢
    refine ⟨_, rfl, (by show 1 ≤ sizeLine; decide), fun a4 g4 => ?_⟩
    have s4 := same_new (o := .lst [V.int (-1)]) g4
    have f4 : (upd G3 a4 (.lst [V.int (-1)])) a4 = some (.lst [V.int (-1)]) := upd_same
    have w4 := w3.new (o := .lst [V.int (-1)]) (w3.ne g4)
    have d4 := w3.ne g4
    have u4 := u3.trans (Kp.new (o := .lst [V.int (-1)]) g4)
    have v4 := s4 _ _ v3
    replace f1 := s4 _ _ f1
    replace f2 := s4 _ _ f2
    replace f3 := s4 _ _ f3
    generalize upd G3 a4 (.lst [V.int (-1)]) = G4 at s4 w4 u4 v4 f1 f2 f3 f4 ⊢
    refine ⟨_, rfl, (by show 2 ≤ sizeLine; decide), fun a5 g5 => ?_⟩
    have s5 := same_new (o := .lst [V.int M, V.int 0]) g5
    have f5 : (upd G4 a5 (.lst [V.int M, V.int 0])) a5 = some (.lst [V.int M, V.int 0]) := upd_same
    have w5 := w4.new (o := .lst [V.int M, V.int 0]) (w4.ne g5)
    have d5 := w4.ne g5
    have u5 := u4.trans (Kp.new (o := .lst [V.int M, V.int 0]) g5)
    have v5 := s5 _ _ v4
    replace f1 := s5 _ _ f1
    replace f2 := s5 _ _ f2
    replace f3 := s5 _ _ f3
    replace f4 := s5 _ _ f4
    generalize upd G4 a5 (.lst [V.int M, V.int 0]) = G5 at s5 w5 u5 v5 f1 f2 f3 f4 f5 ⊢
    refine ⟨_, _, rfl, rfl, ⟨by decide, by decide, by decide⟩, (by show 1 ≤ sizeLine; decide), fun a6 g6 => ?_⟩
    have s6 := same_new (o := .lst [(fun i j : Int => V.int (i ^ j.toNat)) 10 39]) g6
    have f6 : (upd G5 a6 (.lst [(fun i j : Int => V.int (i ^ j.toNat)) 10 39])) a6 = some (.lst [(fun i j : Int => V.int (i ^ j.toNat)) 10 39]) := upd_same
    have w6 := w5.new (o := .lst [(fun i j : Int => V.int (i ^ j.toNat)) 10 39]) (w5.ne g6)
    have d6 := w5.ne g6
    have u6 := u5.trans (Kp.new (o := .lst [(fun i j : Int => V.int (i ^ j.toNat)) 10 39]) g6)
    have v6 := s6 _ _ v5
    replace f1 := s6 _ _ f1
    replace f2 := s6 _ _ f2
    replace f3 := s6 _ _ f3
    replace f4 := s6 _ _ f4
    replace f5 := s6 _ _ f5
    generalize upd G5 a6 (.lst [(fun i j : Int => V.int (i ^ j.toNat)) 10 39]) = G6 at s6 w6 u6 v6 f1 f2 f3 f4 f5 f6 ⊢
    refine ⟨by show 6 ≤ sizeLine; decide, fun a7 g7 => ?_⟩
    have d7 := w6.ne g7
    have f7 : (upd G6 a7 (.lst [V.ref a1, V.ref a2, V.ref a3, V.ref a4, V.ref a5, V.ref a6])) a7 = some (.lst [V.ref a1, V.ref a2, V.ref a3, V.ref a4, V.ref a5, V.ref a6]) := upd_same
    have w7 := w6.new (o := .lst [V.ref a1, V.ref a2, V.ref a3, V.ref a4, V.ref a5, V.ref a6]) d7
    have s7 := same_new (o := .lst [V.ref a1, V.ref a2, V.ref a3, V.ref a4, V.ref a5, V.ref a6]) g7
    have u7 := u6.trans (Kp.of s7)
    have v7 := s7 _ _ v6
    have each : ∀ (i : Nat) (h : i < 6), ∃ (a : Addr) (zs : List Int), [V.ref a1, V.ref a2, V.ref a3, V.ref a4, V.ref a5, V.ref a6][i] = .ref a ∧ a ∉ [w, l] ∧ (upd G6 a7 (.lst [V.ref a1, V.ref a2, V.ref a3, V.ref a4, V.ref a5, V.ref a6])) a = some (.lst (zs.map V.int)) ∧ zs.length ≤ 2
      | 0, _ => ⟨a1, [], rfl, d1, s7 _ _ f1, by decide⟩
      | 1, _ => ⟨a2, [], rfl, d2, s7 _ _ f2, by decide⟩
      | 2, _ => ⟨a3, [(M : Int)], rfl, d3, s7 _ _ f3, (by show 1 ≤ 2; decide)⟩
      | 3, _ => ⟨a4, [-1], rfl, d4, s7 _ _ f4, by decide⟩
      | 4, _ => ⟨a5, [(M : Int), 0], rfl, d5, s7 _ _ f5, (by show 2 ≤ 2; decide)⟩
      | 5, _ => ⟨a6, [10 ^ 39], rfl, d6, s7 _ _ f6, by decide⟩
    generalize upd G6 a7 (.lst [V.ref a1, V.ref a2, V.ref a3, V.ref a4, V.ref a5, V.ref a6]) = G7 at f7 w7 s7 u7 v7 each ⊢
    refine ⟨w, l, a7, _, _, rfl, w7, by omega, d7, SqL.of f7, by show 0 < 6; decide, by show 6 ≤ 1000000; decide, fun H8 i hi k8 hW8 => ?_⟩
    obtain ⟨a, zs, ea, da, fa, hzl⟩ := each i hi
    rw [ea]
    have fa8 := k8 _ _ da fa
    have v8 := k8 _ _ nfd v7
    refine ⟨fd, a, _, _, rfl, rfl, v8, fa8, by rw [numL_length, List.length_map, sizeLine_eq]; omega, fun b hb => ?_⟩
    have nb := hW8.ne hb
    refine ⟨b, _, rfl, .inl ⟨SqL.of upd_same, fun r hr => ?_⟩⟩
    have hW9 := hW8.new (o := .lst (numL fs ++ zs.map V.int)) nb
    refine q _ r ((fs.map fun i => ((i : Nat) : Int)) ++ zs) (((u7.trans k8).trans (Kp.new hb)).trans (Kp.new hr)) ((hW9.new (hW9.ne hr)).mono (by omega)) (SqT.of ?_)
    rw [upd_same, List.map_append, ← numL_int]
  · intro fin
    rintro σ H' ⟨j, fs, y4, y5, rfl, hj, hfl, hF, k, hW1⟩
    have hjl : j < plan.length := Nat.lt_of_le_of_lt hj hi0
    obtain ⟨m1, m2⟩ := kids_small hO hjl
    have hkl : (kidsAt plan j).length ≤ 6 := by
      show (_ ++ _ : List Nat).length ≤ _
      rw [List.length_append]
      omega
    -- the row's numbers, joined
    have cat : ∀ (H4 : Hp), Kp [w, l] H H4 → ∃ f t, atI (ra.map V.ref) ((j : Nat) : Int) = some (.ref (ra.getD j 0)) ∧ H4 p = some (.lst (ra.map V.ref)) ∧ H4 (ra.getD j 0) = some (.tup [.str (rowAt plan j).w, .str (rowAt plan j).n, .ref f, .ref t]) ∧
        ∀ Q2 : VK, (∀ c2, H4 c2 = none → Q2 (.ref c2) (upd H4 c2 (.lst (numL (kidsAt plan j))))) → rCat (.ref f) (.ref t) H4 Q2 := fun H4 k4 => by
      obtain ⟨f, t, r1, r2, r3, r4⟩ := row_at (k4 _ _ np hp) (hR.kp k4) hjl
      exact ⟨f, t, r1, k4 _ _ np hp, r2, fun Q2 q2 => ⟨f, t, _, _, rfl, rfl, r3, r4, by rw [numL_length, numL_length, sizeLine_eq]; omega, fun c2 hc2 => by rw [← numL_append]; exact q2 c2 hc2⟩⟩
    -- what is left at the end
    obtain ⟨f, t, r1, rp, r2, cq⟩ := cat H' k
    refine ⟨_, rfl, _, rfl, p, _, _, _, rfl, rfl, SqL.of rp, r1, _, _, 2, _, rfl, rfl, SqT.of r2, rfl, _, rfl, _, rfl, p, _, _, _, rfl, rfl, SqL.of rp, r1, _, _, 3, _, rfl, rfl, SqT.of r2, rfl, cq _ fun c2 hc2 => ?_⟩
    have n2 := hW1.ne hc2
    refine ⟨c2, _, rfl, .inl (SqL.of upd_same), ?_⟩
    rw [numL_length]
    have kc : Kp [w, l] H (upd H' c2 (.lst (numL (kidsAt plan j)))) := k.trans (Kp.new hc2)
    have hFc : (upd H' c2 (.lst (numL (kidsAt plan j)))) fd = some (.lst (numL fs)) := by rw [upd_ne (ne_of_none hF hc2)]; exact hF
    have hWc := hW1.new (o := .lst (numL (kidsAt plan j))) n2
    generalize upd H' c2 (.lst (numL (kidsAt plan j))) = H2 at kc hFc hWc ⊢
    refine ⟨_, _, rfl, rfl, _, rfl, ?_⟩
    by_cases hk0 : 0 < (kidsAt plan j).length
    · rw [decide_eq_true (by omega)]
      refine iteT ?_
      refine ⟨_, rfl, w, l, 6, _, rfl, hWc, by omega, by decide, by decide, fun H3 r k3 hW3 r0 r1 => ?_⟩
      have k13 := kc.trans k3
      have hF3 := k3 _ _ nfd hFc
      refine ⟨_, _, rfl, rfl, _, rfl, ite2 (fun e => ?_) (fun e => ?_)⟩
      · obtain ⟨f, t, q1, qp, q2, cq2⟩ := cat H3 k13
        refine ⟨_, turn_of, ?_⟩
        refine ⟨_, rfl, _, rfl, p, _, _, _, rfl, rfl, SqL.of qp, q1, _, _, 2, _, rfl, rfl, SqT.of q2, rfl, _, rfl, _, rfl, p, _, _, _, rfl, rfl, SqL.of qp, q1, _, _, 3, _, rfl, rfl, SqT.of q2, rfl, cq2 _ fun c4 hc4 => ?_⟩
        have n4 := hW3.ne hc4
        have k14 : Kp [w, l] H (upd H3 c4 (.lst (numL (kidsAt plan j)))) := k13.trans (Kp.new hc4)
        have hF4 : (upd H3 c4 (.lst (numL (kidsAt plan j)))) fd = some (.lst (numL fs)) := by rw [upd_ne (ne_of_none hF3 hc4)]; exact hF3
        have hW4 := hW3.new (o := .lst (numL (kidsAt plan j))) n4
        have hc4' : (upd H3 c4 (.lst (numL (kidsAt plan j)))) c4 = some (.lst (numL (kidsAt plan j))) := upd_same
        have fc4 : fd ≠ c4 := ne_of_none hF3 hc4
        generalize upd H3 c4 (.lst (numL (kidsAt plan j))) = H4 at k14 hF4 hW4 hc4' ⊢
        refine ⟨_, rfl, .inl ⟨rfl, _, SqL.of hF4⟩, _, rfl, _, rfl, c4, _, rfl, .inl (SqL.of hc4'), ?_⟩
        rw [numL_length]
        refine ⟨w, l, _, _, rfl, hW4, by omega, by omega, by omega, fun H5 m k5 hW5 m0 m1' => ?_⟩
        have k15 := k14.trans k5
        have hF5 := k5 _ _ nfd hF4
        have hc5 := k5 _ _ n4 hc4'
        have hmn : m.toNat < (kidsAt plan j).length := by omega
        have em : m = ((m.toNat : Nat) : Int) := by omega
        refine ⟨fd, _, _, rfl, rfl, hF5, by rw [numL_length, sizeLine_eq]; omega, ?_⟩
        rw [em]
        have hF6 : (upd H5 fd (.lst (numL fs ++ [.int ((m.toNat : Nat) : Int)]))) fd = some (.lst (numL (fs ++ [m.toNat]))) := by rw [upd_same, numL_append]; rfl
        have k16 : Kp [w, l] H (upd H5 fd (.lst (numL fs ++ [.int ((m.toNat : Nat) : Int)]))) := k15.wr (.inr hfd)
        have hW6 := hW5.new (o := .lst (numL fs ++ [.int ((m.toNat : Nat) : Int)])) nfd
        have hc6 : (upd H5 fd (.lst (numL fs ++ [.int ((m.toNat : Nat) : Int)]))) c4 = some (.lst (numL (kidsAt plan j))) := by rw [upd_ne (Ne.symm fc4)]; exact hc5
        generalize upd H5 fd (.lst (numL fs ++ [.int ((m.toNat : Nat) : Int)])) = H6 at hF6 k16 hW6 hc6 ⊢
        have e1 : atI (numL (fs ++ [m.toNat])) (-1) = some (.int ((m.toNat : Nat) : Int)) := by
          rw [numL_append]
          exact atI_last _ _
        have e2 : atI (numL (kidsAt plan j)) ((m.toNat : Nat) : Int) = some (.int ((kidsAt plan j)[m.toNat] : Nat)) := by
          refine atI_nat ?_
          unfold numL
          rw [List.getElem?_map, List.getElem?_eq_getElem hmn]
          rfl
        refine ⟨_, rfl, _, rfl, _, rfl, fd, _, _, _, rfl, rfl, SqL.of hF6, e1, c4, _, _, _, rfl, rfl, SqL.of hc6, e2, ?_⟩
        have hlt : (kidsAt plan j)[m.toNat] < j := hO.1 j hjl _ (List.getElem_mem hmn)
        refine ⟨⟨(kidsAt plan j)[m.toNat], fs ++ [m.toNat], _, _, rfl, by omega, ?_, hF6, k16, hW6.mono (by omega)⟩, ?_⟩
        · rw [List.length_append, List.length_singleton]
          omega
        · show (((kidsAt plan j)[m.toNat] : Nat) : Int).toNat < ((j : Nat) : Int).toNat
          omega
      · exact fin _ _ ⟨j, fs, _, _, rfl, hj, by omega, hF3, k13, hW3.mono (by omega)⟩
    · rw [decide_eq_false (by omega)]
      exact iteF (fin _ _ ⟨j, fs, _, _, rfl, hj, by omega, hFc, kc, hWc.mono (by omega)⟩)
end
end K07
set_option Elab.async false
set_option linter.all false
set_option maxRecDepth 100000
set_option maxHeartbeats 4000000
/-! k07: a row is right. -/
namespace K07
open PySem PySem.Spec PyProof.Rows L2 Zg Zs Zr Zd Zt
theorem mem_le_sum (f : Nat → Nat) : ∀ {l : List Nat} {x : Nat}, x ∈ l → f x ≤ (l.map f).sum
  | y :: l, x, h => by
    rw [List.map_cons, List.sum_cons]
    rcases List.mem_cons.mp h with rfl | h
    · omega
    · have := mem_le_sum f h
      omega
theorem rch_small {plan : List Row} {dp ct : Nat → Nat} (hO : Down plan) (hc : Cnt plan ct) (hd : Dep plan dp) {i j : Nat} (hi : i < plan.length) (r : Rch plan i j) : dp j ≤ dp i ∧ ct j ≤ ct i := by
  induction r with
  | «at» => exact ⟨Nat.le_refl _, Nat.le_refl _⟩
  | kid r hk ih =>
    have hl := r.lt hO hi
    have h1 := (hd _ hl).2 _ hk
    have h2 := hc _ hl
    have h3 := mem_le_sum ct hk
    omega
theorem walk_rch {plan : List Row} {i j : Nat} : ∀ (zs : List Int) (o : Option Nat), (∀ a, o = some a → Rch plan i a) → walkW plan o zs = some j → Rch plan i j
  | [], o, h, e => h j e
  | z :: zs, o, h, e => by
    refine walk_rch zs (stepW plan o z) (fun a ea => ?_) e
    cases o with
    | none => cases ea
    | some b =>
      have e2 : (if 0 ≤ z then (kidsAt plan b)[z.toNat]? else none) = some a := ea
      split at e2
      · exact (h b rfl).kid (List.mem_of_getElem? e2)
      · cases e2
theorem sm_two {d : PyData} {k c : Nat} (h : Sm d k c) : Sm (.list [d, d]) (k + 1) (2 * c + 1) := by
  obtain ⟨h1, h2, h3⟩ := h
  refine ⟨?_, ?_, ?_⟩
  · show (okd d && (okd d && true)) = true
    rw [h1]; rfl
  · show max d.depth (max d.depth 0) + 1 ≤ _
    omega
  · show d.bulk + 1 + (d.bulk + 1 + 0) + 1 ≤ _
    omega
theorem sm_kids {plan : List Row} {dp ct : Nat → Nat} (hO : PlanOk plan) (hc : Cnt plan ct) (hd : Dep plan dp) {i : Nat} (hi : i < plan.length) : Sm (.tuple ((kidsAt plan i).map (dat plan plan.length))) (2 * dp i) (40 * ct i) := by
  obtain ⟨d1, dk⟩ := hd i hi
  obtain ⟨f1, f2, f3⟩ := sm_all (l := kidsAt plan i) (g := dat plan plan.length) (dp := dp) (ct := ct) (k := dp i - 1) fun j hj => ⟨sm_term hO hc hd _ j (kids_lt hO.1 hi hj) (kids_lt hO.1 hi hj), by have := dk j hj; omega⟩
  have := hc i hi
  refine ⟨f1, ?_, ?_⟩
  · show PyData.depthAll _ + 1 ≤ _
    omega
  · show PyData.bulkAll _ + 1 ≤ _
    omega
theorem sm_names : ∀ {ys : List PySem.Str}, (∀ y ∈ ys, Nm y) → okAll (ys.map .str) = true ∧ PyData.depthAll (ys.map .str) = 0 ∧ PyData.bulkAll (ys.map .str) ≤ 9 * ys.length
  | [], _ => ⟨rfl, rfl, Nat.zero_le _⟩
  | y :: ys, h => by
    obtain ⟨a1, a2, a3⟩ := sm_names (ys := ys) fun z hz => h z (List.mem_cons_of_mem _ hz)
    obtain ⟨b1, b2⟩ := h y List.mem_cons_self
    refine ⟨?_, ?_, ?_⟩
    · show (PyData.strOk y && okAll (ys.map .str)) = true
      rw [b2, a1]; rfl
    · show max 0 (PyData.depthAll (ys.map .str)) = 0
      omega
    · show y.cps.size + 1 + PyData.bulkAll (ys.map .str) ≤ 9 * (ys.length + 1)
      have b1' : y.cps.size ≤ 8 := b1
      omega
theorem dp_strs {K : PySem.W.Frag} {H : Hp} (ys : List PySem.Str) : DpAll K H (ys.map V.str) (ys.map PyData.str) := dpAll_of V.str PyData.str fun x _ => .str x
theorem IsNames.nm {plan : List Row} {i : Nat} {ys : List PySem.Str} (hO : PlanOk plan) (hi : i < plan.length) (h : IsNames plan i ys) : ∀ y ∈ ys, Nm y := fun y hy => by
  obtain ⟨j, hj, _, e⟩ := (h.2.2 y).mp hy
  rw [← e]
  exact (hO.2 j (hj.lt hO.1 hi)).1
def optD (plan : List Row) : Option Nat → PyData
  | none => .none
  | some i => dat plan plan.length i
theorem dp_opt {K : PySem.W.Frag} {H : Hp} {plan : List Row} {adr : List Addr} (hT : Tms K H plan adr) {o : Option Nat} (ho : ∀ j, o = some j → j < plan.length) : Dp K H (opt adr o) (optD plan o) := by
  cases o with
  | none => exact .non
  | some j => exact dp_term hT _ j (ho j rfl) (ho j rfl)
theorem Sm.rp {d : PyData} {k c : Nat} (h : Sm d k c) (hk : k ≤ 60) (hc : c ≤ 300000) : d.showable = true ∧ d.hasDict = false ∧ d.depth ≤ 60 ∧ d.shown.length ≤ sizeLine :=
  ⟨(okd_show d h.1).1, (okd_show d h.1).2.2, Nat.le_trans h.2.1 hk, okd_fits h.1 (by have := h.2.2; omega)⟩
theorem Tms.kp {K : PySem.W.Frag} {H H' : Hp} {plan : List Row} {adr : List Addr} {w l : Addr} {C : Nat} (h : Tms K H plan adr) (hW : Well H w l C) (k : Kp [w, l] H H') : Tms K H' plan adr := ⟨h.1, fun i hi => (h.2 i hi).keep fun a xs q => sqt_kp hW k q⟩
theorem dp_ints2 {K : PySem.W.Frag} {H : Hp} (a b : Int) : DpAll K H [V.int a, V.int b] [.int a, .int b] := .cons (.int a) (.cons (.int b) .nil)
section
variable {P : Program} {w : World} {K : PySem.W.Frag} {mg : PySem.Str → Option Value} {base : Heap}
def sp_row_right (K : PySem.W.Frag) : Sp := fun vs H Q _ => ∃ (w l p g : Addr) (C : Nat) (plan : List Row) (ra adr : List Addr) (i : Nat) (dp ct : Nat → Nat), vs = [.ref w, .ref p, .ref g, .int (i : Nat), .int (ct i : Nat)] ∧ Well H w l C ∧ C + 1300 < LIM ∧ H p = some (.lst (ra.map V.ref)) ∧ p ∉ [w, l] ∧ Rows H [w, l] ra plan ∧ PlanOk plan ∧
  i < plan.length ∧ plan.length ≤ 100 ∧ H g = some (.lst (adr.map V.ref)) ∧ g ∉ [w, l] ∧ adr.length = plan.length ∧ Tms K H plan adr ∧ Cnt plan ct ∧ Dep plan dp ∧ ct i ≤ 60 ∧ dp i ≤ 12 ∧
  ∀ (H' : Hp), Kp [w, l] H H' → Well H' w l (C + 1200) → Q (.bl true) H'
theorem ok_row_right (T : Txt K mg) : FnG P w K mg base 5 T.a_row_right T.d_row_right P_row_right (sp_row_right K) := by
  refine okG T.F_row_right sc_row_right (fun vs H Q E h => by obtain ⟨w, l, p, g, C, plan, ra, adr, i, dp, ct, rfl, _⟩ := h; rfl) (fun cdv A outer s H vs Q hgd hr h => ?_)
  refine ⟨_, (pss_cons (ps_par (i := 5) (j := 6) (by rfl) sc_row_right.nd rfl rfl (by decide) rfl rfl (pa_cons (pe_ix ix_list (pv 2) (pv 3) (fun _ _ => rfl)) (pa_cons (pe_callB (cr_repr hgd hr) (by rfl) T.n_repr (by decide +kernel) (pa_cons (pe_ix ix_list (pv 2) (pv 3) (fun _ _ => rfl)) pa_nil)) pa_nil)) (by rfl))
    (pss_cons (ps_set (i := 7) sc_row_right.nd rfl (Or.inl rfl) (pe_callTy call_tuple_of (by rfl) T.n_tuple (by decide +kernel) (pa_cons (pe_lc (own := [("number", 8)]) rfl sc_row_right.nd (pi_list (pe_op op_cat (pe_ix ix_tup (pe_ix ix_list (pv 1) (pv 3) (fun _ _ => rfl)) pe_int (fun _ _ => rfl)) (pe_ix ix_tup (pe_ix ix_list (pv 1) (pv 3) (fun _ _ => rfl)) pe_int (fun _ _ => rfl)))) (blkOk_by (own := [("number", 8)]) (N := N_row_right) (sc := defScope s_row_right) (by decide +kernel)) (fun _ _ _ _ _ => (pg_name (i := 8) sc_row_right.nd rfl (Or.inl rfl))) (fun _ _ _ _ _ => pts_nil) (fun _ _ _ _ _ => (pe_ix (show IxR _ (rIxL K) from ix_list) (pv 2) (pv 8) (fun _ _ => rfl)))) pa_nil)))
    (pss_cons (ps_if (pt_cmpR op_ne (pe_callB (cr_repr hgd hr) (by rfl) T.n_repr (by decide +kernel) (pa_cons (pe_lst (pa_cons (pe_call (ok_parts_of T) (hr.mono (by decide)) (by rfl) T.g_parts_of T.F_parts_of.kp T.b_parts_of .nil pass0 (pa_cons (pv 5) pa_nil)) (pa_cons (pe_callK0 (ok_parts_of T) (hr.mono (by decide)) (by rfl) T.g_parts_of T.F_parts_of.kp T.kb_parts_of_term pass0 (pk_cons (pv 5) pk_nil)) pa_nil))) pa_nil)) (pe_callB (cr_repr hgd hr) (by rfl) T.n_repr (by decide +kernel) (pa_cons (pe_lst (pa_cons (pv 7) (pa_cons (pv 7) pa_nil))) pa_nil)) (nomark _)) (pss_one (ps_ret pe_bl)) pss_nil)
    (pss_cons (ps_if (pt_cmpR (op_neD hr.units) (pe_lst (pa_cons (pe_call (ok_size_of T) (hr.mono (by decide)) (by rfl) T.g_size_of T.F_size_of.kp T.b_size_of .nil pass0 (pa_cons (pv 5) pa_nil)) (pa_cons (pe_callK0 (ok_size_of T) (hr.mono (by decide)) (by rfl) T.g_size_of T.F_size_of.kp T.kb_size_of_term pass0 (pk_cons (pv 5) pk_nil)) pa_nil))) (pe_lst (pa_cons (pv 4) (pa_cons (pv 4) pa_nil))) (nomark _)) (pss_one (ps_ret pe_bl)) pss_nil)
    (pss_cons (ps_set (i := 9) sc_row_right.nd rfl (Or.inl rfl) (pe_call (ok_names_of T) (hr.mono (by decide)) (by rfl) T.g_names_of T.F_names_of.kp T.b_names_of .nil pass0 (pa_cons (pv 1) (pa_cons (pv 3) pa_nil))))
    (pss_cons (ps_if (pt_cmpR op_ne (pe_callB (cr_repr hgd hr) (by rfl) T.n_repr (by decide +kernel) (pa_cons (pe_lst (pa_cons (pe_call (ok_names_in T) (hr.mono (by decide)) (by rfl) T.g_names_in T.F_names_in.kp T.b_names_in .nil pass0 (pa_cons (pv 5) pa_nil)) (pa_cons (pe_callK0 (ok_names_in T) (hr.mono (by decide)) (by rfl) T.g_names_in T.F_names_in.kp T.kb_names_in_term pass0 (pk_cons (pv 5) pk_nil)) pa_nil))) pa_nil)) (pe_callB (cr_repr hgd hr) (by rfl) T.n_repr (by decide +kernel) (pa_cons (pe_lst (pa_cons (pv 9) (pa_cons (pv 9) pa_nil))) pa_nil)) (nomark _)) (pss_one (ps_ret pe_bl)) pss_nil)
    (pss_cons (ps_for PassesOwn.never rfl (pi_range1 (by rfl) T.n_range (pa_cons pe_int pa_nil)) (pg_name (i := 10) sc_row_right.nd rfl (Or.inl rfl)) (pss_cons (ps_set (i := 11) sc_row_right.nd rfl (Or.inl rfl) (pe_call (ok_way T) (hr.mono (by decide)) (by rfl) T.g_way T.F_way.kp T.b_way .nil pass0 (pa_cons (pv 0) (pa_cons (pv 1) (pa_cons (pv 3) pa_nil)))))
    (pss_cons (ps_set (i := 12) sc_row_right.nd rfl (Or.inl rfl) (pe_call (ok_walked T) (hr.mono (by decide)) (by rfl) T.g_walked T.F_walked.kp T.b_walked .nil pass0 (pa_cons (pv 1) (pa_cons (pv 3) (pa_cons (pv 11) pa_nil)))))
    (pss_cons (ps_set (i := 13) sc_row_right.nd rfl (Or.inl rfl) (pe_ifExp (pt_cmpR op_isN (pv 12) pe_non (nomark _)) pe_non (pe_ix ix_list (pv 2) (pv 12) (fun _ _ => rfl))))
    (pss_one (ps_if (pt_cmpR op_ne (pe_callB (cr_repr hgd hr) (by rfl) T.n_repr (by decide +kernel) (pa_cons (pe_lst (pa_cons (pe_call (ok_part_at T) (hr.mono (by decide)) (by rfl) T.g_part_at T.F_part_at.kp T.b_part_at .nil pass0 (pa_cons (pv 5) (pa_cons (pv 11) pa_nil))) (pa_cons (pe_callK0 (ok_part_at T) (hr.mono (by decide)) (by rfl) T.g_part_at T.F_part_at.kp T.kb_part_at_way_term pass0 (pk_cons (pv 11) (pk_cons (pv 5) pk_nil))) pa_nil))) pa_nil)) (pe_callB (cr_repr hgd hr) (by rfl) T.n_repr (by decide +kernel) (pa_cons (pe_lst (pa_cons (pv 13) (pa_cons (pv 13) pa_nil))) pa_nil)) (nomark _)) (pss_one (ps_ret pe_bl)) pss_nil))))))
    (pss_one (ps_ret (pe_and (pe_cmpR op_eq (pe_callB (cr_repr hgd hr) (by rfl) T.n_repr (by decide +kernel) (pa_cons (pe_call (ok_part_at T) (hr.mono (by decide)) (by rfl) T.g_part_at T.F_part_at.kp T.b_part_at .nil pass0 (pa_cons (pv 5) (pa_cons (pe_tup pa_nil) pa_nil))) pa_nil)) (pv 6) (nomark _)) (pe_one (pe_cmpR op_eq (pe_callB (cr_repr hgd hr) (by rfl) T.n_repr (by decide +kernel) (pa_cons (pv 5) pa_nil)) (pv 6) (nomark _))))))))))))), ?_⟩
  obtain ⟨w, l, p, g, C, plan, ra, adr, i, dp, ct, rfl, hW, hC, hp, np, hR, hO, hi, hpl, hg, ng, hal, hT, hct, hdp, hc60, hd12, q⟩ := h
  have tk : ∀ {H'}, Kp [w, l] H H' → Tms K H' plan adr := fun k => hT.kp hW k
  have hat : ∀ j, j < plan.length → atI (adr.map V.ref) ((j : Nat) : Int) = some (.ref (adr.getD j 0)) := fun j hj => by
    refine atI_nat ?_
    rw [List.getElem?_map, List.getElem?_eq_getElem (by rw [hal]; exact hj), List.getD_eq_getElem?_getD, List.getElem?_eq_getElem (by rw [hal]; exact hj)]
    rfl
  have smT : ∀ {j}, Rch plan i j → Sm (dat plan plan.length j) 24 2400 := fun {j} r => by
    obtain ⟨b1, b2⟩ := rch_small hO.1 hct hdp hi r
    have hl := r.lt hO.1 hi
    obtain ⟨c1, c2, c3⟩ := sm_term hO hct hdp _ j hl hl
    exact ⟨c1, by omega, by omega⟩
  -- shape, was
  refine ⟨_, rfl, _, rfl, g, _, _, _, rfl, rfl, SqL.of hg, hat i hi, ?_⟩
  refine ⟨_, rfl, _, rfl, g, _, _, _, rfl, rfl, SqL.of hg, hat i hi, ?_⟩
  obtain ⟨w1, w2, w3, w4⟩ := (smT .at).rp (by decide) (by decide)
  refine ⟨_, _, rfl, dp_term hT _ i hi hi, w1, w2, w3, w4, ?_⟩
  refine ⟨_, _, rfl, ?_⟩
  -- inner
  obtain ⟨f, t, r1, r2, r3, r4⟩ := row_at hp hR hi
  obtain ⟨m1, m2⟩ := kids_small hO hi
  have hkl : (kidsAt plan i).length ≤ 6 := by
    show (_ ++ _ : List Nat).length ≤ _
    rw [List.length_append]
    omega
  have hkd := hO.1 i hi
  have hkn : ∀ z ∈ kidsAt plan i, z < adr.length := fun z hz => by rw [hal]; exact kids_lt hO.1 hi hz
  refine ⟨_, rfl, _, rfl, p, _, _, _, rfl, rfl, SqL.of hp, r1, _, _, 2, _, rfl, rfl, SqT.of r2, rfl, _, rfl, _, rfl, p, _, _, _, rfl, rfl, SqL.of hp, r1, _, _, 3, _, rfl, rfl, SqT.of r2, rfl, f, t, _, _, rfl, rfl, r3, r4, by rw [numL_length, numL_length, sizeLine_eq]; omega, fun c hc => ?_⟩
  rw [← numL_append]
  have s1 := same_new (o := .lst (numL ((rowAt plan i).fs ++ (rowAt plan i).ts))) hc
  have hc1 : (upd H c (.lst (numL ((rowAt plan i).fs ++ (rowAt plan i).ts)))) c = some (.lst (numL (kidsAt plan i))) := upd_same
  generalize upd H c (.lst (numL ((rowAt plan i).fs ++ (rowAt plan i).ts))) = H1 at s1 hc1 ⊢
  refine ⟨c, rfl, ⟨_, SqL.of hc1⟩, fun D hD => ?_⟩
  refine lc_pick (n := 8) (s := 2) (c := g) (vs := adr.map V.ref) (zs := kidsAt plan i) (SqL.of hc1) (SqL.of (s1 _ _ hg)) hD (fun z hz => by rw [List.length_map]; exact hkn z hz) (by omega) (fun _ => rfl) (fun _ => rfl) (fun _ => rfl) fun H2 s2 hD2 => ?_
  rw [rf_refs hkn] at hD2
  have s12 := s1.trans s2
  refine ⟨D, _, rfl, .inl ⟨SqL.of hD2, fun inn hinn => ?_⟩⟩
  have s3 := s12.trans (same_new (o := .tup (rf adr (kidsAt plan i))) hinn)
  have hin3 : (upd H2 inn (.tup (rf adr (kidsAt plan i)))) inn = some (.tup (rf adr (kidsAt plan i))) := upd_same
  generalize upd H2 inn (.tup (rf adr (kidsAt plan i))) = H3 at s3 hin3 ⊢
  clear s1 s2 hc1 hc hD hD2 s12 hinn
  have hW3 := hW.same s3
  have k3 := Kp.of (S := [w, l]) s3
  have T3 := hT.same s3
  have dK : ∀ {H' : Hp} {a : Addr}, Tms K H' plan adr → SqT K H' a (rf adr (kidsAt plan i)) → Dp K H' (.ref a) (.tuple ((kidsAt plan i).map (dat plan plan.length))) := fun hT' ha => .tup ha (dp_rf fun j hj => dp_term hT' _ j (kids_lt hO.1 hi hj) (kids_lt hO.1 hi hj))
  have smK := sm_two (sm_kids hO hct hdp hi)
  -- parts_of
  refine ⟨_, rfl, adr, _, _, rfl, T3.2 i hi, fun H4 p1 s4 h1 => ?_⟩
  refine ⟨_, rfl, rfl, adr, _, _, rfl, (T3.same s4).2 i hi, fun H5 p2 s5 h2 => ?_⟩
  refine ⟨by show 2 ≤ sizeLine; decide, fun a ha => ?_⟩
  have s35 := (s4.trans s5).trans (same_new (o := .lst [V.ref p1, V.ref p2]) ha)
  have s45 := s5.trans (same_new (o := .lst [V.ref p1, V.ref p2]) ha)
  have T5 := T3.same s35
  obtain ⟨x1, x2, x3, x4⟩ := smK.rp (by omega) (by omega)
  refine ⟨a, _, rfl, .lst (SqL.of upd_same) (.cons (dK T5 (s45.sqt h1)) (.cons (dK T5 ((same_new ha).sqt h2)) .nil)), x1, x2, x3, x4, ?_⟩
  have hin5 := s35 _ _ hin3
  have hW5 := hW3.same s35
  have k5 := k3.trans (Kp.of s35)
  generalize upd H5 a (.lst [V.ref p1, V.ref p2]) = H6 at s35 T5 hin5 hW5 k5 ⊢
  clear h1 h2 s4 s5 s45 ha
  refine ⟨_, rfl, _, rfl, (by show 2 ≤ sizeLine; decide), fun b hb => ?_⟩
  have s6 := same_new (o := .lst [V.ref inn, V.ref inn]) hb
  have T6 := T5.same s6
  have hin6 := s6 _ _ hin5
  refine ⟨b, _, rfl, .lst (SqL.of upd_same) (.cons (dK T6 (SqT.of hin6)) (.cons (dK T6 (SqT.of hin6)) .nil)), x1, x2, x3, x4, ?_⟩
  have hW6 := hW5.same s6
  have k6 := k5.trans (Kp.of s6)
  generalize upd H6 b (.lst [V.ref inn, V.ref inn]) = H7 at T6 hin6 hW6 k6 ⊢
  clear s6 hb T5 hin5 hW5 k5 s35
  refine ⟨rfl, _, rfl, ite2 (fun e => absurd e (by simp)) (fun _ => ?_)⟩
  -- size_of
  refine ⟨_, rfl, plan, adr, i, ct, rfl, T6, hi, hct, by omega, fun H8 s8 => ?_⟩
  refine ⟨_, rfl, rfl, plan, adr, i, ct, rfl, T6.same s8, hi, hct, by omega, fun H9 s9 => ?_⟩
  refine ⟨by show 2 ≤ sizeLine; decide, fun a ha => ?_⟩
  refine ⟨_, rfl, _, rfl, (by show 2 ≤ sizeLine; decide), fun b hb => ?_⟩
  have sb := same_new (o := .lst [V.int (ct i : Nat), V.int (ct i : Nat)]) hb
  have s10 := ((s8.trans s9).trans (same_new (o := .lst [V.int (ct i : Nat), V.int (ct i : Nat)]) ha)).trans sb
  refine ⟨.list [.int (ct i : Nat), .int (ct i : Nat)], .list [.int (ct i : Nat), .int (ct i : Nat)], .lst (SqL.of (sb _ _ upd_same)) (dp_ints2 _ _), .lst (SqL.of upd_same) (dp_ints2 _ _), rfl, rfl, ?_⟩
  rw [SeqAt.eqv_refl _ rfl]
  refine ⟨_, rfl, iteF ?_⟩
  have hW10 := hW6.same s10
  have k10 := k6.trans (Kp.of s10)
  have T10 := T6.same s10
  generalize upd (upd H9 a (.lst [V.int (ct i : Nat), V.int (ct i : Nat)])) b (.lst [V.int (ct i : Nat), V.int (ct i : Nat)]) = H10 at hW10 k10 T10 ⊢
  clear s8 s9 ha hb sb s10 T6 hin6 hW6 k6
  -- names
  refine ⟨_, rfl, _, rfl, p, plan, ra, i, ct, rfl, k10 _ _ np hp, (hR.kp k10).sub (fun a h => nomatch h), hO, hi, hct, by omega, fun H11 nr ys s11 hnr hys => ?_⟩
  have T11 := T10.same s11
  have hW11 := hW10.same s11
  have k11 := k10.trans (Kp.of s11)
  refine ⟨_, rfl, plan, adr, i, ct, rfl, T11, hi, hct, by omega, fun H12 n1 ys1 s12 hn1 hy1 hl1 => ?_⟩
  refine ⟨_, rfl, rfl, plan, adr, i, ct, rfl, T11.same s12, hi, hct, by omega, fun H13 n2 ys2 s13 hn2 hy2 hl2 => ?_⟩
  obtain rfl := hy1.uniq hys
  obtain rfl := hy2.uniq hys
  have smN : Sm (.tuple (ys2.map PyData.str)) 1 600 := by
    obtain ⟨a1, a2, a3⟩ := sm_names (hys.nm hO hi)
    refine ⟨a1, ?_, ?_⟩
    · show PyData.depthAll _ + 1 ≤ 1
      omega
    · show PyData.bulkAll _ + 1 ≤ 600
      omega
  obtain ⟨y1, y2, y3, y4⟩ := (sm_two smN).rp (by decide) (by decide)
  refine ⟨by show 2 ≤ sizeLine; decide, fun a ha => ?_⟩
  have sa := same_new (o := .lst [V.ref n1, V.ref n2]) ha
  refine ⟨a, _, rfl, .lst (SqL.of upd_same) (.cons (.tup ((s13.trans sa).sqt hn1) (dp_strs _)) (.cons (.tup (sa.sqt hn2) (dp_strs _)) .nil)), y1, y2, y3, y4, ?_⟩
  have s14 := (s12.trans s13).trans sa
  refine ⟨_, rfl, _, rfl, (by show 2 ≤ sizeLine; decide), fun b hb => ?_⟩
  have sb := same_new (o := .lst [V.ref nr, V.ref nr]) hb
  have s15 := s14.trans sb
  refine ⟨b, _, rfl, .lst (SqL.of upd_same) (.cons (.tup (s15.sqt hnr) (dp_strs _)) (.cons (.tup (s15.sqt hnr) (dp_strs _)) .nil)), y1, y2, y3, y4, ?_⟩
  have hW15 := hW11.same s15
  have k15 := k11.trans (Kp.of s15)
  generalize upd (upd H13 a (.lst [V.ref n1, V.ref n2])) b (.lst [V.ref nr, V.ref nr]) = H15 at hW15 k15 ⊢
  clear s12 s13 sa s14 sb s15 ha hb hn1 hn2 hnr hW11 k11 T11 T10 hW10 k10
  refine ⟨rfl, _, rfl, ite2 (fun e => absurd e (by simp)) (fun _ => ?_)⟩
  -- the ways
  refine ⟨_, rfl, by decide, by decide, ?_⟩
  refine for_range (lo := 0) (n := 4) (fun m σ H' => ∃ (y8 y10 y11 y12 y13 : Option V), σ = [some (.ref w), some (.ref p), some (.ref g), some (.int (i : Nat)), some (.int (ct i : Nat)), some (.ref (adr.getD i 0)), some (.str (dat plan plan.length i).shown), some (.ref inn), y8, some (.ref nr), y10, y11, y12, y13] ∧
      Kp [w, l] H H' ∧ Well H' w l (C + 300 * m))
    ⟨_, _, _, _, _, rfl, k15, hW15.mono (by omega)⟩ ?_ ?_
  · rintro m σ H1 hm ⟨y8, y10, y11, y12, y13, rfl, k1, hW1⟩
    refine ⟨_, rfl, _, rfl, _, rfl, w, l, p, _, plan, ra, i, rfl, hW1, by omega, k1 _ _ np hp, np, hR.kp k1, hO, hi, hpl, fun H2 r zs k2 hW2 hr => ?_⟩
    have k12 := k1.trans k2
    refine ⟨_, rfl, _, rfl, _, rfl, p, r, plan, ra, i, zs, rfl, k12 _ _ np hp, (hR.kp k12).sub (fun a h => nomatch h), hO, hi, hr, fun H3 s3 => ?_⟩
    have k13 := k12.trans (Kp.of s3)
    have hW3 := hW2.same s3
    have T3 := tk k13
    have hr3 := s3.sqt hr
    have ho : ∀ j, walkW plan (some i) zs = some j → Rch plan i j := fun j e => walk_rch zs (some i) (fun a ea => by cases ea; exact .at) e
    obtain ⟨o, eo⟩ : ∃ o, walkW plan (some i) zs = o := ⟨_, rfl⟩
    rw [eo] at ho ⊢
    dsimp only [gName]
    refine asg_via (fun Q2 : VK => Q2 (opt adr o) H3) (fun Q2 h2 => ?_) ?_
    · refine ⟨_, rfl, rfl, _, rfl, ?_⟩
      cases o with
      | none => exact iteT h2
      | some j => exact iteF ⟨_, rfl, _, rfl, g, _, _, _, rfl, rfl, SqL.of (k13 _ _ ng hg), hat j ((ho j rfl).lt hO.1 hi), h2⟩
    · dsimp only [gName]
      refine ⟨_, rfl, _, rfl, plan, adr, i, r, zs, rfl, T3, hi, hr3, fun H4 s4 => ?_⟩
      refine ⟨_, rfl, _, rfl, rfl, plan, adr, i, r, zs, rfl, T3.same s4, hi, s4.sqt hr3, fun H5 s5 => ?_⟩
      rw [eo]
      refine ⟨by show 2 ≤ sizeLine; decide, fun a ha => ?_⟩
      have sa := (s4.trans s5).trans (same_new (o := .lst [opt adr o, opt adr o]) ha)
      have Ta := T3.same sa
      have ol : ∀ j, o = some j → j < plan.length := fun j e => (ho j e).lt hO.1 hi
      have smO : Sm (optD plan o) 24 2400 := by
        cases o with
        | none => exact ⟨rfl, Nat.zero_le _, (by show 0 + 1 ≤ 2400; decide)⟩
        | some j => exact smT (ho j rfl)
      obtain ⟨z1, z2, z3, z4⟩ := (sm_two smO).rp (by decide) (by decide)
      refine ⟨a, _, rfl, .lst (SqL.of upd_same) (.cons (dp_opt Ta ol) (.cons (dp_opt Ta ol) .nil)), z1, z2, z3, z4, ?_⟩
      refine ⟨_, rfl, _, rfl, (by show 2 ≤ sizeLine; decide), fun b hb => ?_⟩
      have sb := sa.trans (same_new (o := .lst [opt adr o, opt adr o]) hb)
      have Tb := T3.same sb
      refine ⟨b, _, rfl, .lst (SqL.of upd_same) (.cons (dp_opt Tb ol) (.cons (dp_opt Tb ol) .nil)), z1, z2, z3, z4, ?_⟩
      refine ⟨rfl, _, rfl, ite2 (fun e => absurd e (by simp)) (fun _ => ?_)⟩
      exact ⟨_, _, _, _, _, rfl, k13.trans (Kp.of sb), (hW3.same sb).mono (by omega)⟩
  · rintro σ H1 ⟨y8, y10, y11, y12, y13, rfl, k1, hW1⟩
    have T1 := tk k1
    refine ⟨_, rfl, Nat.zero_le _, fun e he => ?_⟩
    have se := same_new (o := .tup []) he
    refine ⟨plan, adr, i, e, [], rfl, T1.same se, hi, SqT.of upd_same, fun H2 s2 => ?_⟩
    have s12 := se.trans s2
    refine ⟨_, _, rfl, dp_term (T1.same s12) _ i hi hi, w1, w2, w3, w4, _, rfl, rfl, _, rfl, ite2 (fun _ => ?_) (fun e => absurd (decide_eq_true rfl) e)⟩
    refine ⟨_, rfl, _, _, rfl, dp_term (T1.same s12) _ i hi hi, w1, w2, w3, w4, _, rfl, rfl, ?_⟩
    rw [decide_eq_true (rfl : V.str (dat plan plan.length i).shown = V.str (dat plan plan.length i).shown)]
    exact q H2 (k1.trans (Kp.of s12)) ((hW1.same s12).mono (by omega))
end
end K07
set_option Elab.async false
set_option linter.all false
set_option maxRecDepth 100000
set_option maxHeartbeats 4000000
/-! k07: doubled terms, the law. -/
namespace K07
open PySem PySem.Spec PyProof.Rows L2 Zg Zs Zr Zd Zt
def NTH : List PySem.Str := ["a", "b", "c", "d", "e"]
/-- the plan of the doubled term -/
def dplan : Nat → List Row
  | 0 => [⟨"given", "f", [], []⟩]
  | k + 1 => dplan k ++ [⟨"part", NTH.getD k "", [k, k], []⟩]
def cc (i : Nat) : Nat := 2 ^ (i + 1) - 1
theorem dplan_length : ∀ n, (dplan n).length = n + 1
  | 0 => rfl
  | n + 1 => by
    show (dplan n ++ [_]).length = _
    rw [List.length_append, dplan_length n]
    rfl
instance (plan : List Row) : Decidable (Down plan) := inferInstanceAs (Decidable (∀ i, i < plan.length → ∀ j ∈ kidsAt plan i, j < i))
instance (plan : List Row) (c : Nat → Nat) : Decidable (Cnt plan c) := inferInstanceAs (Decidable (∀ i, i < plan.length → c i = 1 + ((kidsAt plan i).map c).sum))
theorem dplan_down : ∀ n, n < 5 → Down (dplan n) := by decide +kernel
theorem dplan_cnt : ∀ n, n < 5 → Cnt (dplan n) cc := by decide +kernel
theorem dplan_kid : ∀ n, n < 5 → ∀ j, j < n → j ∈ kidsAt (dplan n) (j + 1) := by decide +kernel
theorem dplan_nodup : ∀ n, n < 5 → ((dplan n).map Row.n).Nodup := by decide +kernel
theorem dplan_word : ∀ n, n < 5 → ∀ i, i < (dplan n).length → (rowAt (dplan n) i).w ∈ NAMED := by decide +kernel
theorem dplan_walk : ∀ n, n < 5 → walkW (dplan n) (some n) (List.replicate n 1) = some 0 := by decide +kernel
theorem dplan_zero : ∀ n, n < 5 → (rowAt (dplan n) 0).w = "given" ∧ (rowAt (dplan n) 0).n = "f" := by decide +kernel
theorem dplan_ok : ∀ n, n < 5 → ∀ y ∈ (dplan n).map Row.n, Nm y := by
  unfold Nm
  decide +kernel
theorem dplan_rch {n : Nat} (h : n < 5) {j : Nat} : Rch (dplan n) n j ↔ j < (dplan n).length := by
  rw [dplan_length]
  constructor
  · intro r
    have := r.lt (dplan_down n h) (by rw [dplan_length]; omega)
    rw [dplan_length] at this
    exact this
  · intro hj
    have : ∀ d, d ≤ n → Rch (dplan n) n (n - d) := fun d => by
      induction d with
      | zero => intro _; exact .at
      | succ d ih =>
        intro hd
        have r := ih (by omega)
        have e : n - d = (n - (d + 1)) + 1 := by omega
        rw [e] at r
        exact r.kid (dplan_kid n h _ (by omega))
    have r := this (n - j) (by omega)
    rw [show n - (n - j) = j by omega] at r
    exact r
theorem dplan_names {n : Nat} (h : n < 5) {ys : List PySem.Str} (hp : ys.Perm ((dplan n).map Row.n)) (hs : sortedS ys = true) : IsNames (dplan n) n ys := by
  refine ⟨hs, hp.nodup_iff.mpr (dplan_nodup n h), fun x => ?_⟩
  rw [hp.mem_iff, List.mem_map]
  constructor
  · rintro ⟨r, hr, e⟩
    obtain ⟨j, hj, e2⟩ := List.getElem_of_mem hr
    have e3 : rowAt (dplan n) j = r := by
      unfold rowAt
      rw [List.getD_eq_getElem?_getD, List.getElem?_eq_getElem hj]
      exact e2
    exact ⟨j, (dplan_rch h).mpr hj, dplan_word n h j hj, by rw [e3]; exact e⟩
  · rintro ⟨j, hj, _, e⟩
    have hl := (dplan_rch h).mp hj
    refine ⟨rowAt (dplan n) j, ?_, e⟩
    unfold rowAt
    rw [List.getD_eq_getElem?_getD, List.getElem?_eq_getElem hl]
    exact List.getElem_mem hl
theorem kids_lt5 {k : Nat} : ∀ j ∈ (⟨"part", NTH.getD k "", [k, k], []⟩ : Row).kids, j < k + 1 := fun j hj => by
  have e : (⟨"part", NTH.getD k "", [k, k], []⟩ : Row).kids = [k, k] := rfl
  rw [e] at hj
  simp at hj
  omega
theorem abcde_at : ∀ k, k < 5 → ("abcde" : PySem.Str).cps.toList[k]? = some (97 + k) := by decide +kernel
theorem abcde_name : ∀ k, k < 5 → NTH.getD k "" = ⟨#[97 + k]⟩ := by decide +kernel
theorem cc_succ : ∀ k, k < 5 → 2 * cc k + 1 = cc (k + 1) := by decide +kernel
theorem cc_le : ∀ k, k < 5 → cc k ≤ 31 := by decide +kernel
theorem rep_flat : ∀ n : Nat, (List.replicate n [V.int 1]).flatten = (List.replicate n (1 : Int)).map V.int
  | 0 => rfl
  | n + 1 => by
    rw [List.replicate_succ, List.flatten_cons, rep_flat n, List.replicate_succ, List.map_cons]
    rfl
section
variable {P : Program} {w : World} {K : PySem.W.Frag} {mg : PySem.Str → Option Value} {base : Heap}
def sp_doubled : Sp := fun vs H Q _ => ∃ (w l : Addr) (C : Nat), vs = [.ref w] ∧ Well H w l C ∧ C + 10 < LIM ∧ ∀ (H' : Hp), Q (.bl true) H'
theorem ok_doubled (T : Txt K mg) : FnOk P w K mg base CX0 5 T.a_doubled T.d_doubled P_doubled sp_doubled := by
  refine T.F_doubled.ok sc_doubled (fun vs H Q E h => by obtain ⟨w, l, C, rfl, _⟩ := h; rfl) (fun cdv A outer s H vs Q E hr h => ?_)
  refine ⟨_, (pss_cons (ps_par3 (i := 1) (j := 2) (l := 3) (by rfl) sc_doubled.nd rfl rfl rfl (by decide) (by decide) (by decide) rfl rfl rfl (pa_cons (pe_op op_add pe_int (pe_call (ok_drawn T) (hr.mono (by decide)) (by rfl) T.g_drawn T.F_drawn.kp T.b_drawn .nil pass0 (pa_cons (pv 0) (pa_cons pe_int pa_nil)))) (pa_cons (pe_tup (pa_cons pe_str (pa_cons pe_str pa_nil))) (pa_cons (pe_lst (pa_cons pe_str pa_nil)) pa_nil))) (by rfl))
    (pss_cons (ps_set (i := 4) sc_doubled.nd rfl (Or.inl rfl) pe_int)
    (pss_cons (ps_for PassesOwn.never rfl (pi_range1 (by rfl) T.n_range (pa_cons (pv 1) pa_nil)) (pg_name (i := 5) sc_doubled.nd rfl (Or.inl rfl)) (pss_cons (ps_set (i := 6) sc_doubled.nd rfl (Or.inl rfl) (pe_ix ix_str pe_str (pv 5) (fun _ _ => rfl)))
    (pss_cons (ps_expr (pe_bm PySem.F.plainAttrs_list PySem.F.slot_list_append PySem.F.type_list_append mt_append (pv 3) (pa_cons (pv 6) pa_nil)))
    (pss_one (ps_par (i := 2) (j := 4) (by rfl) sc_doubled.nd rfl rfl (by decide) rfl rfl (pa_cons (pe_tup (pa_cons pe_str (pa_cons (pv 6) (pa_cons (pe_tup (pa_cons (pv 2) (pa_cons (pv 2) pa_nil))) (pa_cons (pe_tup pa_nil) pa_nil))))) (pa_cons (pe_op op_add (pe_op op_mul pe_int (pv 4)) pe_int) pa_nil)) (by rfl))))))
    (pss_cons (ps_if (PW.pt (pw_or (pt_cmpR op_ne (pe_call (ok_size_of T) (hr.mono (by decide)) (by rfl) T.g_size_of T.F_size_of.kp T.b_size_of .nil pass0 (pa_cons (pv 2) pa_nil)) (pv 4) (nomark _)) (pw_or1 (pt_cmpR (op_neD hr.units) (pe_call (ok_names_in T) (hr.mono (by decide)) (by rfl) T.g_names_in T.F_names_in.kp T.b_names_in .nil pass0 (pa_cons (pv 2) pa_nil)) (pe_callTy call_tuple_of (by rfl) T.n_tuple (by decide +kernel) (pa_cons (pe_callB cr_sortedS (by rfl) T.n_sorted (by decide +kernel) (pa_cons (pv 3) pa_nil)) pa_nil)) (nomark _))))) (pss_one (ps_ret pe_bl)) pss_nil)
    (pss_one (ps_ret (pe_cmpR (op_eqD hr.units) (pe_call (ok_part_at T) (hr.mono (by decide)) (by rfl) T.g_part_at T.F_part_at.kp T.b_part_at .nil pass0 (pa_cons (pv 2) (pa_cons (pe_op op_rep1 (pe_tup (pa_cons pe_int pa_nil)) (pv 1)) pa_nil))) (pe_tup (pa_cons pe_str (pa_cons pe_str pa_nil))) (nomark _)))))))), ?_⟩
  obtain ⟨w, l, C, rfl, hW, hC, q⟩ := h
  refine ⟨_, rfl, w, l, 4, C, rfl, hW, by omega, by decide, by decide, fun H1 r k1 hW1 r0 r1 => ?_⟩
  refine ⟨_, _, rfl, rfl, ?_⟩
  refine ⟨by show 2 ≤ sizeLine; decide, fun a0 ha0 => ⟨by show 1 ≤ sizeLine; decide, fun nl hnl => ?_⟩⟩
  have k2 : Same H1 (upd (upd H1 a0 (.tup [V.str "given", V.str "f"])) nl (.lst [V.str "f"])) := (same_new ha0).trans (same_new hnl)
  have e0 := (same_new (o := .lst [V.str "f"]) hnl) _ _ (show (upd H1 a0 (.tup [V.str "given", V.str "f"])) a0 = some (.tup [V.str "given", V.str "f"]) from upd_same)
  have en : (upd (upd H1 a0 (.tup [V.str "given", V.str "f"])) nl (.lst [V.str "f"])) nl = some (.lst [V.str "f"]) := upd_same
  generalize upd (upd H1 a0 (.tup [V.str "given", V.str "f"])) nl (.lst [V.str "f"]) = H2 at k2 e0 en ⊢
  refine ⟨_, _, _, rfl, ?_⟩
  have hN5 : (1 + r).toNat < 5 := by omega
  have hN0 : 0 < (1 + r).toNat := by omega
  refine ⟨_, rfl, _, rfl, by omega, by omega, ?_⟩
  refine for_range (lo := 0) (n := (1 + r).toNat) (fun k σ H' => ∃ (y5 y6 : Option V) (adr : List Addr), σ = [some (.ref w), some (.int (1 + r)), some (.ref (adr.getD k 0)), some (.ref nl), some (.int (cc k : Nat)), y5, y6] ∧ k ≤ (1 + r).toNat ∧ adr.length = k + 1 ∧ H' nl = some (.lst (((dplan k).map Row.n).map V.str)) ∧
      ∀ i, i < (dplan k).length → Cont K H' adr (rowAt (dplan k) i) (adr.getD i 0))
    ⟨none, none, [a0], rfl, Nat.zero_le _, rfl, en, fun i hi => ?_⟩ ?_ ?_
  · rw [dplan_length] at hi
    obtain rfl : i = 0 := by omega
    exact ⟨(by show 0 ≤ 100; decide), (by show 0 ≤ 100; decide), _, SqT.of e0, .inr (.inl ⟨(by show ("given" : PySem.Str) ∈ _; decide +kernel), rfl, rfl, rfl⟩)⟩
  · rintro k σ H' hk ⟨y5, y6, adr, rfl, hkN, hal, hnl', hC'⟩
    have hk5 : k < 5 := by omega
    have e1 : atI ("abcde" : PySem.Str).cps.toList (0 + (k : Int)) = some (97 + k) := by
      rw [Int.zero_add]
      exact atI_nat (abcde_at k hk5)
    refine ⟨_, rfl, _, _, _, rfl, rfl, by rw [sizeLine_eq]; decide +kernel, e1, ?_⟩
    rw [← abcde_name k hk5]
    refine ⟨_, rfl, .inl ⟨rfl, _, SqL.of hnl'⟩, _, rfl, nl, _, _, rfl, rfl, hnl', by rw [List.length_map, List.length_map, dplan_length, sizeLine_eq]; omega, ?_⟩
    have kw : ∀ a xs, SqT K H' a xs → SqT K (upd H' nl (.lst (((dplan k).map Row.n).map V.str ++ [.str (NTH.getD k "")]))) a xs := fun a xs h => sqt_wr hnl' h
    have hn2 : (upd H' nl (.lst (((dplan k).map Row.n).map V.str ++ [.str (NTH.getD k "")]))) nl = some (.lst (((dplan (k + 1)).map Row.n).map V.str)) := by
      rw [upd_same]
      show _ = some (HO.lst (((dplan k ++ [_]).map Row.n).map V.str))
      rw [List.map_append, List.map_append]
      rfl
    generalize upd H' nl (.lst (((dplan k).map Row.n).map V.str ++ [.str (NTH.getD k "")])) = G at kw hn2 ⊢
    refine ⟨_, rfl, _, rfl, _, rfl, (by show 2 ≤ sizeLine; decide), fun t1 h1 => ⟨Nat.zero_le _, fun t2 h2 => ⟨(by show 4 ≤ sizeLine; decide), fun t3 h3 => ⟨_, rfl, _, _, rfl, rfl, .inl ⟨by decide, by decide⟩, _, _, rfl, rfl, _, _, rfl, ?_⟩⟩⟩⟩
    have q1 := same_new (o := .tup [V.ref (adr.getD k 0), V.ref (adr.getD k 0)]) h1
    have q2 := same_new (o := .tup []) h2
    have q3 := same_new (o := .tup [V.str "part", V.str (NTH.getD k ""), V.ref t1, V.ref t2]) h3
    have g1 := q3 _ _ (q2 _ _ (show (upd G t1 (.tup [V.ref (adr.getD k 0), V.ref (adr.getD k 0)])) t1 = some (.tup [V.ref (adr.getD k 0), V.ref (adr.getD k 0)]) from upd_same))
    have g2 := q3 _ _ (show (upd (upd G t1 (.tup [V.ref (adr.getD k 0), V.ref (adr.getD k 0)])) t2 (.tup [])) t2 = some (.tup []) from upd_same)
    have q := (q1.trans q2).trans q3
    have e3 : (adr ++ [t3]).getD (k + 1) 0 = t3 := by rw [← hal, getD_new]
    have e4 : ((2 : Int) * (cc k : Nat) + 1) = (cc (k + 1) : Nat) := by rw [← cc_succ k hk5]; omega
    refine ⟨some (.int (0 + (k : Int))), some (.str (NTH.getD k "")), adr ++ [t3], ?_, by omega, by rw [List.length_append, List.length_singleton, hal], q _ _ hn2, fun i hi => ?_⟩
    · rw [e3, ← e4]
      rfl
    · have hl : (dplan k).length = k + 1 := dplan_length k
      have hr1 : ∀ j ∈ (⟨"part", NTH.getD k "", [k, k], []⟩ : Row).kids, j < adr.length := fun j hj => by rw [hal]; exact kids_lt5 j hj
      rw [dplan_length] at hi
      by_cases hik : i < k + 1
      · have e5 : rowAt (dplan (k + 1)) i = rowAt (dplan k) i := rowAt_old (by rw [hl]; exact hik)
        rw [e5, getD_old (by rw [hal]; exact hik)]
        refine (((hC' i (by rw [hl]; exact hik)).keep kw).same q).snoc fun j hj => ?_
        have := dplan_down k hk5 i (by rw [hl]; exact hik) j hj
        omega
      · have e5 : i = k + 1 := by omega
        have e6 : rowAt (dplan (k + 1)) (k + 1) = ⟨"part", NTH.getD k "", [k, k], []⟩ := by
          have := rowAt_new (plan := dplan k) (r := ⟨"part", NTH.getD k "", [k, k], []⟩)
          rw [hl] at this
          exact this
        rw [e5, e3, e6]
        refine ⟨(by show 2 ≤ 100; decide), (by show 0 ≤ 100; decide), _, SqT.of upd_same, .inr (.inr (.inr (.inr (.inr ⟨(by show ("part" : PySem.Str) ∈ _; decide +kernel), t1, t2, ?_, SqT.of g2, rfl⟩))))⟩
        rw [rf_snoc (l := [k, k]) (fun j hj => by rw [hal]; simp at hj; omega)]
        exact SqT.of g1
  · rintro σ H' ⟨y5, y6, adr, rfl, hkN, hal, hnl', hC'⟩
    generalize hM : (1 + r).toNat = M at hN5 hN0 hkN hal hnl' hC'
    have hMr : 1 + r = (M : Int) := by omega
    have hTm : Tms K H' (dplan M) adr := ⟨dplan_down M hN5, hC'⟩
    have hMl : M < (dplan M).length := by rw [dplan_length]; omega
    have hcM : cc M ≤ 31 := cc_le M hN5
    refine ⟨_, rfl, dplan M, adr, M, cc, rfl, hTm, hMl, dplan_cnt M hN5, by omega, fun H3 s3 => ?_⟩
    refine ⟨_, rfl, rfl, _, rfl, ?_⟩
    have ec : decide (V.int (cc M : Nat) = V.int (cc M : Nat)) = true := decide_eq_true rfl
    rw [ec]
    refine iteF ?_
    refine ⟨_, rfl, dplan M, adr, M, cc, rfl, hTm.same s3, hMl, dplan_cnt M hN5, by omega, fun H4 p ys s4 hp hys hyl => ?_⟩
    have s34 := s3.trans s4
    refine ⟨_, rfl, nl, (dplan M).map Row.n, rfl, SqL.of (s34 _ _ hnl'), by rw [List.length_map, dplan_length]; omega, fun zs b hzp hzs hb => ?_⟩
    have hz : IsNames (dplan M) M zs := dplan_names hN5 hzp hzs
    obtain rfl := hys.uniq hz
    have sb := same_new (o := .lst (ys.map V.str)) hb
    refine ⟨b, _, rfl, .inl ⟨SqL.of upd_same, fun c hc => ?_⟩⟩
    have s5 := sb.trans (same_new (o := .tup (ys.map V.str)) hc)
    have hall : ∀ y ∈ ys, Nm y := fun y hy => dplan_ok M hN5 y (hzp.mem_iff.mp hy)
    obtain ⟨a1, a2, a3⟩ := sm_names hall
    have hok : okd (.tuple (ys.map PyData.str)) = true := a1
    have hsh := shaped_of hok (by show PyData.depthAll _ + 1 ≤ 60; omega)
    refine ⟨.tuple (ys.map .str), .tuple (ys.map .str), .tup (s5.sqt hp) (dp_strs _), .tup (SqT.of upd_same) (dp_strs _), hsh, hsh, ?_⟩
    rw [SeqAt.eqv_refl _ (okd_show _ hok).2.1]
    refine ⟨_, rfl, iteF ?_⟩
    have s45 := s34.trans s5
    have dz : ∀ H5, Same H' H5 → Dp K H5 (.ref (adr.getD 0 0)) (.tuple [.str "given", .str "f"]) := fun H5 s5' => by
      obtain ⟨_, _, vs, hS, hs⟩ := (hC' 0 (by rw [dplan_length]; omega)).same s5'
      obtain ⟨g1, g2⟩ := dplan_zero M hN5
      rcases hs with h | h | h | h | h | h
      · rw [g1] at h; exact absurd h.1 (by decide +kernel)
      · rw [h.2.2.2, g1, g2] at hS
        exact .tup hS (.cons (.str _) (.cons (.str _) .nil))
      · rw [g1] at h; exact absurd h.1 (by decide +kernel)
      · rw [g1] at h; exact absurd h.1 (by decide +kernel)
      · rw [g1] at h; exact absurd h.1 (by decide +kernel)
      · rw [g1] at h; exact absurd h.1 (by decide +kernel)
    refine ⟨_, rfl, (by show 1 ≤ sizeLine; decide), fun u hu => ?_⟩
    have s6 := s45.trans (same_new (o := .tup [V.int 1]) hu)
    refine ⟨_, rfl, u, 1 + r, [V.int 1], rfl, rfl, SqT.of upd_same, by simp, by omega, by omega, by decide, fun e => ?_, fun e b hb => ?_⟩
    · have eM : M = 1 := by omega
      refine ⟨dplan M, adr, M, u, List.replicate M 1, rfl, hTm.same s6, hMl, (by rw [eM]; exact SqT.of upd_same), fun H7 s7 => ?_⟩
      rw [dplan_walk M hN5]
      refine ⟨by show 2 ≤ sizeLine; decide, fun v hv => ?_⟩
      have s8 := (s6.trans s7).trans (same_new (o := .tup [V.str "given", V.str "f"]) hv)
      refine ⟨.tuple [.str "given", .str "f"], .tuple [.str "given", .str "f"], dz _ s8, .tup (SqT.of upd_same) (.cons (.str _) (.cons (.str _) .nil)), by decide +kernel, by decide +kernel, ?_⟩
      rw [SeqAt.eqv_refl _ (by decide +kernel)]
      exact q _
    · have eM : (1 + r).toNat = M := by omega
      have s6' := s6.trans (same_new (o := .tup (List.replicate (1 + r).toNat [V.int 1]).flatten) hb)
      refine ⟨dplan M, adr, M, b, List.replicate M 1, rfl, hTm.same s6', hMl, (SqT.of (by rw [upd_same, eM, rep_flat])), fun H7 s7 => ?_⟩
      rw [dplan_walk M hN5]
      refine ⟨by show 2 ≤ sizeLine; decide, fun v hv => ?_⟩
      have s8 := (s6'.trans s7).trans (same_new (o := .tup [V.str "given", V.str "f"]) hv)
      refine ⟨.tuple [.str "given", .str "f"], .tuple [.str "given", .str "f"], dz _ s8, .tup (SqT.of upd_same) (.cons (.str _) (.cons (.str _) .nil)), by decide +kernel, by decide +kernel, ?_⟩
      rw [SeqAt.eqv_refl _ (by decide +kernel)]
      exact q _
end
end K07
set_option Elab.async false
set_option linter.all false
set_option maxRecDepth 100000
set_option maxHeartbeats 4000000
/-! k07: the law. -/
namespace K07
open PySem PySem.Spec PyProof.Rows L2 Zg Zs Zr Zd Zt
section
variable {P : Program} {w : World} {K : PySem.W.Frag} {mg : PySem.Str → Option Value} {base : Heap}
def sp_law (K : PySem.W.Frag) : Sp := fun vs H Q _ => ∃ (a : Addr) (ns : List Int), vs = [.ref a] ∧ SqL K H a (ns.map V.int) ∧ ns.length ≤ 63 ∧ ∀ (H' : Hp), Q (.bl true) H'
theorem ok_law (T : Txt K mg) : FnG P w K mg base 6 T.a_law T.d_law P_law (sp_law K) := by
  refine okG T.F_law sc_law (fun vs H Q E h => by obtain ⟨a, ns, rfl, _⟩ := h; rfl) (fun cdv A outer s H vs Q hgd hr h => ?_)
  refine ⟨_, (pss_cons (ps_set (i := 1) sc_law.nd rfl (Or.inl rfl) (pe_call (ok_well T) (hr.mono (by decide)) (by rfl) T.g_well T.F_well.kp T.b_well .nil pass0 (pa_cons (pv 0) pa_nil)))
    (pss_cons (ps_for PassesOwn.never rfl (pi_range1 (by rfl) T.n_range (pa_cons pe_int pa_nil)) (pg_name (i := 2) sc_law.nd rfl (Or.inl rfl)) (pss_cons (ps_set (i := 3) sc_law.nd rfl (Or.inl rfl) (pe_call (ok_plan T) (hr.mono (by decide)) (by rfl) T.g_plan T.F_plan.kp T.b_plan .nil pass0 (pa_cons (pv 1) pa_nil)))
    (pss_cons (ps_par (i := 4) (j := 5) (by rfl) sc_law.nd rfl rfl (by decide) rfl rfl (pa_cons (pe_call (ok_terms T) (hr.mono (by decide)) (by rfl) T.g_terms T.F_terms.kp T.b_terms .nil pass0 (pa_cons (pv 3) pa_nil)) (pa_cons (pe_call (ok_deep T) (hr.mono (by decide)) (by rfl) T.g_deep T.F_deep.kp T.b_deep .nil pass0 (pa_cons (pv 3) pa_nil)) pa_nil)) (by rfl))
    (pss_one (ps_for PassesOwn.never rfl (pi_range1 (by rfl) T.n_range (pa_cons (pe_callB call_len_seq (by rfl) T.n_len (by decide +kernel) (pa_cons (pv 3) pa_nil)) pa_nil)) (pg_name (i := 6) sc_law.nd rfl (Or.inl rfl)) (pss_cons (ps_set (i := 7) sc_law.nd rfl (Or.inl rfl) (pe_ix ix_tup (pe_ix ix_list (pv 5) (pv 6) (fun _ _ => rfl)) pe_int (fun _ _ => rfl)))
    (pss_one (ps_if (PW.pt (pw_and (pt_cmpR op_le (pe_ix ix_tup (pe_ix ix_list (pv 5) (pv 6) (fun _ _ => rfl)) pe_int (fun _ _ => rfl)) pe_int (nomark _)) (pw_and (pt_cmpR op_le (pv 7) pe_int (nomark _)) (pw_and1 (pt_not (pt_val (pe_callG (ok_row_right T) hgd (hr.mono (by decide)) (by rfl) T.g_row_right T.F_row_right.kp T.b_row_right .nil (pa_cons (pv 1) (pa_cons (pv 3) (pa_cons (pv 4) (pa_cons (pv 6) (pa_cons (pv 7) pa_nil)))))))))))) (pss_one (ps_ret pe_bl)) pss_nil))))))))
    (pss_one (ps_ret (pe_call (ok_doubled T) (hr.mono (by decide)) (by rfl) T.g_doubled T.F_doubled.kp T.b_doubled .nil pass0 (pa_cons (pv 1) pa_nil)))))), ?_⟩
  obtain ⟨a, ns, rfl, hS, hl, q⟩ := h
  refine ⟨_, rfl, a, ns, rfl, hS, hl, fun H0 w l s0 _ _ hW0 => ?_⟩
  dsimp only [gName]
  refine ⟨_, rfl, by decide, by decide, ?_⟩
  refine for_range (lo := 0) (n := 4) (fun m σ H' => ∃ (y2 y3 y4 y5 y6 y7 : Option V), σ = [some (.ref a), some (.ref w), y2, y3, y4, y5, y6, y7] ∧ Well H' w l (30000 * m))
    ⟨none, none, none, none, none, none, rfl, hW0⟩ ?_ ?_
  · rintro m σ H1 hm ⟨y2, y3, y4, y5, y6, y7, rfl, hW1⟩
    refine ⟨_, rfl, w, l, _, rfl, hW1, by show 30000 * m + 400 < 1000000000; omega, fun H2 p plan ra k2 hW2 hp np hR hO hpl => ?_⟩
    refine ⟨_, rfl, p, plan, ra, rfl, hp, hR.sub (fun a h => nomatch h), hO, by omega, fun H3 g adr s3 ng hg hal hT => ?_⟩
    refine ⟨_, rfl, p, plan, ra, rfl, s3 _ _ hp, (hR.kp (Kp.of s3)).sub (fun a h => nomatch h), hO, by omega, fun H4 d da dp ct s4 nd hd hdl hda hct hdp => ?_⟩
    have s34 := s3.trans s4
    have hW4 := hW2.same s34
    have hp4 := s34 _ _ hp
    have hR4 := hR.kp (Kp.of s34)
    have hg4 := s4 _ _ hg
    have hT4 := hT.same s4
    have ng' := hW2.ne ng
    have nd' := (hW2.same s3).ne nd
    refine ⟨_, _, rfl, ?_⟩
    refine ⟨_, rfl, p, _, rfl, .inl (SqL.of hp4), ?_⟩
    have hra : (ra.map V.ref).length = plan.length := by rw [List.length_map, hR.1]
    rw [hra]
    refine ⟨_, rfl, by omega, by omega, ?_⟩
    refine for_range (lo := 0) (n := plan.length) (fun i σ H' => ∃ (y6 y7 : Option V), σ = [some (.ref a), some (.ref w), some (.int (0 + (m : Int))), some (.ref p), some (.ref g), some (.ref d), y6, y7] ∧ Kp [w, l] H4 H' ∧ Well H' w l (30000 * m + 400 + 1200 * i))
      ⟨y6, y7, rfl, Kp.refl _ _, hW4⟩ ?_ ?_
    · rintro i σ H5 hi ⟨z6, z7, rfl, k5, hW5⟩
      rw [Int.zero_add (i : Int)]
      have hd5 := k5 _ _ nd' hd
      have htup := sqt_kp (K := K) hW4 k5 (SqT.of (hda i hi))
      have hat : atI (da.map V.ref) (i : Int) = some (.ref (da.getD i 0)) := by
        refine atI_nat ?_
        rw [List.getElem?_map, List.getElem?_eq_getElem (by rw [hdl]; exact hi), List.getD_eq_getElem?_getD, List.getElem?_eq_getElem (by rw [hdl]; exact hi)]
        rfl
      refine ⟨_, rfl, _, rfl, d, _, _, _, rfl, rfl, SqL.of hd5, hat, _, _, 1, _, rfl, rfl, htup, rfl, ?_⟩
      refine ⟨_, rfl, _, rfl, d, _, _, _, rfl, rfl, SqL.of hd5, hat, _, _, 0, _, rfl, rfl, htup, rfl, _, _, rfl, rfl, _, rfl, ?_⟩
      refine ite2 (fun e1 => ?_) (fun e1 => iteF ⟨_, _, rfl, k5, hW5.mono (by omega)⟩)
      refine ⟨_, rfl, _, _, rfl, rfl, _, rfl, ite2 (fun e2 => ?_) (fun e2 => iteF ⟨_, _, rfl, k5, hW5.mono (by omega)⟩)⟩
      have e1' := of_decide_eq_true e1
      have e2' := of_decide_eq_true e2
      refine ⟨_, rfl, _, rfl, _, rfl, _, rfl, _, rfl, w, l, p, g, _, plan, ra, adr, i, dp, ct, rfl, hW5, (by show 30000 * m + 400 + 1200 * i + 1300 < 1000000000; omega), k5 _ _ np hp4, np, hR4.kp k5, hO, hi, by omega, k5 _ _ ng' hg4, ng', hal, hT4.kp hW4 k5, hct, hdp, by omega, by omega, fun H6 k6 hW6 => ?_⟩
      exact ⟨_, rfl, iteF ⟨_, _, rfl, k5.trans k6, hW6.mono (by omega)⟩⟩
    · rintro σ H5 ⟨z6, z7, rfl, k5, hW5⟩
      exact ⟨_, _, _, _, _, _, rfl, hW5.mono (by omega)⟩
  · rintro σ H1 ⟨y2, y3, y4, y5, y6, y7, rfl, hW1⟩
    exact ⟨_, rfl, w, l, _, rfl, hW1, by show 30000 * 4 + 10 < 1000000000; decide, fun H' => q H'⟩
end
end K07
set_option Elab.async false
set_option linter.all false
set_option maxRecDepth 100000
set_option maxHeartbeats 4000000
/-! k07: the end. -/
namespace K07
open PySem PySem.Spec PyProof.Rows L2 Zg Zs Zr Zd Zt
theorem all_mk {l : PySem.W.OpenLaw} {w : World} {K : PySem.W.Frag} {h : Heap} {mg : PySem.Str → Option Value} {fa f0 f1 f2 f3 f4 f5 f6 f7 f8 f9 f10 f11 f12 f13 f14 f15 f16 f17 f18 f19 f20 : Addr} (X : K.In h) (G : h.Ns mainGlobals mg) (hfa : mg "law" = some (.ref fa))
    {od0 an0 od1 an1 od2 an2 od3 an3 od4 an4 od5 an5 od6 an6 od7 an7 od8 an8 od9 an9 od10 an10 od11 an11 od12 an12 od13 an13 od14 an14 od15 an15 od16 an16 od17 an17 od18 an18 od19 an19 od20 an20 : Option Addr} {sl0 sl1 sl2 sl3 sl4 sl5 sl6 sl7 sl8 sl9 sl10 sl11 sl12 sl13 sl14 sl15 sl16 sl17 sl18 sl19 sl20 : Array (Option Value)} {oc0 kV0 dc0 pm0 cd0 ct0 oc1 kV1 dc1 pm1 cd1 ct1 oc2 kV2 dc2 pm2 cd2 ct2 oc3 kV3 dc3 pm3 cd3 ct3 oc4 kV4 dc4 pm4 cd4 ct4 oc5 kV5 dc5 pm5 cd5 ct5 oc6 kV6 dc6 pm6 cd6 ct6 oc7 kV7 dc7 pm7 cd7 ct7 oc8 kV8 dc8 pm8 cd8 ct8 oc9 kV9 dc9 pm9 cd9 ct9 oc10 kV10 dc10 pm10 cd10 ct10 oc11 kV11 dc11 pm11 cd11 ct11 oc12 kV12 dc12 pm12 cd12 ct12 oc13 kV13 dc13 pm13 cd13 ct13 oc14 kV14 dc14 pm14 cd14 ct14 oc15 kV15 dc15 pm15 cd15 ct15 oc16 kV16 dc16 pm16 cd16 ct16 oc17 kV17 dc17 pm17 cd17 ct17 oc18 kV18 dc18 pm18 cd18 ct18 oc19 kV19 dc19 pm19 cd19 ct19 oc20 kV20 dc20 pm20 cd20 ct20 : Value}
    (a0 : PySem.W.nsIn K mainGlobals "functions_of" = some (some (.ref f0))) (l0 : K.lookup f0 = some ⟨oc0, od0, .func (PySem.W.fnOf "functions_of" "functions_of" (defArgs s_functions_of) (defBody s_functions_of) (defScope s_functions_of) .none kV0 dc0 pm0 an0 cd0 ct0), sl0⟩) (c0 : PySem.W.codeIn K cd0 "functions_of" = true) (k0 : PySem.W.keepIn K (.ref f0) = true)
    (a1 : PySem.W.nsIn K mainGlobals "tasks_of" = some (some (.ref f1))) (l1 : K.lookup f1 = some ⟨oc1, od1, .func (PySem.W.fnOf "tasks_of" "tasks_of" (defArgs s_tasks_of) (defBody s_tasks_of) (defScope s_tasks_of) .none kV1 dc1 pm1 an1 cd1 ct1), sl1⟩) (c1 : PySem.W.codeIn K cd1 "tasks_of" = true) (k1 : PySem.W.keepIn K (.ref f1) = true)
    (a2 : PySem.W.nsIn K mainGlobals "parts_of" = some (some (.ref f2))) (l2 : K.lookup f2 = some ⟨oc2, od2, .func (PySem.W.fnOf "parts_of" "parts_of" (defArgs s_parts_of) (defBody s_parts_of) (defScope s_parts_of) .none kV2 dc2 pm2 an2 cd2 ct2), sl2⟩) (c2 : PySem.W.codeIn K cd2 "parts_of" = true) (k2 : PySem.W.keepIn K (.ref f2) = true)
    (a3 : PySem.W.nsIn K mainGlobals "part_at" = some (some (.ref f3))) (l3 : K.lookup f3 = some ⟨oc3, od3, .func (PySem.W.fnOf "part_at" "part_at" (defArgs s_part_at) (defBody s_part_at) (defScope s_part_at) .none kV3 dc3 pm3 an3 cd3 ct3), sl3⟩) (c3 : PySem.W.codeIn K cd3 "part_at" = true) (k3 : PySem.W.keepIn K (.ref f3) = true)
    (a4 : PySem.W.nsIn K mainGlobals "terms_in" = some (some (.ref f4))) (l4 : K.lookup f4 = some ⟨oc4, od4, .func (PySem.W.fnOf "terms_in" "terms_in" (defArgs s_terms_in) (defBody s_terms_in) (defScope s_terms_in) .none kV4 dc4 pm4 an4 cd4 ct4), sl4⟩) (c4 : PySem.W.codeIn K cd4 "terms_in" = true) (k4 : PySem.W.keepIn K (.ref f4) = true)
    (a5 : PySem.W.nsIn K mainGlobals "size_of" = some (some (.ref f5))) (l5 : K.lookup f5 = some ⟨oc5, od5, .func (PySem.W.fnOf "size_of" "size_of" (defArgs s_size_of) (defBody s_size_of) (defScope s_size_of) .none kV5 dc5 pm5 an5 cd5 ct5), sl5⟩) (c5 : PySem.W.codeIn K cd5 "size_of" = true) (k5 : PySem.W.keepIn K (.ref f5) = true)
    (a6 : PySem.W.nsIn K mainGlobals "names_in" = some (some (.ref f6))) (l6 : K.lookup f6 = some ⟨oc6, od6, .func (PySem.W.fnOf "names_in" "names_in" (defArgs s_names_in) (defBody s_names_in) (defScope s_names_in) .none kV6 dc6 pm6 an6 cd6 ct6), sl6⟩) (c6 : PySem.W.codeIn K cd6 "names_in" = true) (k6 : PySem.W.keepIn K (.ref f6) = true)
    (a7 : PySem.W.nsIn K mainGlobals "_law_well" = some (some (.ref f7))) (l7 : K.lookup f7 = some ⟨oc7, od7, .func (PySem.W.fnOf "_law_well" "_law_well" (defArgs s_well) (defBody s_well) (defScope s_well) .none kV7 dc7 pm7 an7 cd7 ct7), sl7⟩) (c7 : PySem.W.codeIn K cd7 "_law_well" = true) (k7 : PySem.W.keepIn K (.ref f7) = true)
    (a8 : PySem.W.nsIn K mainGlobals "_law_drawn" = some (some (.ref f8))) (l8 : K.lookup f8 = some ⟨oc8, od8, .func (PySem.W.fnOf "_law_drawn" "_law_drawn" (defArgs s_drawn) (defBody s_drawn) (defScope s_drawn) .none kV8 dc8 pm8 an8 cd8 ct8), sl8⟩) (c8 : PySem.W.codeIn K cd8 "_law_drawn" = true) (k8 : PySem.W.keepIn K (.ref f8) = true)
    (a9 : PySem.W.nsIn K mainGlobals "_law_one_of" = some (some (.ref f9))) (l9 : K.lookup f9 = some ⟨oc9, od9, .func (PySem.W.fnOf "_law_one_of" "_law_one_of" (defArgs s_one_of) (defBody s_one_of) (defScope s_one_of) .none kV9 dc9 pm9 an9 cd9 ct9), sl9⟩) (c9 : PySem.W.codeIn K cd9 "_law_one_of" = true) (k9 : PySem.W.keepIn K (.ref f9) = true)
    (a10 : PySem.W.nsIn K mainGlobals "_law_name" = some (some (.ref f10))) (l10 : K.lookup f10 = some ⟨oc10, od10, .func (PySem.W.fnOf "_law_name" "_law_name" (defArgs s_name) (defBody s_name) (defScope s_name) .none kV10 dc10 pm10 an10 cd10 ct10), sl10⟩) (c10 : PySem.W.codeIn K cd10 "_law_name" = true) (k10 : PySem.W.keepIn K (.ref f10) = true)
    (a11 : PySem.W.nsIn K mainGlobals "_law_new" = some (some (.ref f11))) (l11 : K.lookup f11 = some ⟨oc11, od11, .func (PySem.W.fnOf "_law_new" "_law_new" (defArgs s_new) (defBody s_new) (defScope s_new) .none kV11 dc11 pm11 an11 cd11 ct11), sl11⟩) (c11 : PySem.W.codeIn K cd11 "_law_new" = true) (k11 : PySem.W.keepIn K (.ref f11) = true)
    (a12 : PySem.W.nsIn K mainGlobals "_law_plan" = some (some (.ref f12))) (l12 : K.lookup f12 = some ⟨oc12, od12, .func (PySem.W.fnOf "_law_plan" "_law_plan" (defArgs s_plan) (defBody s_plan) (defScope s_plan) .none kV12 dc12 pm12 an12 cd12 ct12), sl12⟩) (c12 : PySem.W.codeIn K cd12 "_law_plan" = true) (k12 : PySem.W.keepIn K (.ref f12) = true)
    (a13 : PySem.W.nsIn K mainGlobals "_law_deep" = some (some (.ref f13))) (l13 : K.lookup f13 = some ⟨oc13, od13, .func (PySem.W.fnOf "_law_deep" "_law_deep" (defArgs s_deep) (defBody s_deep) (defScope s_deep) .none kV13 dc13 pm13 an13 cd13 ct13), sl13⟩) (c13 : PySem.W.codeIn K cd13 "_law_deep" = true) (k13 : PySem.W.keepIn K (.ref f13) = true)
    (a14 : PySem.W.nsIn K mainGlobals "_law_terms" = some (some (.ref f14))) (l14 : K.lookup f14 = some ⟨oc14, od14, .func (PySem.W.fnOf "_law_terms" "_law_terms" (defArgs s_terms) (defBody s_terms) (defScope s_terms) .none kV14 dc14 pm14 an14 cd14 ct14), sl14⟩) (c14 : PySem.W.codeIn K cd14 "_law_terms" = true) (k14 : PySem.W.keepIn K (.ref f14) = true)
    (a15 : PySem.W.nsIn K mainGlobals "_law_walked" = some (some (.ref f15))) (l15 : K.lookup f15 = some ⟨oc15, od15, .func (PySem.W.fnOf "_law_walked" "_law_walked" (defArgs s_walked) (defBody s_walked) (defScope s_walked) .none kV15 dc15 pm15 an15 cd15 ct15), sl15⟩) (c15 : PySem.W.codeIn K cd15 "_law_walked" = true) (k15 : PySem.W.keepIn K (.ref f15) = true)
    (a16 : PySem.W.nsIn K mainGlobals "_law_names_of" = some (some (.ref f16))) (l16 : K.lookup f16 = some ⟨oc16, od16, .func (PySem.W.fnOf "_law_names_of" "_law_names_of" (defArgs s_names_of) (defBody s_names_of) (defScope s_names_of) .none kV16 dc16 pm16 an16 cd16 ct16), sl16⟩) (c16 : PySem.W.codeIn K cd16 "_law_names_of" = true) (k16 : PySem.W.keepIn K (.ref f16) = true)
    (a17 : PySem.W.nsIn K mainGlobals "_law_way" = some (some (.ref f17))) (l17 : K.lookup f17 = some ⟨oc17, od17, .func (PySem.W.fnOf "_law_way" "_law_way" (defArgs s_way) (defBody s_way) (defScope s_way) .none kV17 dc17 pm17 an17 cd17 ct17), sl17⟩) (c17 : PySem.W.codeIn K cd17 "_law_way" = true) (k17 : PySem.W.keepIn K (.ref f17) = true)
    (a18 : PySem.W.nsIn K mainGlobals "_law_row_right" = some (some (.ref f18))) (l18 : K.lookup f18 = some ⟨oc18, od18, .func (PySem.W.fnOf "_law_row_right" "_law_row_right" (defArgs s_row_right) (defBody s_row_right) (defScope s_row_right) .none kV18 dc18 pm18 an18 cd18 ct18), sl18⟩) (c18 : PySem.W.codeIn K cd18 "_law_row_right" = true) (k18 : PySem.W.keepIn K (.ref f18) = true)
    (a19 : PySem.W.nsIn K mainGlobals "_law_doubled" = some (some (.ref f19))) (l19 : K.lookup f19 = some ⟨oc19, od19, .func (PySem.W.fnOf "_law_doubled" "_law_doubled" (defArgs s_doubled) (defBody s_doubled) (defScope s_doubled) .none kV19 dc19 pm19 an19 cd19 ct19), sl19⟩) (c19 : PySem.W.codeIn K cd19 "_law_doubled" = true) (k19 : PySem.W.keepIn K (.ref f19) = true)
    (a20 : PySem.W.nsIn K mainGlobals "law" = some (some (.ref f20))) (l20 : K.lookup f20 = some ⟨oc20, od20, .func (PySem.W.fnOf "law" "law" (defArgs s_law) (defBody s_law) (defScope s_law) .none kV20 dc20 pm20 an20 cd20 ct20), sl20⟩) (c20 : PySem.W.codeIn K cd20 "law" = true) (k20 : PySem.W.keepIn K (.ref f20) = true)
    (z_int : PySem.W.nsIn K mainGlobals "int" = some none)
    (z_len : PySem.W.nsIn K mainGlobals "len" = some none)
    (z_list : PySem.W.nsIn K mainGlobals "list" = some none)
    (z_max : PySem.W.nsIn K mainGlobals "max" = some none)
    (z_range : PySem.W.nsIn K mainGlobals "range" = some none)
    (z_repr : PySem.W.nsIn K mainGlobals "repr" = some none)
    (z_sorted : PySem.W.nsIn K mainGlobals "sorted" = some none)
    (z_sum : PySem.W.nsIn K mainGlobals "sum" = some none)
    (z_tuple : PySem.W.nsIn K mainGlobals "tuple" = some none)
    : ∃ fd : FuncData, (∀ (s : Shared) (v : Value), BindsTo s fd ⟨[v], []⟩ [("script", v)]) ∧ ∀ base : Heap, K.In base → base.Ns mainGlobals mg → FnG l.prog w K mg base 6 fa fd ["script"] (sp_law K) := by
  have e := hfa.symm.trans (PySem.W.mg_of X G a20)
  cases e
  have F0 := fun_mk (st := s_functions_of) l0 c0 k0
  have b0 := F0.binds (ps := P_functions_of) fun _ _ _ _ _ _ us hl => match us, hl with | [_], _ => rfl
  have F1 := fun_mk (st := s_tasks_of) l1 c1 k1
  have b1 := F1.binds (ps := P_tasks_of) fun _ _ _ _ _ _ us hl => match us, hl with | [_], _ => rfl
  have F2 := fun_mk (st := s_parts_of) l2 c2 k2
  have b2 := F2.binds (ps := P_parts_of) fun _ _ _ _ _ _ us hl => match us, hl with | [_], _ => rfl
  have F3 := fun_mk (st := s_part_at) l3 c3 k3
  have b3 := F3.binds (ps := P_part_at) fun _ _ _ _ _ _ us hl => match us, hl with | [_, _], _ => rfl
  have F4 := fun_mk (st := s_terms_in) l4 c4 k4
  have b4 := F4.binds (ps := P_terms_in) fun _ _ _ _ _ _ us hl => match us, hl with | [_], _ => rfl
  have F5 := fun_mk (st := s_size_of) l5 c5 k5
  have b5 := F5.binds (ps := P_size_of) fun _ _ _ _ _ _ us hl => match us, hl with | [_], _ => rfl
  have F6 := fun_mk (st := s_names_in) l6 c6 k6
  have b6 := F6.binds (ps := P_names_in) fun _ _ _ _ _ _ us hl => match us, hl with | [_], _ => rfl
  have F7 := fun_mk (st := s_well) l7 c7 k7
  have b7 := F7.binds (ps := P_well) fun _ _ _ _ _ _ us hl => match us, hl with | [_], _ => rfl
  have F8 := fun_mk (st := s_drawn) l8 c8 k8
  have b8 := F8.binds (ps := P_drawn) fun _ _ _ _ _ _ us hl => match us, hl with | [_, _], _ => rfl
  have F9 := fun_mk (st := s_one_of) l9 c9 k9
  have b9 := F9.binds (ps := P_one_of) fun _ _ _ _ _ _ us hl => match us, hl with | [_, _], _ => rfl
  have F10 := fun_mk (st := s_name) l10 c10 k10
  have b10 := F10.binds (ps := P_name) fun _ _ _ _ _ _ us hl => match us, hl with | [_], _ => rfl
  have F11 := fun_mk (st := s_new) l11 c11 k11
  have b11 := F11.binds (ps := P_new) fun _ _ _ _ _ _ us hl => match us, hl with | [_, _, _, _, _], _ => rfl
  have F12 := fun_mk (st := s_plan) l12 c12 k12
  have b12 := F12.binds (ps := P_plan) fun _ _ _ _ _ _ us hl => match us, hl with | [_], _ => rfl
  have F13 := fun_mk (st := s_deep) l13 c13 k13
  have b13 := F13.binds (ps := P_deep) fun _ _ _ _ _ _ us hl => match us, hl with | [_], _ => rfl
  have F14 := fun_mk (st := s_terms) l14 c14 k14
  have b14 := F14.binds (ps := P_terms) fun _ _ _ _ _ _ us hl => match us, hl with | [_], _ => rfl
  have F15 := fun_mk (st := s_walked) l15 c15 k15
  have b15 := F15.binds (ps := P_walked) fun _ _ _ _ _ _ us hl => match us, hl with | [_, _, _], _ => rfl
  have F16 := fun_mk (st := s_names_of) l16 c16 k16
  have b16 := F16.binds (ps := P_names_of) fun _ _ _ _ _ _ us hl => match us, hl with | [_, _], _ => rfl
  have F17 := fun_mk (st := s_way) l17 c17 k17
  have b17 := F17.binds (ps := P_way) fun _ _ _ _ _ _ us hl => match us, hl with | [_, _, _], _ => rfl
  have F18 := fun_mk (st := s_row_right) l18 c18 k18
  have b18 := F18.binds (ps := P_row_right) fun _ _ _ _ _ _ us hl => match us, hl with | [_, _, _, _, _], _ => rfl
  have F19 := fun_mk (st := s_doubled) l19 c19 k19
  have b19 := F19.binds (ps := P_doubled) fun _ _ _ _ _ _ us hl => match us, hl with | [_], _ => rfl
  have F20 := fun_mk (st := s_law) l20 c20 k20
  have b20 := F20.binds (ps := P_law) fun _ _ _ _ _ _ us hl => match us, hl with | [_], _ => rfl
  exact ⟨_, fun s v => .of_eq rfl, fun base _ _ => ok_law { a_functions_of := f0, d_functions_of := _, F_functions_of := F0, g_functions_of := PySem.W.mg_of X G a0, b_functions_of := b0, a_tasks_of := f1, d_tasks_of := _, F_tasks_of := F1, g_tasks_of := PySem.W.mg_of X G a1, b_tasks_of := b1, a_parts_of := f2, d_parts_of := _, F_parts_of := F2, g_parts_of := PySem.W.mg_of X G a2, b_parts_of := b2, a_part_at := f3, d_part_at := _, F_part_at := F3, g_part_at := PySem.W.mg_of X G a3, b_part_at := b3, a_terms_in := f4, d_terms_in := _, F_terms_in := F4, g_terms_in := PySem.W.mg_of X G a4, b_terms_in := b4, a_size_of := f5, d_size_of := _, F_size_of := F5, g_size_of := PySem.W.mg_of X G a5, b_size_of := b5, a_names_in := f6, d_names_in := _, F_names_in := F6, g_names_in := PySem.W.mg_of X G a6, b_names_in := b6, a_well := f7, d_well := _, F_well := F7, g_well := PySem.W.mg_of X G a7, b_well := b7, a_drawn := f8, d_drawn := _, F_drawn := F8, g_drawn := PySem.W.mg_of X G a8, b_drawn := b8, a_one_of := f9, d_one_of := _, F_one_of := F9, g_one_of := PySem.W.mg_of X G a9, b_one_of := b9, a_name := f10, d_name := _, F_name := F10, g_name := PySem.W.mg_of X G a10, b_name := b10, a_new := f11, d_new := _, F_new := F11, g_new := PySem.W.mg_of X G a11, b_new := b11, a_plan := f12, d_plan := _, F_plan := F12, g_plan := PySem.W.mg_of X G a12, b_plan := b12, a_deep := f13, d_deep := _, F_deep := F13, g_deep := PySem.W.mg_of X G a13, b_deep := b13, a_terms := f14, d_terms := _, F_terms := F14, g_terms := PySem.W.mg_of X G a14, b_terms := b14, a_walked := f15, d_walked := _, F_walked := F15, g_walked := PySem.W.mg_of X G a15, b_walked := b15, a_names_of := f16, d_names_of := _, F_names_of := F16, g_names_of := PySem.W.mg_of X G a16, b_names_of := b16, a_way := f17, d_way := _, F_way := F17, g_way := PySem.W.mg_of X G a17, b_way := b17, a_row_right := f18, d_row_right := _, F_row_right := F18, g_row_right := PySem.W.mg_of X G a18, b_row_right := b18, a_doubled := f19, d_doubled := _, F_doubled := F19, g_doubled := PySem.W.mg_of X G a19, b_doubled := b19, a_law := fa, d_law := _, F_law := F20, g_law := PySem.W.mg_of X G a20, b_law := b20, kb_size_of_term := kb0 F5 (fun _ _ _ _ _ _ ws hl => match ws, hl with | [_], _ => rfl) pm0_rel, kb_parts_of_term := kb0 F2 (fun _ _ _ _ _ _ ws hl => match ws, hl with | [_], _ => rfl) pm0_rel, kb_names_in_term := kb0 F6 (fun _ _ _ _ _ _ ws hl => match ws, hl with | [_], _ => rfl) pm0_rel, kb_part_at_way_term := kb0 F3 (fun _ _ _ _ _ _ ws hl => match ws, hl with | [_, _], _ => rfl) pm10_rel, n_int := PySem.W.mg_none_of X G z_int, n_len := PySem.W.mg_none_of X G z_len, n_list := PySem.W.mg_none_of X G z_list, n_max := PySem.W.mg_none_of X G z_max, n_range := PySem.W.mg_none_of X G z_range, n_repr := PySem.W.mg_none_of X G z_repr, n_sorted := PySem.W.mg_none_of X G z_sorted, n_sum := PySem.W.mg_none_of X G z_sum, n_tuple := PySem.W.mg_none_of X G z_tuple }⟩
end K07
open PySem PySem.W PyProof.Rows
set_option maxHeartbeats 0 in
theorem PySem.Challenge.cw_plugcaller_k07_parts_sizes_names_holds : PySem.Challenge.rw_plugcaller_k07_parts_sizes_names.Holds := by
  w_on; o_law; k_head; (case hw => w_witness2)
  k_fill
  refine Zg.walkG (l := PySem.Challenge.rw_plugcaller_k07_parts_sizes_names) (n := 63) (k := 6) (x := "script") (sp := K07.sp_law) rfl (by decide) rfl ⟨rfl, by decide, by decide⟩ (fun w h Y => PySem.W.kIn_of Y) ?F (fun K H a ns hl _ hS => ⟨a, ns, rfl, hS, hl, fun _ => rfl⟩)
  case F =>
    intro w mg fa h KX G hmg
    refine' K07.all_mk KX G hmg ?a0 ?l0 ?c0 ?k0 ?a1 ?l1 ?c1 ?k1 ?a2 ?l2 ?c2 ?k2 ?a3 ?l3 ?c3 ?k3 ?a4 ?l4 ?c4 ?k4 ?a5 ?l5 ?c5 ?k5 ?a6 ?l6 ?c6 ?k6 ?a7 ?l7 ?c7 ?k7 ?a8 ?l8 ?c8 ?k8 ?a9 ?l9 ?c9 ?k9 ?a10 ?l10 ?c10 ?k10 ?a11 ?l11 ?c11 ?k11 ?a12 ?l12 ?c12 ?k12 ?a13 ?l13 ?c13 ?k13 ?a14 ?l14 ?c14 ?k14 ?a15 ?l15 ?c15 ?k15 ?a16 ?l16 ?c16 ?k16 ?a17 ?l17 ?c17 ?k17 ?a18 ?l18 ?c18 ?k18 ?a19 ?l19 ?c19 ?k19 ?a20 ?l20 ?c20 ?k20 ?z_int ?z_len ?z_list ?z_max ?z_range ?z_repr ?z_sorted ?z_sum ?z_tuple
    (case a0 => k_is)
    (case l0 => k_is)
    (case c0 => k_is)
    (case k0 => k_is)
    (case a1 => k_is)
    (case l1 => k_is)
    (case c1 => k_is)
    (case k1 => k_is)
    (case a2 => k_is)
    (case l2 => k_is)
    (case c2 => k_is)
    (case k2 => k_is)
    (case a3 => k_is)
    (case l3 => k_is)
    (case c3 => k_is)
    (case k3 => k_is)
    (case a4 => k_is)
    (case l4 => k_is)
    (case c4 => k_is)
    (case k4 => k_is)
    (case a5 => k_is)
    (case l5 => k_is)
    (case c5 => k_is)
    (case k5 => k_is)
    (case a6 => k_is)
    (case l6 => k_is)
    (case c6 => k_is)
    (case k6 => k_is)
    (case a7 => k_is)
    (case l7 => k_is)
    (case c7 => k_is)
    (case k7 => k_is)
    (case a8 => k_is)
    (case l8 => k_is)
    (case c8 => k_is)
    (case k8 => k_is)
    (case a9 => k_is)
    (case l9 => k_is)
    (case c9 => k_is)
    (case k9 => k_is)
    (case a10 => k_is)
    (case l10 => k_is)
    (case c10 => k_is)
    (case k10 => k_is)
    (case a11 => k_is)
    (case l11 => k_is)
    (case c11 => k_is)
    (case k11 => k_is)
    (case a12 => k_is)
    (case l12 => k_is)
    (case c12 => k_is)
    (case k12 => k_is)
    (case a13 => k_is)
    (case l13 => k_is)
    (case c13 => k_is)
    (case k13 => k_is)
    (case a14 => k_is)
    (case l14 => k_is)
    (case c14 => k_is)
    (case k14 => k_is)
    (case a15 => k_is)
    (case l15 => k_is)
    (case c15 => k_is)
    (case k15 => k_is)
    (case a16 => k_is)
    (case l16 => k_is)
    (case c16 => k_is)
    (case k16 => k_is)
    (case a17 => k_is)
    (case l17 => k_is)
    (case c17 => k_is)
    (case k17 => k_is)
    (case a18 => k_is)
    (case l18 => k_is)
    (case c18 => k_is)
    (case k18 => k_is)
    (case a19 => k_is)
    (case l19 => k_is)
    (case c19 => k_is)
    (case k19 => k_is)
    (case a20 => k_is)
    (case l20 => k_is)
    (case c20 => k_is)
    (case k20 => k_is)
    (case z_int => k_is)
    (case z_len => k_is)
    (case z_list => k_is)
    (case z_max => k_is)
    (case z_range => k_is)
    (case z_repr => k_is)
    (case z_sorted => k_is)
    (case z_sum => k_is)
    (case z_tuple => k_is)
