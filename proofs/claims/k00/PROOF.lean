import PyProof.Rows.All
import Wide.All
import OpenK.AllK
import Wide.FinOn
import KE.KStateDown
import KE.SortKeyHeap
import Lean
import HandS.ForMost
import HandS.More
import HandS.Walk
import HandS.Flow
import HandS.Style
import HandS.Conv
import HandS.Defaults
import HandS.IsInst
import HandS.DictComp
import HandS.SortKw
import HandS.Slots
import HandS.SlotsOwn
import HandS.ClsMeth
import HandS.MakeKwOnly
import HandS.Zip
import HandS.TupAny
import HandS.ListItems
import HandS.CallLocal
import HandS.WordsExc
import HandS.Head0
import HandS.Head1
import HandS.Head2
import HandS.HeadEnd
import HandS.HeadHook1
import HandS.HeadHook2
import HandS.HeadNt
import PySem.Challenge.RW_mendnumber_k00_words_judged_and_ordered
set_option Elab.async false
set_option linter.all false
set_option maxRecDepth 100000
set_option maxHeartbeats 4000000
/-! defs by their names; promises that hold while nothing is being shown (repr) -/
namespace MN
open PySem PySem.Spec PyProof.Rows L2
/-- the def x of the text st, under its name -/
def At (K : PySem.W.Frag) (mg : Str → Option Value) (x : Str) (st : Stmt) : Prop := ∃ f fd, FunD K x x (defArgs st) (defBody st) (defScope st) [] [] f fd ∧ mg x = some (.ref f)
abbrev BindEq (x : Str) (st : Stmt) (ps : List Str) : Prop := ∀ (kV doc pm : Value) (an : Option Addr) (cdv ct : Value) (us : List Value), us.length = ps.length → bindArgs (PySem.W.fnOf x x (defArgs st) (defBody st) (defScope st) .none kV doc pm an cdv ct) ⟨us, []⟩ = pure (ps.zip us)
/-- a def that may be called by its name -/
structure Cal (P : Program) (w : World) (K : PySem.W.Frag) (mg : Str → Option Value) (base : Heap) (k : Nat) (x : Str) (sp : Sp) : Prop where
  ex : ∃ (f : Addr) (fd : FuncData) (ps : List Str), FnOk P w K mg base CX0 k f fd ps sp ∧ mg x = some (.ref f) ∧ PySem.W.keepIn K (.ref f) = true ∧ Binds K fd ps []
/-- FnOk for calls under which nothing is being shown -/
structure FnG (P : Program) (w : World) (K : PySem.W.Frag) (mg : Str → Option Value) (base : Heap) (k : Nat) (f : Addr) (fd : FuncData) (ps : List Str) (sp : Sp) : Prop where
  len : ∀ vs H Q E, sp vs H Q E → vs.length = ps.length
  run : ∀ (A : Around) (outer : List Env) (s : Shared) (H : Hp) (args : Args) (us : List Value) (vs : List V) (Q : VK) (E : XK), A.guards = some [] → Room k A → Env0 P w K mg base A outer s H →
    BindsTo s fd args (ps.zip us) → Vals vs us → sp vs H Q E → codeAny (model P w) A (.call (.ref f) args) (CR CX0 outer P w H s Q E) s
structure CalG (P : Program) (w : World) (K : PySem.W.Frag) (mg : Str → Option Value) (base : Heap) (k : Nat) (x : Str) (sp : Sp) : Prop where
  ex : ∃ (f : Addr) (fd : FuncData) (ps : List Str), FnG P w K mg base k f fd ps sp ∧ mg x = some (.ref f) ∧ PySem.W.keepIn K (.ref f) = true ∧ Binds K fd ps []
section
variable {X : Cx} {k j : Nat} {x : Str} {sp : Sp} {p pos : Pos} {e : Expr} {es : List Expr} {t : TA}
theorem pe_c (c : Cal X.prog X.w X.K X.mg X.base k x sp) (hr : Room j X.A) (hk : k ≤ j) (hg : Gl X x) (ha : PA X (e :: es) t)
    (hdb : (x == ("__debug__" : Str)) = false := by decide) (he : starEach (e :: es) X.env = (false, eval e X.env) :: starEach es X.env := by rfl)
    (hpl : (backTo pos (starEach es X.env)).any (·.1) = false := by rfl) : PE X (.Call (.Name x p) (e :: es) [] pos) (tCall sp [] E0 t) := by
  obtain ⟨f, fd, ps, F, hm, kp, b⟩ := c.ex
  exact pe_call F (hr.mono hk) hg hm kp b .nil pass0 ha hdb he hpl
theorem run_g {f : Addr} {fd : FuncData} {ps : List Str} {pins : List (Addr × Obj)} {σ : L2.St} {H : Hp} {s : Shared} {Q : VK} {us : List Value} {vs : List V} (F : FnG X.prog X.w X.K X.mg X.base k f fd ps sp) (gd : X.A.guards = some []) (hr : Room k X.A)
    (hb : Binds X.K fd ps []) (I : Inv X pins σ H s) (r : Vals vs us) (h : sp vs H Q E0) : wpAny (model X.prog X.w) X.A (call (.ref f) us) (EP X pins σ Q) X.xe s := by
  have hl : us.length = ps.length := r.length.symm.trans (F.len _ _ _ _ h)
  have hb' := hb s us I.kIn (by rw [List.append_nil]; exact hl)
  rw [List.append_nil] at hb'
  refine wpAny_call (codeAny_mono (F.run X.A X.stack s H ⟨us, []⟩ us vs Q E0 gd hr I.env0 hb' r h) fun r s' hq => ?_)
  match r, hq with
  | .ok (.ret u), hq => exact I.after hq
theorem pe_cG (c : CalG X.prog X.w X.K X.mg X.base k x sp) (gd : X.A.guards = some []) (hr : Room j X.A) (hk : k ≤ j) (hg : Gl X x) (ha : PA X (e :: es) t)
    (hdb : (x == ("__debug__" : Str)) = false := by decide) (he : starEach (e :: es) X.env = (false, eval e X.env) :: starEach es X.env := by rfl)
    (hpl : (backTo pos (starEach es X.env)).any (·.1) = false := by rfl) : PE X (.Call (.Name x p) (e :: es) [] pos) (tCall sp [] E0 t) := by
  obtain ⟨f, fd, ps, F, hm, kp, b⟩ := c.ex
  refine ⟨fun pins s σ H Q I h => ?_⟩
  refine wpAny_Call_Name_kw (ld_glob I hg hm ?_ hdb)
  refine PySem.W.callWith_K (h₀ := X.base) I.ok.mod.kin kp (thn (ha.run pos pins s σ H _ I h) fun us s1 ⟨vs, H1, I1, r, q⟩ => ⟨I1.kIn, ?_⟩) he hpl
  exact run_g F gd (hr.mono hk) b I1 r (List.append_nil vs ▸ (show sp (vs ++ []) H1 Q E0 from q))
/-- a constant of the module -/
theorem pe_gl {v : V} (hg : Gl X x) (h : ∃ u, X.mg x = some u ∧ RelV v u) (hd : (x == ("__debug__" : Str)) = false := by decide) : PE X (.Name x pos) (tC v) := by
  obtain ⟨u, hm, r⟩ := h
  exact pe_glob hg hm r hd
end
section
variable {P : Program} {w : World} {K : PySem.W.Frag} {mg : Str → Option Value} {base : Heap}
theorem Cal.g {k : Nat} {x : Str} {sp : Sp} (c : Cal P w K mg base k x sp) : CalG P w K mg base k x sp := by
  obtain ⟨f, fd, ps, F, hm, kp, b⟩ := c.ex
  exact ⟨f, fd, ps, ⟨F.len, fun A outer s H args us vs Q E _ => F.run A outer s H args us vs Q E⟩, hm, kp, b⟩
theorem cal_of {x : Str} {st : Stmt} {N ps : List Str} {k : Nat} {sp : Sp} (A : At K mg x st) (S : FnScope N ps (defScope st)) (hb : BindEq x st ps)
    (len : ∀ vs H Q E, sp vs H Q E → vs.length = ps.length)
    (hbody : ∀ (f : Addr) (cdv : Value) (A : Around) (outer : List Env) (s : Shared) (H : Hp) (vs : List V) (Q : VK) (E : XK), Room k (A.deeper (envOfC x (defScope st) s.heap.objs.size f cdv)) → sp vs H Q E →
      ∃ t, PSs (cxOf CX0 P w K mg base N x (defScope st) f cdv A outer s H E).nox (defBody st) t ∧ t { nx := fun _ H' => Q .non H', rt := Q } (start N vs) H) : Cal P w K mg base (k + 1) x sp := by
  obtain ⟨f, fd, F, hm⟩ := A
  refine ⟨f, fd, ps, F.ok S len fun cdv A outer s H vs Q E hr h => ?_, hm, F.kp, F.bindsN hb⟩
  obtain ⟨t, h1, h2⟩ := hbody f cdv A outer s H vs Q E hr h
  exact ⟨t, h1.nox, h2⟩
theorem fnG_of {x : Str} {st : Stmt} {N ps : List Str} {k : Nat} {sp : Sp} {f : Addr} {fd : FuncData} (F : FunD K x x (defArgs st) (defBody st) (defScope st) [] [] f fd) (S : FnScope N ps (defScope st))
    (len : ∀ vs H Q E, sp vs H Q E → vs.length = ps.length)
    (hbody : ∀ (cdv : Value) (A : Around) (outer : List Env) (s : Shared) (H : Hp) (vs : List V) (Q : VK) (E : XK), (A.deeper (envOfC x (defScope st) s.heap.objs.size f cdv)).guards = some [] → Room k (A.deeper (envOfC x (defScope st) s.heap.objs.size f cdv)) → sp vs H Q E →
      ∃ t, PSs (cxOf CX0 P w K mg base N x (defScope st) f cdv A outer s H E).nox (defBody st) t ∧ t { nx := fun _ H' => Q .non H', rt := Q } (start N vs) H) : FnG P w K mg base (k + 1) f fd ps sp := by
  refine ⟨len, fun A outer s H args us vs Q E gd hr e0 hb r hsp => ?_⟩
  obtain ⟨oc, od, dV, kV, doc, pm, an, cdv, ct, osl, rfl, lk, hcd, -, -⟩ := F.ex
  have kin : ∀ b o, base.get? b = some o → s.heap.get? b = some o := fun b o e => (e0.bs b o e).1
  have KX : K.In s.heap := e0.mod.kin.keeps kin
  refine codeAny_call_function hr.depth (KX _ _ lk) rfl S.co S.gen rfl (PySem.W.codeRec_of KX hcd) (hb _ _ _ _ ?_)
  refine wpAny_newFunctionEnv_cells S.kind (fun y hy => (S.par y.1 (List.of_mem_zip hy).1).imp id fun q => ⟨q, PySem.W.cellsFrom_some _ _ _ (.inl q)⟩) fun env he s1 ic => ?_
  cases he
  refine ⟨(e0.mod.nolimit.keeps kin).keeps ic.toInCall.keep, codeAny_func ?_⟩
  obtain ⟨t, ht, hq⟩ := hbody cdv A outer s H vs Q E gd (hr.deeper _) hsp
  have I : Inv (cxOf CX0 P w K mg base N x (defScope st) f cdv A outer s H E) [] (start N vs) H s1 := inv_start S hr.hd e0 (len _ _ _ _ hsp) r ic
  refine wpAny_mono (ht.nox.run [] s1 (start N vs) H _ I hq) (fun fl s' hs => ?_) fun _ _ hs => hs
  match fl, hs with
  | .ret u, ⟨v, σ', H', J, rv, q⟩ => exact ⟨v, H', J.os, J.bare, J.base, J.hok, rv, q⟩
  | .next, ⟨σ', H', J, q⟩ => exact ⟨V.non, H', J.os, J.bare, J.base, J.hok, rfl, q⟩
  | .brk, ⟨_, _, _, q⟩ => exact q.elim
  | .cont, ⟨_, _, _, q⟩ => exact q.elim
theorem calG_of {x : Str} {st : Stmt} {N ps : List Str} {k : Nat} {sp : Sp} (A : At K mg x st) (S : FnScope N ps (defScope st)) (hb : BindEq x st ps)
    (len : ∀ vs H Q E, sp vs H Q E → vs.length = ps.length)
    (hbody : ∀ (f : Addr) (cdv : Value) (A : Around) (outer : List Env) (s : Shared) (H : Hp) (vs : List V) (Q : VK) (E : XK), (A.deeper (envOfC x (defScope st) s.heap.objs.size f cdv)).guards = some [] → Room k (A.deeper (envOfC x (defScope st) s.heap.objs.size f cdv)) → sp vs H Q E →
      ∃ t, PSs (cxOf CX0 P w K mg base N x (defScope st) f cdv A outer s H E).nox (defBody st) t ∧ t { nx := fun _ H' => Q .non H', rt := Q } (start N vs) H) : CalG P w K mg base (k + 1) x sp := by
  obtain ⟨f, fd, F, hm⟩ := A
  exact ⟨f, fd, ps, fnG_of F S len (hbody f), hm, F.kp, F.bindsN hb⟩
end
end MN
/-! the end of a law's row: its def called where nothing is being shown -/
namespace MN
open PySem PySem.Spec PyProof.Rows L2
theorem law_g {P : Program} {w : World} {K : PySem.W.Frag} {mg mb : Str → Option Value} {k : Nat} {fa a : Addr} {fd : FuncData} {x : Str} {sp : Sp} {s₁ : Shared} {vs : List Value} {ns : List Int}
    (KX : K.In s₁.heap) (hns : s₁.heap.Ns mainGlobals mg) (hb : s₁.heap.Ns builtinsNs mb) (hbb : ∀ x : Str, x ≠ "__name__" → mb x = bootBuiltins x) (hlim : s₁.heap.NoLimit) (hg : s₁.gens = #[])
    (ha : s₁.heap.get? a = some { cls := .type "list", data := .seq vs.toArray }) (hi : IntsAre vs ns) (hl : ns.length ≤ sizeLine) (hr : Room k callerA)
    (F : ∀ base : Heap, K.In base → base.Ns mainGlobals mg → FnG P w K mg base k fa fd [x] sp) (hbind : ∀ (s : Shared) (u : Value), BindsTo s fd ⟨[u], []⟩ [(x, u)])
    (hsp : ∀ H : Hp, Only H → SqL K H a (ns.map V.int) → sp [.ref a] H (fun v _ => v = .bl true) E0) :
    codeAny (model P w) callerA (.call (.ref fa) ⟨[.ref a], []⟩) (fun r s' => r = .ok (.ret (.bool true)) ∧ OldK s₁.heap s'.heap ∧ s'.os = s₁.os ∧ AllBare s'.gens) s₁ := by
  have rv := vals_ints hi
  have core : ∀ H : Hp, Only H → SqL K H a (ns.map V.int) → HOk P w H s₁.heap → (∀ b u, H b = some u → b = a ∧ K.lookup a = none) →
      codeAny (model P w) callerA (.call (.ref fa) ⟨[.ref a], []⟩) (fun r s' => r = .ok (.ret (.bool true)) ∧ OldK s₁.heap s'.heap ∧ s'.os = s₁.os ∧ AllBare s'.gens) s₁ := by
    intro H hO hS hok hA
    have free : ∀ {b : Addr}, b ≠ a → H b = none := fun {b} hb => by
      cases q : H b with
      | none => rfl
      | some u => exact absurd (hA b u q).1 hb
    have nsK : ∀ {b : Addr} {m : Str → Option Value}, s₁.heap.Ns b m → (hidT s₁.heap H).Ns b m := fun {b m} ⟨o, es, ep, e, d, r⟩ => by
      refine ⟨o, es, ep, hidT_get e (free fun z => ?_), d, r⟩
      rw [z, ha] at e
      cases e
      cases (show Data.seq vs.toArray _ = Data.dict es ep from d)
    have hKb : K.In (hidT s₁.heap H) := fun b o e => by
      refine hidT_get (KX b o e) ?_
      cases q : H b with
      | none => rfl
      | some u =>
        obtain ⟨z, zk⟩ := hA b u q
        rw [z, zk] at e
        cases e
    have hM : Mod K mg (hidT s₁.heap H) := by
      obtain ⟨mc, h1, h2⟩ := hlim
      exact ⟨hKb, nsK hns, ⟨mb, nsK hb, hbb⟩, ⟨mc, nsK h1, h2⟩⟩
    have e0 : Env0 P w K mg (hidT s₁.heap H) callerA [] s₁ H := by
      refine ⟨rfl, hM, fun b o e => of_hidT e, Nat.le_of_eq (hidT_size _ _), trivial, fun b hb => ?_, hok, .of_eq hg⟩
      cases (show b ∈ ([] : List Addr) from hb)
    refine codeAny_mono ((F _ hKb (nsK hns)).run callerA [] s₁ H ⟨[.ref a], []⟩ [.ref a] [.ref a] _ _ rfl hr e0 (hbind s₁ (.ref a)) (.cons rfl .nil) (hsp H hO hS)) fun r s' h => ?_
    match r, h with
    | .ok (.ret u), ⟨v, H', os, bare, un, hok', r', q⟩ =>
      cases (show v = .bl true from q)
      cases (show u = Value.bool true from r')
      refine ⟨rfl, OldK.of_keep fun b o e => ?_, os, bare⟩
      rcases hO b with z | ⟨ob, xs, z⟩
      · exact un.keep b o e z (fun y => nomatch (show b ∈ ([] : List Addr) from y)) (fun y => nomatch (show b ∈ ([] : List Addr) from y))
      · have e1 := (hok b _ z).1
        have e2 := (hok' b _ (un.frzs b ob _ z)).1
        rw [e] at e1
        cases e1
        exact e2
  cases hk : K.lookup a with
  | some o =>
    have e := KX a o hk
    rw [ha] at e
    cases e
    refine core (fun _ => none) (fun _ => .inl rfl) (.inr ⟨_, vs.toArray, _, hk, rfl, rfl, rfl, ?_, by simpa using rv⟩) (fun _ _ z => nomatch z) (fun _ _ z => nomatch z)
    rw [List.size_toArray, hi.length]
    exact hl
  | none =>
    let o : Obj := { cls := .type "list", data := .seq vs.toArray }
    have at_ : ∀ b u, upd (fun _ => none) a (.frz o (.lst (ns.map V.int))) b = some u → b = a ∧ u = .frz o (.lst (ns.map V.int)) := fun b u q => by
      by_cases z : b = a
      · subst z
        rw [upd_same] at q
        exact ⟨rfl, (Option.some.inj q).symm⟩
      · rw [upd_ne z] at q
        cases q
    refine core (upd (fun _ => none) a (.frz o (.lst (ns.map V.int)))) (fun b => ?_) (.inl (.inr ⟨o, upd_same⟩)) (fun b u q => ?_) (fun b u q => ⟨(at_ b u q).1, hk⟩)
    · by_cases z : b = a
      · subst z; exact .inr ⟨_, _, upd_same⟩
      · exact .inl (upd_ne z)
    · obtain ⟨rfl, rfl⟩ := at_ b u q
      exact ⟨ha, by rw [List.length_map]; exact hl, vs, _, rv, ha⟩
theorem walk_g {l : PySem.W.OpenLaw} {n k : Nat} {q : Program} {loose : List Str} {XP : (Str → Option Value) → Heap → Prop} {YP : World → Heap → Prop} {d : DefRec} {x : Str}
    (hn : l.most = some n) (hn2 : n ≤ sizeLine) (hdf : d.params.defaults = []) (hr : Room k callerA)
    (F : ∀ (w : World) (mg : Str → Option Value) (fa : Addr) (h : Heap), YP w h → h.Ns mainGlobals mg → mg d.name = some (.ref fa) →
      ∃ (K : PySem.W.Frag) (fd : FuncData) (sp : Sp), K.In h ∧ (∀ (s : Shared) (u : Value), BindsTo s fd ⟨[u], []⟩ [(x, u)]) ∧
        (∀ (H : Hp) (a : Addr) (ns : List Int), ns.length ≤ n → Only H → SqL K H a (ns.map V.int) → sp [.ref a] H (fun v _ => v = .bl true) E0) ∧
        ∀ base : Heap, K.In base → base.Ns mainGlobals mg → FnG l.prog w K mg base k fa fd [x] sp) :
    PySem.W.WalkO q loose XP YP l.row.toRowW d [] (fun f vs => PySem.call f vs) := by
  refine Att.attach_call hn hdf fun w s₀ s₁ mg mb fa o pm cd doc a vs ns G Y ho hd hcd hmg hobj hints hlen hg => ?_
  obtain ⟨K, fd, sp, KX, hb, hsp, hF⟩ := F w mg fa _ Y G.T.g hmg
  exact law_g KX G.T.g G.T.b G.T.builtins G.T.nolimit hg hobj hints (Nat.le_trans hlen hn2) hr hF hb fun H hO hS => hsp H a ns hlen hO hS
end MN
namespace MN
open PySem L2
def top (i : Nat) : Stmt := PySem.Challenge.pw_mendnumber_k00_words_judged_and_ordered.main.body.getD i (.Pass ⟨0, 0, 0, 0⟩)
end MN
/-! comprehensions whose tests and items leave the heap as it is -/
namespace MN
open PySem PySem.Spec PyProof.Rows L2
theorem seqL_upd {K : PySem.W.Frag} {H : Hp} {a D : Addr} {xs : List V} {o : HO} (h : SqL K H a xs) (hD : H D = none) : SqL K (upd H D o) a xs := by
  rcases h with (h | ⟨o, h⟩) | h
  · exact .inl (.inl (by rw [upd_ne (ne_of_none h hD)]; exact h))
  · exact .inl (.inr ⟨o, by rw [upd_ne (ne_of_none h hD)]; exact h⟩)
  · exact .inr h
theorem seqT_upd {K : PySem.W.Frag} {H : Hp} {a D : Addr} {xs : List V} {o : HO} (h : SqT K H a xs) (hD : H D = none) : SqT K (upd H D o) a xs := by
  rcases h with (h | ⟨o, h⟩) | h
  · exact .inl (.inl (by rw [upd_ne (ne_of_none h hD)]; exact h))
  · exact .inl (.inr ⟨o, by rw [upd_ne (ne_of_none h hD)]; exact h⟩)
  · exact .inr h
theorem Same.seqT {K : PySem.W.Frag} {H H' : Hp} {a : Addr} {xs : List V} (e : Same H H') (h : SqT K H a xs) : SqT K H' a xs := by
  rcases h with (h | ⟨o, h⟩) | h
  · exact .inl (.inl (e _ _ h))
  · exact .inl (.inr ⟨o, e _ _ h⟩)
  · exact .inr h
/-- the reading of a comprehension, from where its source's walk is known -/
abbrev LcGoal (J : It) (g : TG) (tt : TT) (te : TE) (vs : List Nat) (σ : L2.St) (H1 : Hp) (D : Addr) (Qd : Hp → Prop) : Prop := ∃ W : Nat → Nat → Hp → Prop, (∃ m, W 0 m (upd H1 D (.lst []))) ∧ ∀ i m H, W i m H →
  (J.stop i H ∧ Qd H) ∨ (J.go i H ∧ ∃ Nx : Hp → Prop, (∀ H', Nx H' → ∃ m', m' < m ∧ W (i + 1) m' H') ∧ ∀ x H', J.yld i H x H' → g x (wipe σ vs) H' fun σ2 H2 => wipe σ2 vs = wipe σ vs ∧ tt σ2 H2 fun b H3 =>
    if b = true then te σ2 H3 fun y H4 => ∃ acc, H4 D = some (.lst acc) ∧ acc.length < sizeLine ∧ Nx (upd H4 D (.lst (acc ++ [y]))) else Nx H3)
theorem lc_pure {J : It} {n : Nat} {G : Hp → Prop} {Y : Nat → Hp → V → Hp → Prop} (w : Walk J n G Y) (xs : List V) (hn : xs.length = n) (hz : n ≤ 1000000) (hY : ∀ i H x H', i < n → Y i H x H' → H' = H ∧ xs[i]? = some x)
    {j : Nat} {tt : TT} {te : TE} {vs : List Nat} {σ : L2.St} {H1 : Hp} {D : Addr} {Qd : Hp → Prop} (f : V → Bool) (v : V → V) (hG : ∀ acc, G (upd H1 D (.lst acc)))
    (hw : ∀ x ∈ xs, wipe ((wipe σ vs).set j (some x)) vs = wipe σ vs)
    (ht : ∀ x ∈ xs, ∀ (acc : List V) (Q : Bool → Hp → Prop), Q (f x) (upd H1 D (.lst acc)) → tt ((wipe σ vs).set j (some x)) (upd H1 D (.lst acc)) Q)
    (he : ∀ x ∈ xs, f x = true → ∀ (acc : List V) (Q : VK), Q (v x) (upd H1 D (.lst acc)) → te ((wipe σ vs).set j (some x)) (upd H1 D (.lst acc)) Q)
    (hd : Qd (upd H1 D (.lst ((xs.filter f).map v)))) : LcGoal J (gName j) tt te vs σ H1 D Qd := by
  refine lc_it w (fun i H' => H' = upd H1 D (.lst (((xs.take i).filter f).map v))) (by rw [List.take_zero]; rfl) (fun i H' _ e => by rw [e]; exact hG _) (fun i x H H' hi e y => ?_) (fun H' e => ?_)
  · obtain ⟨rfl, hx⟩ := hY i H x H' hi y
    subst e
    have hm : x ∈ xs := List.mem_of_getElem? hx
    have tk : xs.take (i + 1) = xs.take i ++ [x] := by rw [List.take_add_one, hx]; rfl
    refine ⟨hw x hm, ht x hm _ _ ?_⟩
    cases hf : f x with
    | false =>
      refine iteF ?_
      rw [tk, List.filter_append, List.filter_cons, hf]
      simp
    | true =>
      refine iteT (he x hm hf _ _ ⟨_, upd_same, ?_, ?_⟩)
      · rw [List.length_map]
        refine Nat.lt_of_le_of_lt (List.length_filter_le _ _) (Nat.lt_of_le_of_lt (List.length_take_le _ _) ?_)
        have : 1000000 < sizeLine := by decide
        omega
      · rw [upd_upd, tk, List.filter_append, List.filter_cons, hf]
        simp
  · rw [e, ← hn, List.take_length]
    exact hd
section
variable {K : PySem.W.Frag} {j : Nat} {tt : TT} {te : TE} {vs : List Nat} {σ : L2.St} {H1 : Hp} {D a : Addr} {Qd : Hp → Prop}
def signsOf (z : Str) : List V := z.cps.toList.map fun c => V.str ⟨#[c]⟩
theorem lc_str {z : Str} (hz : z.length ≤ 1000000) (f : V → Bool) (v : V → V) (hw : ∀ x ∈ signsOf z, wipe ((wipe σ vs).set j (some x)) vs = wipe σ vs)
    (ht : ∀ x ∈ signsOf z, ∀ (acc : List V) (Q : Bool → Hp → Prop), Q (f x) (upd H1 D (.lst acc)) → tt ((wipe σ vs).set j (some x)) (upd H1 D (.lst acc)) Q)
    (he : ∀ x ∈ signsOf z, f x = true → ∀ (acc : List V) (Q : VK), Q (v x) (upd H1 D (.lst acc)) → te ((wipe σ vs).set j (some x)) (upd H1 D (.lst acc)) Q)
    (hd : Qd (upd H1 D (.lst (((signsOf z).filter f).map v)))) : LcGoal (Its z) (gName j) tt te vs σ H1 D Qd := by
  refine lc_pure walk_str (signsOf z) (by simp [signsOf]) hz (fun i H x H' hi y => ?_) f v (fun _ => trivial) hw ht he hd
  obtain ⟨e, c, hc, rfl⟩ := y
  refine ⟨e, ?_⟩
  simp [signsOf, hc]
theorem lc_lst {xs : List V} (hs : SqL K H1 a xs) (hD : H1 D = none) (hz : xs.length ≤ 1000000) (f : V → Bool) (v : V → V) (hw : ∀ x ∈ xs, wipe ((wipe σ vs).set j (some x)) vs = wipe σ vs)
    (ht : ∀ x ∈ xs, ∀ (acc : List V) (Q : Bool → Hp → Prop), Q (f x) (upd H1 D (.lst acc)) → tt ((wipe σ vs).set j (some x)) (upd H1 D (.lst acc)) Q)
    (he : ∀ x ∈ xs, f x = true → ∀ (acc : List V) (Q : VK), Q (v x) (upd H1 D (.lst acc)) → te ((wipe σ vs).set j (some x)) (upd H1 D (.lst acc)) Q)
    (hd : Qd (upd H1 D (.lst ((xs.filter f).map v)))) : LcGoal (Itl K a) (gName j) tt te vs σ H1 D Qd :=
  lc_pure walk_list xs rfl hz (fun _ _ _ _ _ y => y) f v (fun _ => seqL_upd hs hD) hw ht he hd
theorem lc_tpl {xs : List V} (hs : SqT K H1 a xs) (hD : H1 D = none) (hz : xs.length ≤ 1000000) (f : V → Bool) (v : V → V) (hw : ∀ x ∈ xs, wipe ((wipe σ vs).set j (some x)) vs = wipe σ vs)
    (ht : ∀ x ∈ xs, ∀ (acc : List V) (Q : Bool → Hp → Prop), Q (f x) (upd H1 D (.lst acc)) → tt ((wipe σ vs).set j (some x)) (upd H1 D (.lst acc)) Q)
    (he : ∀ x ∈ xs, f x = true → ∀ (acc : List V) (Q : VK), Q (v x) (upd H1 D (.lst acc)) → te ((wipe σ vs).set j (some x)) (upd H1 D (.lst acc)) Q)
    (hd : Qd (upd H1 D (.lst ((xs.filter f).map v)))) : LcGoal (Itt K a) (gName j) tt te vs σ H1 D Qd :=
  lc_pure walk_tup xs rfl hz (fun _ _ _ _ _ y => y) f v (fun _ => seqT_upd hs hD) hw ht he hd
def rangeV (n : Nat) : List V := (List.range n).map fun (i : Nat) => V.int (i : Int)
theorem lc_rng {n : Nat} (hz : n ≤ 1000000) (f : V → Bool) (v : V → V) (hw : ∀ x ∈ rangeV n, wipe ((wipe σ vs).set j (some x)) vs = wipe σ vs)
    (ht : ∀ x ∈ rangeV n, ∀ (acc : List V) (Q : Bool → Hp → Prop), Q (f x) (upd H1 D (.lst acc)) → tt ((wipe σ vs).set j (some x)) (upd H1 D (.lst acc)) Q)
    (he : ∀ x ∈ rangeV n, f x = true → ∀ (acc : List V) (Q : VK), Q (v x) (upd H1 D (.lst acc)) → te ((wipe σ vs).set j (some x)) (upd H1 D (.lst acc)) Q)
    (hd : Qd (upd H1 D (.lst (((rangeV n).filter f).map v)))) : LcGoal (Itr 0 n) (gName j) tt te vs σ H1 D Qd := by
  refine lc_pure (walk_range (lo := 0)) (rangeV n) (by simp [rangeV]) hz (fun i H x H' hi y => ?_) f v (fun _ => trivial) hw ht he hd
  obtain ⟨e1, e2⟩ := y
  refine ⟨e1, ?_⟩
  simp [rangeV, hi, e2]
end
/-- tests and items may lay new objects -/
theorem lc_ext {J : It} {n : Nat} {G : Hp → Prop} {Y : Nat → Hp → V → Hp → Prop} (w : Walk J n G Y) (xs : List V) (hn : xs.length = n) (hz : n ≤ 1000000) (hY : ∀ i H x H', i < n → Y i H x H' → H' = H ∧ xs[i]? = some x)
    {j : Nat} {tt : TT} {te : TE} {vs : List Nat} {σ : L2.St} {H1 : Hp} {D : Addr} {Qd : Hp → Prop} (hD : H1 D = none) (f : V → Bool) (v : V → V) (hG : ∀ H', Same H1 H' → G H')
    (hw : ∀ x ∈ xs, wipe ((wipe σ vs).set j (some x)) vs = wipe σ vs)
    (ht : ∀ x ∈ xs, ∀ H2, Same H1 H2 → ∀ (Q : Bool → Hp → Prop), (∀ H3, Same H2 H3 → Q (f x) H3) → tt ((wipe σ vs).set j (some x)) H2 Q)
    (he : ∀ x ∈ xs, f x = true → ∀ H2, Same H1 H2 → ∀ (Q : VK), (∀ H3, Same H2 H3 → Q (v x) H3) → te ((wipe σ vs).set j (some x)) H2 Q)
    (hd : ∀ H', Same H1 H' → H' D = some (.lst ((xs.filter f).map v)) → Qd H') : LcGoal J (gName j) tt te vs σ H1 D Qd := by
  refine lc_it w (fun i H' => Same H1 H' ∧ H' D = some (.lst (((xs.take i).filter f).map v))) ⟨fun b o e => by rw [upd_ne (ne_of_none e hD)]; exact e, by rw [List.take_zero]; exact upd_same⟩ (fun i H' _ e => hG _ e.1) (fun i x H H' hi e y => ?_) (fun H' e => ?_)
  · obtain ⟨rfl, hx⟩ := hY i H x H' hi y
    obtain ⟨e1, e2⟩ := e
    have hm : x ∈ xs := List.mem_of_getElem? hx
    have tk : xs.take (i + 1) = xs.take i ++ [x] := by rw [List.take_add_one, hx]; rfl
    refine ⟨hw x hm, ht x hm _ e1 _ fun H3 e3 => ?_⟩
    cases hf : f x with
    | false =>
      refine iteF ⟨e1.trans e3, ?_⟩
      rw [tk, List.filter_append, List.filter_cons, hf]
      simpa using e3 _ _ e2
    | true =>
      refine iteT (he x hm hf _ (e1.trans e3) _ fun H4 e4 => ⟨_, e4 _ _ (e3 _ _ e2), ?_, fun b o q => ?_, ?_⟩)
      · rw [List.length_map]
        refine Nat.lt_of_le_of_lt (List.length_filter_le _ _) (Nat.lt_of_le_of_lt (List.length_take_le _ _) ?_)
        have : 1000000 < sizeLine := by decide
        omega
      · rw [upd_ne (ne_of_none q hD)]
        exact e4 _ _ (e3 _ _ (e1 _ _ q))
      · rw [upd_same, tk, List.filter_append, List.filter_cons, hf]
        simp
  · rw [← hn, List.take_length] at e
    exact hd H' e.1 e.2
section
variable {K : PySem.W.Frag} {j : Nat} {tt : TT} {te : TE} {vs : List Nat} {σ : L2.St} {H1 : Hp} {D a : Addr} {Qd : Hp → Prop}
theorem lc_tplE {xs : List V} (hs : SqT K H1 a xs) (hD : H1 D = none) (hz : xs.length ≤ 1000000) (f : V → Bool) (v : V → V) (hw : ∀ x ∈ xs, wipe ((wipe σ vs).set j (some x)) vs = wipe σ vs)
    (ht : ∀ x ∈ xs, ∀ H2, Same H1 H2 → ∀ (Q : Bool → Hp → Prop), (∀ H3, Same H2 H3 → Q (f x) H3) → tt ((wipe σ vs).set j (some x)) H2 Q)
    (he : ∀ x ∈ xs, f x = true → ∀ H2, Same H1 H2 → ∀ (Q : VK), (∀ H3, Same H2 H3 → Q (v x) H3) → te ((wipe σ vs).set j (some x)) H2 Q)
    (hd : ∀ H', Same H1 H' → H' D = some (.lst ((xs.filter f).map v)) → Qd H') : LcGoal (Itt K a) (gName j) tt te vs σ H1 D Qd :=
  lc_ext walk_tup xs rfl hz (fun _ _ _ _ _ y => y) hD f v (fun _ e => Same.seqT e hs) hw ht he hd
theorem lc_lstE {xs : List V} (hs : SqL K H1 a xs) (hD : H1 D = none) (hz : xs.length ≤ 1000000) (f : V → Bool) (v : V → V) (hw : ∀ x ∈ xs, wipe ((wipe σ vs).set j (some x)) vs = wipe σ vs)
    (ht : ∀ x ∈ xs, ∀ H2, Same H1 H2 → ∀ (Q : Bool → Hp → Prop), (∀ H3, Same H2 H3 → Q (f x) H3) → tt ((wipe σ vs).set j (some x)) H2 Q)
    (he : ∀ x ∈ xs, f x = true → ∀ H2, Same H1 H2 → ∀ (Q : VK), (∀ H3, Same H2 H3 → Q (v x) H3) → te ((wipe σ vs).set j (some x)) H2 Q)
    (hd : ∀ H', Same H1 H' → H' D = some (.lst ((xs.filter f).map v)) → Qd H') : LcGoal (Itl K a) (gName j) tt te vs σ H1 D Qd :=
  lc_ext walk_list xs rfl hz (fun _ _ _ _ _ y => y) hD f v (fun _ e => Same.seq e hs) hw ht he hd
end
theorem yes_q {σ : L2.St} {H : Hp} {Q : Bool → Hp → Prop} (h : Q true H) : tYes σ H Q := h
theorem filter_all {xs : List V} : xs.filter (fun _ => true) = xs := by simp
end MN
namespace MN
open PySem PySem.Spec PyProof.Rows L2
/-- the built-in names that no def of the module hides; the signs -/
structure Blt (mg : Str → Option Value) : Prop where
  isinstance : mg "isinstance" = none
  str : mg "str" = none
  len : mg "len" = none
  all : mg "all" = none
  tuple : mg "tuple" = none
  int : mg "int" = none
  bool : mg "bool" = none
  list : mg "list" = none
  dict : mg "dict" = none
  range : mg "range" = none
  sorted : mg "sorted" = none
  zip : mg "zip" = none
  max : mg "max" = none
  min : mg "min" = none
  abs : mg "abs" = none
  repr : mg "repr" = none
  SIGNS : ∃ u, mg "SIGNS" = some u ∧ RelV (.str "abcde") u
def bltNames : List Str := ([("isinstance" : Str), ("str" : Str), ("len" : Str), ("all" : Str), ("tuple" : Str), ("int" : Str), ("bool" : Str), ("list" : Str)] : List Str) ++ ([("dict" : Str), ("range" : Str), ("sorted" : Str), ("zip" : Str), ("max" : Str), ("min" : Str), ("abs" : Str), ("repr" : Str)] : List Str)
theorem Blt.of {mg : Str → Option Value} (h : ∀ x ∈ bltNames, mg x = none) (hs : ∃ u, mg "SIGNS" = some u ∧ RelV (.str "abcde") u) : Blt mg := by
  refine ⟨h _ ?_, h _ ?_, h _ ?_, h _ ?_, h _ ?_, h _ ?_, h _ ?_, h _ ?_, h _ ?_, h _ ?_, h _ ?_, h _ ?_, h _ ?_, h _ ?_, h _ ?_, h _ ?_, hs⟩ <;> simp [bltNames]
end MN
/-! rules of one's own: repr of data, powers, texts repeated, a tuple turned round -/
namespace MN
open PySem PySem.Spec PyProof.Rows L2
section
variable {X : Cx}
/-- repr of lists and tuples of data -/
def rRepr (K : PySem.W.Frag) : List V → Hp → VK → Prop := fun xs H Q => ∃ (x : V) (d : PyData), xs = [x] ∧ Dp K H x d ∧ isDisplay d = true ∧ d.showable = true ∧ d.hasDict = false ∧ d.depth ≤ 60 ∧ d.shown.length ≤ sizeLine ∧ Q (.str d.shown) H
theorem call_repr (gd : X.A.guards = some []) (hu : X.A.units + 64 < cLine) : CallR X (.builtin "repr") (rRepr X.K) := by
  intro pins s σ H vs us Q I r h
  obtain ⟨x, d, rfl, hd, h1, h2, h3, h4, h5, q⟩ := h
  cases r with
  | cons rx rn =>
    cases rn
    obtain ⟨as, rd⟩ := Dp.reads I d x _ hd rx
    obtain ⟨a, rfl⟩ := isRef_of_reads rd h1
    refine repr_of_reads' rd h2 (PyData.noDict_hsm h3) gd (by omega) (fun _ _ e => e) (fun h' u tk hk => ?_) h5
    exact ⟨.str d.shown, H, I.kept hk, ⟨u, rfl⟩, q⟩
/-- i ** j, as far as the bits go -/
theorem op_powB : OpR X (binaryOp .Pow) (rI (fun i j => 0 ≤ j ∧ (Builtin.Int.intBits i : Int) * j ≤ 2 ^ 27) fun i j => .int (i ^ j.toNat)) := opI fun _ _ _ _ _ _ _ hc q => pow_int hc.1 hc.2 q
/-- s * n -/
def repS (z : Str) (n : Int) : Str := ⟨((List.replicate n.toNat z.cps.toList).flatten).toArray⟩
theorem foldl_app (l : List (Array Nat)) : ∀ a : Array Nat, (l.foldl (· ++ ·) a).toList = a.toList ++ (l.map Array.toList).flatten := by
  induction l with
  | nil => intro a; simp
  | cons x l ih => intro a; rw [List.foldl_cons, ih]; simp
theorem repS_length (z : Str) (n : Int) : (repS z n).length = n.toNat * z.length := by
  simp [repS, Str.length]
def rRepS : R2 := fun x y H Q => ∃ (z : Str) (n : Int), x = .str z ∧ y = .int n ∧ 0 ≤ n ∧ n ≤ 100000 ∧ z.length ≤ 100 ∧ Q (.str (repS z n)) H
theorem op_repS : OpR X (binaryOp .Mult) rRepS := by
  intro pins s σ H x y v u Q I rx ry h
  obtain ⟨z, n, rfl, rfl, h0, h1, h2, q⟩ := h
  obtain ⟨t, rfl⟩ := rx
  obtain ⟨t2, rfl⟩ := ry
  have hb : z.length * n.toNat ≤ 100 * 100000 := Nat.mul_le_mul h2 (by omega)
  have hl : Builtin.Str.tooLong (z.length * n.toNat) = false := by
    have h9 : z.length * n.toNat ≤ sizeLine := Nat.le_trans hb (by decide)
    exact decide_eq_false (by omega)
  have hdiv : ¬ n < 1 → ¬ ((z.length : Int) > (2 ^ 63 - 1) / n) := fun hn => by
    have e : (100 : Int) ≤ (2 ^ 63 - 1) / n := (Int.le_ediv_iff_mul_le (by omega)).mpr (by omega)
    omega
  refine P.mul_str (by simp only [Bool.or_eq_false_iff, decide_eq_false_iff_not]; omega) (fun hn _ => hdiv hn) (fun _ _ => hl) ?_
  by_cases c1 : n < 1
  · have e : repS z n = Str.empty := by
      have : n.toNat = 0 := by omega
      simp [repS, this, Str.empty]
    rw [if_pos c1]
    rw [e] at q
    exact ⟨by decide, .str Str.empty, H, I.tok _, ⟨_, rfl⟩, q⟩
  · rw [if_neg c1]
    by_cases c2 : (n == 1 || z.length == 0) = true
    · rw [if_pos c2]
      have e : repS z n = z := by
        rw [Bool.or_eq_true] at c2
        rcases c2 with c2 | c2
        · have : n = 1 := eq_of_beq c2
          subst this
          simp [repS]
        · have hz : z.cps.toList = [] := by
            have : z.cps.size = 0 := eq_of_beq c2
            simpa using this
          obtain ⟨⟨l⟩⟩ := z
          cases hz
          simp [repS]
      rw [e] at q
      exact ⟨.str z, H, I, ⟨_, rfl⟩, q⟩
    · rw [if_neg c2]
      have e : (⟨(List.replicate n.toNat z.cps).foldl (· ++ ·) #[]⟩ : Str) = repS z n := by
        have := foldl_app (List.replicate n.toNat z.cps) #[]
        simp only [repS]
        congr 1
        apply Array.toList_inj.mp
        rw [this]
        simp
      rw [e]
      refine ⟨?_, .str (repS z n), H, I.tok _, ⟨_, rfl⟩, q⟩
      show (repS z n).length ≤ sizeLine
      rw [repS_length, Nat.mul_comm]
      exact Nat.le_trans hb (by decide)
/-! ### rules in a comprehension's block: the text's facts K are given by name -/
section
variable {K : PySem.W.Frag} (hK : X.K = K)
include hK
theorem lenK : CallR X (.builtin "len") (fun xs H Q => ∃ p ys, xs = [.ref p] ∧ (SqL K H p ys ∨ SqT K H p ys) ∧ Q (.int (ys.length : Nat)) H) := hK ▸ call_len_seq
theorem allK (hc : X.calm = true) : CallR X (.builtin "all") (rAll K) := hK ▸ cr_all hc
theorem isiK : CallR X (.builtin "isinstance") (rIsi K) := hK ▸ call_isi
theorem ixLK : IxR X (rIxL K) := hK ▸ ix_list
theorem ixTK : IxR X (rIxT K) := hK ▸ ix_tup
theorem inSeqK : OpR X (compareOp .In) (rIn K false) := hK ▸ op_in_seq
theorem notInSeqK : OpR X (compareOp .NotIn) (rIn K true) := hK ▸ op_notIn_seq
end
/-! ### methods of lists, the context a letter -/
section
variable {o e : Expr} {to te : TE} {apos cpos : Pos}
theorem pe_popAt (K : PySem.W.Frag) (hK : X.K = K) (ho : PE X o to) (he : PE X e te)
    (hbase : attributeBase o "pop" X.env (eval o X.env) = eval o X.env := by rfl)
    (hfew : ((backTo cpos (starEach [e] X.env)).all (fun x => !x.1) && (backToKw cpos (keywordEach [] X.env)).all (fun x => x.1.isSome) && decide ([e].length + ([] : List Keyword).length + (if ([] : List Keyword).isEmpty then 0 else 1) < 30)) = true := by rfl)
    (hline : (apos.endLine == cpos.line) = true := by rfl) (hs : starEach [e] X.env = (false, eval e X.env) :: starEach [] X.env := by rfl) : PE X (.Call (.Attribute o "pop" apos) [e] [] cpos) (tBM K "list" rPopAt to (tCons te tNil)) := hK ▸ pe_bm PySem.F.plainAttrs_list PySem.F.slot_list_pop PySem.F.type_list_pop mt_popAt ho (pa_cons he pa_nil hs) hbase hfew hline hs rfl
theorem pe_append (K : PySem.W.Frag) (hK : X.K = K) (ho : PE X o to) (he : PE X e te)
    (hbase : attributeBase o "append" X.env (eval o X.env) = eval o X.env := by rfl)
    (hfew : ((backTo cpos (starEach [e] X.env)).all (fun x => !x.1) && (backToKw cpos (keywordEach [] X.env)).all (fun x => x.1.isSome) && decide ([e].length + ([] : List Keyword).length + (if ([] : List Keyword).isEmpty then 0 else 1) < 30)) = true := by rfl)
    (hline : (apos.endLine == cpos.line) = true := by rfl) (hs : starEach [e] X.env = (false, eval e X.env) :: starEach [] X.env := by rfl) : PE X (.Call (.Attribute o "append" apos) [e] [] cpos) (tBM K "list" rAppend to (tCons te tNil)) := hK ▸ pe_bm PySem.F.plainAttrs_list PySem.F.slot_list_append PySem.F.type_list_append mt_append ho (pa_cons he pa_nil hs) hbase hfew hline hs rfl
end
end
end MN
/-! list(d.values()); a class called through a local name; what is never evaluated -/
namespace MN
open PySem PySem.Spec PyProof.Rows L2
section
variable {X : Cx}
def tNo : TE := fun _ _ _ => False
theorem pe_no {e : Expr} : PE X e tNo := ⟨fun _ _ _ _ _ _ h => h.elim⟩
theorem pi_no {tg e : Expr} : PI X tg e (fun _ _ _ => False) := ⟨fun _ _ _ _ _ _ h => h.elim⟩
def tListVals (te : TE) : TE := fun σ H Q => te σ H fun x H1 => ∃ (d : Addr) (kvs : List (Key × V)), x = .ref d ∧ H1 d = some (.dK kvs) ∧ ∀ q, H1 q = none → Q (.ref q) (upd H1 q (.lst (kvs.map (·.2))))
theorem kv_vals : ∀ {kvs : List (Key × V)} {vs : List (Key × Value)}, KV kvs vs → Vals (kvs.map (·.2)) (vs.map (·.2))
  | [], [], _ => .nil
  | _ :: _, _ :: _, .cons h t => .cons h.2 (kv_vals t)
variable {e : Expr} {te : TE} {p apos cpos pos : Pos}
/-- list(e.values()) -/
theorem pe_listVals (hc : X.calm = true) (he : PE X e te) (hg : Gl X "list") (hm : X.mg "list" = none) (hbase : attributeBase e "values" X.env (eval e X.env) = eval e X.env := by rfl) (hline : (apos.endLine == cpos.line) = true := by rfl)
    (hs : starEach [.Call (.Attribute e "values" apos) [] [] cpos] X.env = (false, eval (.Call (.Attribute e "values" apos) [] [] cpos) X.env) :: starEach [] X.env := by rfl) :
    PE X (.Call (.Name "list" p) [.Call (.Attribute e "values" apos) [] [] cpos] [] pos) (tListVals te) := by
  refine ⟨fun pins s σ H Q I hq => ?_⟩
  refine wpAny_Call_Name_kw (ld_blt I hg hm boot_list ?_)
  refine PyProof.Rows.callWith_type1 ?_ hs rfl
  rw [hs]
  show wpAny _ _ (spliced ((false, eval (.Call (.Attribute e "values" apos) [] [] cpos) X.env) :: backTo pos (starEach [] X.env))) _ _ s
  refine Calls.spliced_cons ?_
  refine wpAny_Call_method (T := "dict") (id := "dict.values") hbase rfl hline F.plainAttrs_dict F.slot_dict_values F.type_dict_values (thn (he.run pins s σ H _ I hq) fun u s1 ⟨x, H1, I1, rx, d, kvs, ex, hd, q⟩ => ?_)
  subst ex
  obtain rfl : u = Value.ref d := rx
  obtain ⟨hz, hs0, vs, kv, hdo⟩ := I1.hok d _ hd
  obtain ⟨ep, hat⟩ := hdo.dictAt
  have lk : kvs.length = vs.length := Paired.length kv
  have I2 : Inv X pins σ H1 { s1 with heap := s1.heap.push { cls := .type "dict_values", data := .fields #[.ref d] } } := I1.kept (t' := s1.toks) fun b ob q => Heap.get?_push_of_some _ q
  refine ⟨hdo.typeIs, hdo.mapOf.noDict, ?_⟩
  show wpAny _ _ (callWith cpos (.builtin "dict.values") [.ref d] [] []) _ X.xe s1
  refine method_meetsIn F.slot_dict_values F.entry_dict_values rfl (PySem.evalArgs_none ⟨rfl, hdo.typeIs, F.args_dict_values_1 _, _, meets_dict_values (mixKind X.prog X.w) d hs0, ⟨vs, hdo⟩, ?_⟩)
  refine Calls.spliced_nil ?_
  refine PySem.W.kdl_call (PySem.W.kdl_values (knd := mixKind X.prog X.w) (kvs := vs) (ep := ep)) (I1.ok.hd hc) ⟨⟨_, Heap.get?_push_size _ rfl, rfl, rfl⟩, hat.push _⟩ (by rw [← lk]; exact hz) fun h' tk acc' c' hkeep hS hacc => ?_
  have el : acc'.toList.length = acc'.size := by simp
  have ev : acc'.toList = vs.map (·.2) := PySem.W.kdl_vals_eq acc'.toList (by rw [el, hacc.1]) fun j v h2 => hacc.2 j v (by rw [← Array.getElem?_toList]; exact h2)
  refine ⟨.ref _, upd H1 _ (.lst (kvs.map (·.2))), I2.laid hkeep (Nat.le_refl _) (show ObjOk X.prog X.w _ _ _ (.lst (kvs.map (·.2))) from ⟨?_, acc'.toList, c', ?_, ?_⟩), rfl, q _ (I2.hok.fresh (Nat.le_refl _))⟩
  · rw [List.length_map]; exact hz
  · rw [ev]; exact kv_vals kv
  · rw [Array.toArray_toList]; exact hS
end
section
variable {X : Cx} {CX : CXT} {k i : Nat} {f C : Addr} {fd : FuncData} {ps ks : List Str} {sp : Sp} {E : XK} {x : Str} {p pos : Pos} {kws : List Keyword} {tk : TA} {g : List Value → List Value → List Value} {gV : List V → List V → List V}
/-- the class that the i-th slot holds, called by keywords alone -/
def tMakeKL (i : Nat) (C : Addr) (m : Nat) (sp : Sp) (gV : List V → List V → List V) (E : XK) (tk : TA) : TE := fun σ H Q => σ[i]? = some (some (.ref C)) ∧ tMakeK C 0 m sp gV E tNil tk σ H Q
theorem pe_makeKL (M : Mk X.K C f) (F : FnOk X.prog X.w X.K X.mg X.base CX k f fd ps sp) (hr : Room (k + 1) X.A) (hN : X.N[i]? = some x) (hv : Vis X.env.scope x) (hb : KBn X.K fd ps 1 ks g gV) (hx : Passes CX X E) (hkw : PK X kws tk)
    (hall : (backToKw pos (keywordEach kws X.env)).all (·.1.isSome) = true := by rfl) (hks : (backToKw pos (keywordEach kws X.env)).filterMap (·.1) = ks := by rfl) (hdb : (x == ("__debug__" : Str)) = false := by decide) (hcd : (x == ("__classdict__" : Str)) = false := by decide)
    (hpl : ((backTo pos (starEach [] X.env)).any (·.1) || (backToKw pos (keywordEach kws X.env)).any (·.1.isNone)) = false := by rfl) :
    PE X (.Call (.Name x p) [] kws pos) (tMakeKL i C ks.length sp gV E tk) := by
  refine ⟨fun pins s σ H Q I h => ?_⟩
  obtain ⟨hs, h⟩ := h
  refine wpAny_Call_Name_kw (thn ((pe_var (pos := p) hN hv hdb hcd).run pins s σ H (fun v H1 => v = .ref C ∧ H1 = H) I ⟨.ref C, hs, rfl, rfl⟩) fun u s1 ⟨v, H1, I1, r1, q1⟩ => ?_)
  obtain ⟨rfl, rfl⟩ := q1
  cases r1
  refine PySem.W.callWith_KW0 (h₀ := X.base) I.ok.mod.kin M.kp hall ?_ hpl
  refine thn (hkw.run pos pins s1 σ _ _ I1 h) fun ws s2 ⟨zs, H2, I2, rz, l1, l2, q2⟩ => ⟨I2.kIn, ?_⟩
  rw [hks]
  exact run_makeK (us := []) (vs := []) M F hr hb hx I2 .nil rz rfl l2 q2
end
/-! ### isinstance(value, str) where value may be an instance with slots -/
/-- an instance with slots, of a class that is no text -/
def SlNo (K : PySem.W.Frag) (H : Hp) (v : V) (u : Value) : Prop := ∃ a C dx vs, v = .ref a ∧ SlX.Slt H a C dx vs ∧ SlX.SCls K C ∧ SlX.SIsi K C ∧ PySem.W.kitOne K (.ref C) u = some false
def IsX (K : PySem.W.Frag) (H : Hp) (v : V) (c : String) (b : Bool) : Prop := (∃ t, TyX K H v t ∧ PySem.W.kitOne K t (.type c) = some b) ∨ (b = false ∧ SlNo K H v (.type c))
theorem IsX.str {K : PySem.W.Frag} {H : Hp} {z : Str} : IsX K H (.str z) "str" true := .inl ⟨_, .base (.str z), kit_ty (by decide +kernel)⟩
def rIsS (K : PySem.W.Frag) : List V → Hp → VK → Prop := fun xs H Q => ∃ x c b, xs = [x, .ty c] ∧ IsX K H x c b ∧ Q (.bl b) H
theorem call_isS {X : Cx} : CallR X (.builtin "isinstance") (rIsS X.K) := by
  intro pins s σ H xs us Q I r h
  obtain ⟨x, c, b, rfl, h | ⟨rfl, a, C, dx, vs, rfl, h1, h2, h3, h4⟩, q⟩ := h
  · obtain ⟨t, h1, h2⟩ := h
    exact call_isi pins s σ H _ us Q I r ⟨x, .ty c, t, .type c, b, rfl, .ty _, h1, h2, q⟩
  · refine SlX.call_isiSl (.type c) pins s σ H _ us Q I r ⟨a, C, dx, vs, .ty c, false, rfl, rfl, fun w e => e, h1, h2, h3, h4, q⟩
end MN
/-! t[::-1] of a tuple -/
namespace MN
open PySem PySem.Spec PyProof.Rows L2
theorem places_back (n : Nat) : Builtin.Slice.slicePlaces ((n : Int) - 1) (-1) (-1) = n := by
  unfold Builtin.Slice.slicePlaces
  rw [if_neg (by decide)]
  by_cases h : n = 0
  · subst h; rfl
  · rw [if_pos (by omega), Int.neg_neg, Int.ediv_one]
    omega
theorem filterMap_some {α β : Type} {f : α → Option β} {g : α → β} : ∀ {l : List α}, (∀ k ∈ l, f k = some (g k)) → l.filterMap f = l.map g
  | [], _ => rfl
  | x :: l, h => by
    rw [List.filterMap_cons, h x List.mem_cons_self, List.map_cons, filterMap_some fun k hk => h k (List.mem_cons_of_mem _ hk)]
theorem pick_back (xs : Array Value) : ((List.range xs.size).filterMap fun (k : Nat) => xs[(((xs.size : Int) - 1) + (k : Int) * (-1)).toNat]?).toArray = xs.toList.reverse.toArray := by
  congr 1
  have e : ∀ k ∈ List.range xs.size, (fun (k : Nat) => xs[(((xs.size : Int) - 1) + (k : Int) * (-1)).toNat]?) k = some (xs.toList.reverse.getD k .none) := by
    intro k hk
    have hk : k < xs.size := List.mem_range.mp hk
    have i : (((xs.size : Int) - 1) + (k : Int) * (-1)).toNat = xs.size - 1 - k := by omega
    simp only [i]
    have hl : k < xs.toList.reverse.length := by simpa using hk
    rw [List.getD_eq_getElem?_getD, List.getElem?_eq_getElem hl, List.getElem_reverse]
    rw [Array.getElem?_eq_getElem (by omega)]
    simp
  rw [filterMap_some e]
  apply List.ext_getElem?
  intro i
  rw [List.getElem?_map]
  by_cases hi : i < xs.size
  · rw [List.getElem?_range hi]
    have hl : i < xs.toList.reverse.length := by simpa using hi
    simp only [Option.map_some]
    rw [List.getD_eq_getElem?_getD, List.getElem?_eq_getElem hl]
    simp
  · rw [List.getElem?_eq_none (by simpa using hi), List.getElem?_eq_none (by simpa using hi)]
    rfl
section
variable {prog : Program} {w : World} {A : Around} {E : Value → Shared → Prop} {s : Shared}
theorem getItem_tuple_back {t sl : Addr} {items : Array Value} {vs : Value} {Q : Value → Shared → Prop} (ht : IsTup s.heap t items) (hs : s.heap.IsSliceOf sl .none .none vs) (ps : IsPart vs (some (-1)))
    (h : Q (.ref s.heap.objs.size) { s with heap := s.heap.push { cls := .type "tuple", data := .seq items.toList.reverse.toArray } }) (hsz : items.size ≤ sizeLine) : wpAny (model prog w) A (getItem (.ref t) (.ref sl)) Q E s := by
  have hok : sizeOk (.seq items.toList.reverse.toArray) := by
    show items.toList.reverse.toArray.size ≤ sizeLine
    simpa using hsz
  obtain ⟨os, hos, hcs, hds⟩ := id hs
  have hTs : s.TypeIs (.ref sl) "slice" := ⟨os, hos, hcs⟩
  unfold getItem
  try with_reducible refine wpAny_holding ?_
  first | refine wpAny_bind (wpAny_pure ?_) | skip
  refine wpAny_bind (wpAny_sequenceKey ht.typeIs (by decide) ?_)
  refine wpAny_bind (wpAny_callSpecial?_slot (name := Str.ofString "__getitem__") ht.typeIs PyProof.Rows.slot_tuple_getitem
    (wpAny_call_entry PyProof.Rows.slot_tuple_getitem ht.typeIs entry_tuple_getitem ?_ (args_tuple_getitem _ _)))
  show wpAny _ _ (Builtin.Tuple.tupleItemsOf (.ref t) >>= _) _ _ s
  refine wpAny_bind (tupleItemsOf_ ht ?_)
  refine wpAny_bind (wpAny_typeOf hTs ?_)
  rw [if_pos (by decide)]
  refine wpAny_bind (m := Builtin.Slice.sliceApplied (.ref sl) (pure (items.size : Int))) ?_
  unfold Builtin.Slice.sliceApplied Builtin.Slice.sliceFields
  refine wpAny_bind (wpAny_bind (wpAny_field hos hds (x := .none) rfl (wpAny_bind (wpAny_field hos hds (x := .none) rfl (wpAny_bind (wpAny_field hos hds (x := vs) rfl (wpAny_pure ?_)))))))
  refine wpAny_bind (HT.slicePart_ ps ?_)
  show wpAny _ _ (if ((-1 : Int) == 0) = true then _ else _) _ _ s
  rw [if_neg (by decide)]
  refine wpAny_bind (HT.slicePart_ .none (wpAny_bind (HT.slicePart_ .none (wpAny_bind (wpAny_pure ?_)))))
  show wpAny _ _ (pure ((items.size : Int) - 1, (-1 : Int), Builtin.Slice.slicePlaces ((items.size : Int) - 1) (-1) (-1))) _ _ s
  rw [places_back]
  refine wpAny_pure ?_
  have hno : ¬ (((items.size : Int) - 1 == 0 && (-1 : Int) == 1 && items.size == items.size) = true) := by simp
  show wpAny _ _ (if ((items.size : Int) - 1 == 0 && (-1 : Int) == 1 && items.size == items.size) = true then _ else _) _ _ s
  rw [if_neg hno, pick_back]
  first
    | exact wpAny_bind (m := Builtin.Tuple.tupleExact _) (wpAny_newObj_type (wpAny_pure ⟨_, rfl, wpAny_pure h⟩) hok)
    | exact wpAny_bind (m := Builtin.Tuple.tupleExact _) (wpAny_newObj_type (wpAny_bind (wpAny_pure (wpAny_pure ⟨_, rfl, wpAny_pure h⟩))) hok)
    | exact wpAny_bind (wpAny_bind (m := Builtin.Tuple.tupleExact _) (wpAny_newObj_type (wpAny_pure (wpAny_pure ⟨_, rfl, wpAny_pure h⟩)) hok))
    | exact wpAny_bind (wpAny_bind (m := Builtin.Tuple.tupleExact _) (wpAny_newObj_type (wpAny_pure ⟨_, rfl, wpAny_pure h⟩) hok))
end
section
variable {X : Cx}
def tRevT (K : PySem.W.Frag) (te : TE) : TE := fun σ H Q => te σ H fun x H1 => ∃ a xs, x = .ref a ∧ SqT K H1 a xs ∧ ∀ p, H1 p = none → Q (.ref p) (upd H1 p (.tup xs.reverse))
theorem pe_revT {e : Expr} {te : TE} {k : Nat} {p1 p2 p3 pos : Pos} (he : PE X e te) : PE X (.Subscript e (.Slice none none (some (.UnaryOp .USub (.Constant (.int 1) k p1) p2)) p3) pos) (tRevT X.K te) := by
  refine ⟨fun pins s σ H Q I h => ?_⟩
  refine Subscript_ (thn (he.run pins s σ H _ I h) fun v s1 ⟨x, H1, I1, r1, a, xs, ex, hx, q⟩ => ?_)
  subst ex
  cases r1
  have hst : PO X (some (.UnaryOp .USub (.Constant (.int 1) k p1) p2)) (tPart (tUn (rU fun i => .int (-i)) (tC (.int 1)))) := po_some (pe_un un_neg pe_int)
  refine wpAny_Slice (thn (po_none.run pins s1 σ H1 (fun o H2 => o = none ∧ H2 = H1) I1 ⟨rfl, rfl⟩) fun vl s2 ⟨l, H2, I2, pl, el, e2⟩ => ?_)
  cases el
  cases e2
  refine thn (po_none.run pins s2 σ H1 (fun o H3 => o = none ∧ H3 = H1) I2 ⟨rfl, rfl⟩) fun vu s3 ⟨u, H3, I3, pu, eu, e3⟩ => ?_
  cases eu
  cases e3
  refine thn (hst.run pins s3 σ H1 (fun o H4 => o = some (-1) ∧ H4 = H1) I3 ⟨1, rfl, -1, rfl, rfl, rfl⟩) fun vs s4 ⟨o, H4, I4, ps, eo, e4⟩ => ?_
  cases eo
  cases e4
  cases pl
  cases pu
  have I5 : Inv X pins σ H1 { s4 with heap := s4.heap.push { cls := .type "slice", data := .fields #[.none, .none, vs] } } := I4.kept (t' := s4.toks) fun b ob q => Heap.get?_push_of_some _ q
  obtain ⟨its, r, ht, hz⟩ := I5.tuple hx
  have hlen := r.length
  show wpAny (model X.prog X.w) X.A (subscriptTail e (.Slice none none (some (.UnaryOp .USub (.Constant (.int 1) k p1) p2)) p3) (.ref a) (.ref s4.heap.objs.size)) (EP X pins σ Q) X.xe { s4 with heap := s4.heap.push { cls := .type "slice", data := .fields #[.none, .none, vs] } }
  refine tail_any (ops := [.ref a, .ref s4.heap.objs.size]) ht.typeIs PyProof.Rows.slot_tuple_getitem.lookup ?_ (by with_unfolding_all rfl)
  refine getItem_tuple_back ht (Heap.IsSliceOf.new _ .none .none vs) ps ?_ (by rw [List.size_toArray]; omega)
  refine ⟨.ref _, _, I5.laid (t' := s4.toks) (o := .tup xs.reverse) (fun b ob q => Heap.get?_push_of_some _ q) (Nat.le_refl _) ?_, rfl, q _ (I5.hok.fresh (Nat.le_refl _))⟩
  exact ⟨by rw [List.length_reverse]; exact hz, _, r.reverse, IsTup.new _ _⟩
end
end MN
/-! the order of words: by length, then sign by sign -/
namespace MN
open PySem
def ahead (a b : Str) : Prop := a.length < b.length ∨ (a.length = b.length ∧ a.cps.toList < b.cps.toList)
instance (a b : Str) : Decidable (ahead a b) := by unfold ahead; infer_instance
theorem str_ext {a b : Str} (h : a.cps.toList = b.cps.toList) : a = b := PySem.W.str_of_cps h
theorem str_eq_iff {a b : Str} : a = b ↔ a.cps.toList = b.cps.toList := ⟨fun h => by rw [h], str_ext⟩
theorem ahead_irrefl (a : Str) : ¬ ahead a a := fun h => by
  rcases h with h | ⟨_, h⟩
  · omega
  · exact List.lt_irrefl _ h
theorem ahead_trans {a b c : Str} (h : ahead a b) (h' : ahead b c) : ahead a c := by
  rcases h with h | ⟨e, h⟩ <;> rcases h' with h' | ⟨e', h'⟩
  · exact .inl (by omega)
  · exact .inl (by omega)
  · exact .inl (by omega)
  · exact .inr ⟨by omega, List.lt_trans h h'⟩
theorem ahead_total (a b : Str) : ahead a b ∨ a = b ∨ ahead b a := by
  by_cases h1 : a.length < b.length
  · exact .inl (.inl h1)
  by_cases h2 : b.length < a.length
  · exact .inr (.inr (.inl h2))
  have e : a.length = b.length := by omega
  by_cases h3 : a.cps.toList < b.cps.toList
  · exact .inl (.inr ⟨e, h3⟩)
  by_cases h4 : b.cps.toList < a.cps.toList
  · exact .inr (.inr (.inr ⟨e.symm, h4⟩))
  exact .inr (.inl (str_ext (List.le_antisymm (List.not_lt.mp h4) (List.not_lt.mp h3))))
def leW (a b : Str) : Bool := !decide (ahead b a)
/-- each once, in the order in which they are met -/
def uniq (zs : List Str) : List Str := zs.foldl (fun acc z => if z ∈ acc then acc else acc ++ [z]) []
theorem uniq_spec (zs : List Str) : ∀ acc : List Str, acc.Nodup → (zs.foldl (fun acc z => if z ∈ acc then acc else acc ++ [z]) acc).Nodup ∧ ∀ x, x ∈ zs.foldl (fun acc z => if z ∈ acc then acc else acc ++ [z]) acc ↔ x ∈ acc ∨ x ∈ zs := by
  induction zs with
  | nil => intro acc h; exact ⟨h, fun x => by simp⟩
  | cons z zs ih =>
    intro acc h
    rw [List.foldl_cons]
    by_cases hz : z ∈ acc
    · rw [if_pos hz]
      obtain ⟨h1, h2⟩ := ih acc h
      refine ⟨h1, fun x => ?_⟩
      rw [h2 x, List.mem_cons]
      constructor
      · rintro (q | q)
        · exact .inl q
        · exact .inr (.inr q)
      · rintro (q | q | q)
        · exact .inl q
        · exact .inl (q ▸ hz)
        · exact .inr q
    · rw [if_neg hz]
      have hn : (acc ++ [z]).Nodup := List.nodup_append.mpr ⟨h, by simp, fun a ha b hb e => hz (by rw [List.mem_singleton] at hb; rw [← hb, ← e]; exact ha)⟩
      obtain ⟨h1, h2⟩ := ih (acc ++ [z]) hn
      refine ⟨h1, fun x => ?_⟩
      rw [h2 x, List.mem_append, List.mem_singleton, List.mem_cons]
      constructor
      · rintro ((q | q) | q)
        · exact .inl q
        · exact .inr (.inl q)
        · exact .inr (.inr q)
      · rintro (q | q | q)
        · exact .inl (.inl q)
        · exact .inl (.inr q)
        · exact .inr q
theorem uniq_nodup (zs : List Str) : (uniq zs).Nodup := (uniq_spec zs [] List.nodup_nil).1
theorem mem_uniq (zs : List Str) (x : Str) : x ∈ uniq zs ↔ x ∈ zs := by
  have h := (uniq_spec zs [] List.nodup_nil).2 x
  have e : x ∈ uniq zs ↔ x ∈ ([] : List Str) ∨ x ∈ zs := h
  simpa using e
def ord (zs : List Str) : List Str := (uniq zs).mergeSort leW
theorem mem_ord {zs : List Str} {x : Str} : x ∈ ord zs ↔ x ∈ zs := by
  unfold ord
  rw [List.mem_mergeSort, mem_uniq]
theorem ord_sorted (zs : List Str) : (ord zs).Pairwise ahead := by
  have h1 : (ord zs).Pairwise fun a b => leW a b = true := by
    refine List.pairwise_mergeSort (fun a b c h h' => ?_) (fun a b => ?_) _
    · simp only [leW, Bool.not_eq_true', decide_eq_false_iff_not] at *
      intro q
      rcases ahead_total b c with z | z | z
      · exact h (ahead_trans z q)
      · exact h (z ▸ q)
      · exact h' z
    · simp only [leW, Bool.or_eq_true, Bool.not_eq_true', decide_eq_false_iff_not]
      by_cases q : ahead b a
      · exact .inr fun q' => ahead_irrefl _ (ahead_trans q q')
      · exact .inl q
  have h2 : (ord zs).Nodup := (List.mergeSort_perm _ _).nodup_iff.mpr (uniq_nodup zs)
  have h2' : (ord zs).Pairwise fun a b => a ≠ b := h2
  refine List.Pairwise.imp₂ (fun a b h h' => ?_) h1 h2'
  simp only [leW, Bool.not_eq_true', decide_eq_false_iff_not] at h
  rcases ahead_total a b with z | z | z
  · exact z
  · exact absurd z h'
  · exact absurd z h
/-- only one list ascends and has these members -/
theorem sorted_one : ∀ {xs ys : List Str}, xs.Pairwise ahead → ys.Pairwise ahead → (∀ z, z ∈ xs ↔ z ∈ ys) → xs = ys
  | [], [], _, _, _ => rfl
  | [], y :: ys, _, _, h => absurd ((h y).mpr List.mem_cons_self) (by simp)
  | x :: xs, [], _, _, h => absurd ((h x).mp List.mem_cons_self) (by simp)
  | x :: xs, y :: ys, hx, hy, h => by
    rw [List.pairwise_cons] at hx hy
    have e : x = y := by
      rcases ahead_total x y with z | z | z
      · have := (h x).mp List.mem_cons_self
        rcases List.mem_cons.mp this with q | q
        · exact q
        · exact absurd (ahead_trans z (hy.1 x q)) (ahead_irrefl _)
      · exact z
      · have := (h y).mpr List.mem_cons_self
        rcases List.mem_cons.mp this with q | q
        · exact q.symm
        · exact absurd (ahead_trans z (hx.1 y q)) (ahead_irrefl _)
    subst e
    congr 1
    refine sorted_one hx.2 hy.2 fun z => ?_
    have hz := h z
    rw [List.mem_cons, List.mem_cons] at hz
    constructor
    · intro q
      rcases hz.mp (.inr q) with e | e
      · exact absurd (e ▸ hx.1 z q) (ahead_irrefl _)
      · exact e
    · intro q
      rcases hz.mpr (.inr q) with e | e
      · exact absurd (e ▸ hy.1 z q) (ahead_irrefl _)
      · exact e
theorem ord_eq {xs ys : List Str} (h : ∀ z, z ∈ xs ↔ z ∈ ys) : ord xs = ord ys := sorted_one (ord_sorted _) (ord_sorted _) fun z => by rw [mem_ord, mem_ord]; exact h z
theorem ord_of {xs : List Str} (h : xs.Pairwise ahead) : ord xs = xs := sorted_one (ord_sorted _) h fun z => mem_ord
theorem ord_ord (xs : List Str) : ord (ord xs) = ord xs := ord_of (ord_sorted xs)
theorem ord_reverse (xs : List Str) : ord xs.reverse = ord xs := ord_eq fun z => List.mem_reverse
theorem ord_length (zs : List Str) : (ord zs).length ≤ zs.length := by
  unfold ord
  rw [List.length_mergeSort]
  have h : ∀ (zs acc : List Str), (zs.foldl (fun acc z => if z ∈ acc then acc else acc ++ [z]) acc).length ≤ acc.length + zs.length := by
    intro zs
    induction zs with
    | nil => intro acc; simp
    | cons z zs ih =>
      intro acc
      rw [List.foldl_cons, List.length_cons]
      have := ih (if z ∈ acc then acc else acc ++ [z])
      split at this
      · rename_i q; rw [if_pos q]; omega
      · rename_i q; rw [if_neg q]; rw [List.length_append, List.length_singleton] at this; omega
  simpa [uniq] using h zs []
theorem dataLe_rank : PySem.W.dataLe false (fun z : Str => PyData.tuple [.int z.length, .str z]) = leW := by
  funext a b
  show (!PySem.W.dataLt (.tuple [.int b.length, .str b]) (.tuple [.int a.length, .str a])) = _
  rw [PySem.W.dataLt_pair (by simp [PySem.W.alike]) (by simp [PySem.W.alike]), PySem.W.dataLt_int, PySem.W.dataLt_str]
  simp only [PyData.eqv, leW, ahead, beq_iff_eq]
  congr 1
  by_cases h1 : (b.length : Int) = a.length
  · have e : b.length = a.length := by omega
    have nl : ¬ b.length < a.length := by omega
    rw [if_pos h1]
    by_cases h2 : b = a
    · subst h2
      rw [if_pos rfl]
      exact (decide_eq_false (fun q => ahead_irrefl b q)).symm
    · rw [if_neg h2]
      simp [e]
  · have e : b.length ≠ a.length := by omega
    rw [if_neg h1]
    simp only [e, false_and, or_false]
    congr 1
    exact propext ⟨fun q => by omega, fun q => by omega⟩
end MN
/-! word_rank as the key of a sort: its call keeps all that stands -/
namespace MN
open PySem PySem.Spec PyProof.Rows L2
abbrev rankOf (z : Str) : PyData := .tuple [.int z.length, .str z]
/-- the module as it stands in a heap -/
structure ModAt (K : PySem.W.Frag) (mg : Str → Option Value) (h : Heap) : Prop where
  kin : K.In h
  glob : h.Ns mainGlobals mg
  blt : ∃ mb, h.Ns builtinsNs mb ∧ ∀ x : Str, x ≠ "__name__" → mb x = bootBuiltins x
  nolimit : h.NoLimit
theorem ModAt.keeps {K : PySem.W.Frag} {mg : Str → Option Value} {h h' : Heap} (m : ModAt K mg h) (k : ∀ b o, h.get? b = some o → h'.get? b = some o) : ModAt K mg h' := by
  obtain ⟨mb, h1, h2⟩ := m.blt
  exact ⟨m.kin.keeps k, m.glob.keeps k, ⟨mb, h1.keeps k, h2⟩, m.nolimit.keeps k⟩
theorem modAt {X : Cx} {pins : List (Addr × Obj)} {σ : L2.St} {H : Hp} {s : Shared} (I : Inv X pins σ H s) : ModAt X.K X.mg s.heap :=
  (ModAt.mk I.mod.kin I.mod.glob I.mod.blt I.mod.nolimit).keeps I.bk
/-- a def as the key of a sort of texts -/
def KeyD (P : Program) (w : World) (K : PySem.W.Frag) (mg : Str → Option Value) (f : Addr) (key : Str → PyData) : Prop :=
  ∀ (A : Around) (s : Shared) (x : Str) (t : Tok), A.depth < recursionLimit → ModAt K mg s.heap → x.length ≤ 100000 →
    wpAny (model P w) A (call (.ref f) [.str x t]) (PySem.W.KeyPure (key x) s) (fun _ _ => False) s
theorem sc_word_rank : FnScope ["word"] ["word"] (defScope (top 17)) := ⟨rfl, rfl, rfl, by decide +kernel, rfl, by decide +kernel, by decide +kernel⟩
theorem key_rank {P : Program} {w : World} {K : PySem.W.Frag} {mg : Str → Option Value} (A : At K mg "word_rank" (top 17)) (hlen : mg "len" = none) : ∃ f, mg "word_rank" = some (.ref f) ∧ PySem.W.keepIn K (.ref f) = true ∧ KeyD P w K mg f rankOf := by
  obtain ⟨f, fd, F, hm⟩ := A
  refine ⟨f, hm, F.kp, fun A s x t hdp M hx => ?_⟩
  have hb := FunD.bindsA (ps := ["word"]) F (fun _ _ _ _ _ _ us hl => match us, hl with | [_], _ => rfl) s [.str x t] rfl
  obtain ⟨oc, od, dV, kV, doc, pm, an, cdv, ct, osl, rfl, lk, hcd, -, -⟩ := F.ex
  have S := sc_word_rank
  refine wpAny_call (codeAny_call_function hdp (M.kin _ _ lk) rfl S.co S.gen rfl (PySem.W.codeRec_of M.kin hcd) (hb _ _ _ _ ?_))
  refine wpAny_newFunctionEnv_cells S.kind (fun y hy => (S.par y.1 (List.of_mem_zip hy).1).imp id fun q => ⟨q, PySem.W.cellsFrom_some _ _ _ (.inl q)⟩) fun env he s1 ic => ?_
  cases he
  refine ⟨M.nolimit.keeps ic.toInCall.keep, codeAny_func ?_⟩
  have k1 := ic.toInCall.keep
  have M1 := M.keeps k1
  obtain ⟨mb, b1, b2⟩ := M1.blt
  have kw := ic.toInCall.ns
  obtain ⟨h1, tk1, rfl⟩ := ic.toInCall.same
  refine wpAny_execs_cons (wpAny_Return_some (wpAny_Tuple_spliced (Calls.spliced_cons ?_)))
  refine wpAny_Call_Name_kw (Calls.Name_function_global rfl (by rfl) (Calls.loadGlobal_builtin M1.glob hlen b1 ((b2 "len" (by decide)).trans PySem.boot_len) ?_))
  refine PyProof.Rows.callWith_builtin1 (Calls.spliced_cons (wpAny_Name (ldLC ic rfl (by rfl) (by rfl) ?_) (by decide)))
  refine Calls.spliced_nil (PyProof.Rows.len_str (by have h63 : (100000 : Int) < 2 ^ 63 := (by decide); omega) ?_)
  refine Calls.spliced_cons (wpAny_Name (ldLC (ic.tok _) rfl (by rfl) (by rfl) ?_) (by decide))
  refine Calls.spliced_nil ⟨(by show 2 ≤ sizeLine; decide), ?_⟩
  refine ⟨_, _, rfl, fun b o e => Heap.get?_push_of_some _ (k1 b o e), ?_⟩
  exact Reads.tuple (as := []) (Heap.get?_push_size _ rfl) rfl rfl (ReadsAll.cons (as := []) (bs := []) (Reads.int _ _) (ReadsAll.cons (as := []) (bs := []) (Reads.str _ _) ReadsAll.nil))
/-! ### sorted(texts, key=f) -/
def rSortKey (K : PySem.W.Frag) (f : Addr) (key : Str → PyData) : List V → List V → Hp → VK → Prop := fun vs zs H Q => ∃ (a : Addr) (xs : List Str), vs = [V.ref a] ∧ zs = [V.ref f] ∧ SqL K H a (xs.map V.str) ∧ xs.length ≤ 100000 ∧ (∀ z ∈ xs, z.length ≤ 100000) ∧
  ∀ p, H p = none → Q (.ref p) (upd H p (.lst ((xs.mergeSort (PySem.W.dataLe false key)).map V.str)))
section
variable {X : Cx}
theorem vals_strs : ∀ {xs : List Str} {us : List Value}, Vals (xs.map V.str) us → PySem.W.EachIs (fun v (z : Str) => ∃ t, v = Value.str z t) us xs
  | [], _, .nil => PySem.W.EachIs.nil
  | _ :: _, _, .cons ⟨t, e⟩ r => PySem.W.EachIs.cons ⟨t, e⟩ (vals_strs r)
theorem strs_vals : ∀ {xs : List Str} {us : List Value}, PySem.W.EachIs (fun v (z : Str) => ∃ t, v = Value.str z t) us xs → Vals (xs.map V.str) us
  | [], us, h => by
    have := h.length
    match us, this with
    | [], _ => exact .nil
  | x :: xs, us, h => by
    cases h with
    | cons h1 h2 => exact .cons h1 (strs_vals h2)
theorem alike_rank (xs : List Str) : PySem.W.AllAlike (xs.map rankOf) := fun d hd d' hd' => by
  obtain ⟨x, _, rfl⟩ := List.mem_map.mp hd
  obtain ⟨y, _, rfl⟩ := List.mem_map.mp hd'
  rfl
theorem sortable_rank (xs : List Str) : PySem.W.Sortable (xs.map rankOf) := .inl fun d hd => by
  obtain ⟨x, _, rfl⟩ := List.mem_map.mp hd
  exact ⟨_, _, rfl⟩
theorem cr_sortRank {f : Addr} (hu : X.A.units + 64 < cLine) (hdp : X.A.depth < recursionLimit) (F : KeyD X.prog X.w X.K X.mg f rankOf) : CallRK X (.builtin "sorted") [Str.ofString "key"] (rSortKey X.K f rankOf) := by
  intro pins s σ H vs zs us ws Q I r rz h
  obtain ⟨a, xs, rfl, rfl, hs, hl, hz, q⟩ := h
  obtain rfl := Vals.ref1 r
  obtain rfl := Vals.ref1 rz
  obtain ⟨its, rv, hi, hsz⟩ := I.list hs
  have M := modAt I
  refine PySem.W.sorted_key_data (b := false) rankOf hi.isList (vals_strs rv) (alike_rank xs) (sortable_rank xs) (Nat.le_trans hl (by decide)) (fun x _ => ?_) (PyProof.Rows.ksk_s1 _ _) (fun _ => PyProof.Rows.ksk_l1 _ _) (fun x => PyProof.Rows.ksk_t1 f x) ?_ ?_
  · have : (rankOf x).depth = 1 := by simp [rankOf, PyData.depth, PyData.depthAll]
    omega
  · rintro v x ⟨t, rfl⟩ hx h tk hk
    exact F _ _ x t hdp (M.keeps hk) (hz x hx)
  · intro out c h' tk hk hn ho hlen he
    have hlen2 : (xs.mergeSort (PySem.W.dataLe false rankOf)).length ≤ sizeLine := by
      rw [List.length_mergeSort]
      exact Nat.le_trans hl (by decide)
    exact ⟨.ref _, upd H (s.heap.objs.size + 1) (.lst ((xs.mergeSort (PySem.W.dataLe false rankOf)).map V.str)),
      I.laid hk (Nat.le_succ _) ⟨by rw [List.length_map]; exact hlen2, out, c, strs_vals he, ho⟩, rfl, q _ (I.hok.fresh (Nat.le_succ _))⟩
end
end MN
/-! the defs about words -/
namespace MN
open PySem PySem.Spec PyProof.Rows L2
theorem str_one {z : Str} (h : z.length = 1) : ∃ c, z = ⟨#[c]⟩ := by
  obtain ⟨⟨l⟩⟩ := z
  match l, h with
  | [c], _ => exact ⟨c, rfl⟩
/-- a value: a text, or one of a kind that is no text -/
def ValOk (K : PySem.W.Frag) (H : Hp) (v : V) : Prop := (∃ z : Str, v = .str z ∧ z.length ≤ 100000) ∨ ((∀ z, v ≠ .str z) ∧ IsX K H v "str" false)
theorem ValOk.str {K : PySem.W.Frag} {H : Hp} {z : Str} (h : z.length ≤ 100000) : ValOk K H (.str z) := .inl ⟨z, rfl, h⟩
def sgn (c : Nat) : Bool := decide (c ∈ ("abcde" : Str).cps.toList)
def isWordS (z : Str) : Bool := z.cps.toList.all sgn
def isWord : V → Bool
  | .str z => isWordS z
  | _ => false
def isSign : V → Bool
  | .str z => decide (z.length = 1) && isWordS z
  | _ => false
theorem isWord_no {v : V} (h : ∀ z, v ≠ .str z) : isWord v = false := by
  cases v with
  | str z => exact absurd rfl (h z)
  | _ => rfl
theorem isSign_no {v : V} (h : ∀ z, v ≠ .str z) : isSign v = false := by
  cases v with
  | str z => exact absurd rfl (h z)
  | _ => rfl
section
variable {P : Program} {w : World} {K : PySem.W.Frag} {mg : Str → Option Value} {base : Heap}
/-! ### is_sign -/
def spIsSign (K : PySem.W.Frag) : Sp := fun vs H Q _ => ∃ v, vs = [v] ∧ ValOk K H v ∧ Q (.bl (isSign v)) H
theorem sc_is_sign : FnScope ["value"] ["value"] (defScope (top 11)) := ⟨rfl, rfl, rfl, by decide +kernel, rfl, by decide +kernel, by decide +kernel⟩
theorem c_is_sign (A : At K mg "is_sign" (top 11)) (B : Blt mg) : Cal P w K mg base 1 "is_sign" (spIsSign K) := by
  refine cal_of A sc_is_sign (fun _ _ _ _ _ _ us hl => match us, hl with | [_], _ => rfl) (fun vs H Q E h => ?_) (fun f cdv A outer s H vs Q E hr h => ?_)
  · obtain ⟨v, rfl, _⟩ := h; rfl
  · obtain ⟨v, rfl, hv, hQ⟩ := h
    refine ⟨_, pss_one (ps_ret (pe_and (pe_callB call_isS (by rfl) B.isinstance (by decide +kernel) (pa_cons (pv 0) (pa_cons (pe_bltn (v := .ty "str") (by rfl) B.str (by decide +kernel) rfl) pa_nil)))
      (pe_and (pe_cmpR op_eq (pe_callB call_len_str (by rfl) B.len PySem.boot_len (pa_cons (pv 0) pa_nil)) pe_int (nomark _))
        (pe_one (pe_cmpR op_in_sign (pv 0) (pe_gl (by rfl) B.SIGNS) (by rfl)))))), ?_⟩
    rcases hv with ⟨z, rfl, hz⟩ | ⟨hn, hk⟩
    · refine ⟨_, rfl, .str z, "str", true, rfl, .str, true, rfl, iteT ?_⟩
      refine ⟨_, rfl, z, rfl, Nat.le_trans hz (by decide), rfl, _, rfl, ?_⟩
      by_cases h1 : z.length = 1
      · obtain ⟨c, rfl⟩ : ∃ c, z = ⟨#[c]⟩ := str_one h1
        rw [show decide (V.int ((⟨#[c]⟩ : Str).length : Int) = V.int 1) = true from rfl]
        refine iteT ⟨_, rfl, c, _, rfl, rfl, ?_⟩
        have e : isSign (.str ⟨#[c]⟩) = decide (c ∈ ("abcde" : Str).cps.toList) := by simp [isSign, isWordS, Str.length, sgn]
        rw [← e]; exact hQ
      · have e0 : decide (V.int (z.length : Int) = V.int 1) = false := decide_eq_false (fun q => h1 (by injection q with q; omega))
        rw [e0]
        have e : isSign (.str z) = false := by simp [isSign, h1]
        rw [e] at hQ
        exact iteF hQ
    · refine ⟨_, rfl, v, "str", false, rfl, hk, false, rfl, iteF ?_⟩
      rw [isSign_no hn] at hQ
      exact hQ
/-! ### is_word -/
def spIsWord (K : PySem.W.Frag) : Sp := fun vs H Q _ => ∃ v, vs = [v] ∧ ValOk K H v ∧ ∀ H', Same H H' → Q (.bl (isWord v)) H'
abbrev N_is_word : List Str := ["value", "sign"]
theorem sc_is_word : FnScope N_is_word ["value"] (defScope (top 12)) := ⟨rfl, rfl, rfl, by decide +kernel, rfl, by decide +kernel, by decide +kernel⟩
theorem same_new {H : Hp} {p : Addr} {o : HO} (h : H p = none) : Same H (upd H p o) := fun b u e => by rw [upd_ne (ne_of_none e h)]; exact e
theorem c_is_word (A : At K mg "is_word" (top 12)) (B : Blt mg) : Cal P w K mg base 1 "is_word" (spIsWord K) := by
  refine cal_of A sc_is_word (fun _ _ _ _ _ _ us hl => match us, hl with | [_], _ => rfl) (fun vs H Q E h => ?_) (fun f cdv A outer s H vs Q E hr h => ?_)
  · obtain ⟨v, rfl, _⟩ := h; rfl
  · obtain ⟨v, rfl, hv, hQ⟩ := h
    refine ⟨_, (pss_one (ps_ret (pe_and (pe_callB call_isS (by rfl) B.isinstance (by decide +kernel) (pa_cons (pv 0) (pa_cons (pe_bltn (v := .ty "str") (by rfl) B.str (by decide +kernel) rfl) pa_nil)))
      (pe_one (pe_callB (cr_all rfl) (by rfl) B.all (by decide +kernel) (pa_cons (pe_lc (own := [("sign", 1)]) (g := gName 1) (tt := tYes) (by rfl) sc_is_word.nd (pi_str (pv 0))
        (blkOk_by (own := [("sign", 1)]) (N := N_is_word) (sc := defScope (top 12)) (by decide +kernel)) (fun _ _ _ _ _ => (pg_name (i := 1) sc_is_word.nd rfl (Or.inl rfl))) (fun _ _ _ _ _ => pts_nil)
        (fun _ _ _ _ _ => (pe_cmpR op_in_sign (pv 1) (pe_gl (by rfl) B.SIGNS) (by rfl)))) pa_nil)))))), ?_⟩
    rcases hv with ⟨z, rfl, hz⟩ | ⟨hn, hk⟩
    · refine ⟨_, rfl, .str z, "str", true, rfl, .str, true, rfl, iteT ?_⟩
      refine ⟨_, rfl, z, rfl, fun D hD => lc_str (by omega) (fun _ => true) (fun x => .bl (isWord x)) (fun x _ => rfl) (fun x _ acc Q q => q) (fun x hx _ acc Q q => ?_) ?_⟩
      · obtain ⟨c, hc, rfl⟩ := List.mem_map.mp hx
        refine ⟨_, rfl, c, _, rfl, rfl, ?_⟩
        have e : isWord (.str ⟨#[c]⟩) = decide (c ∈ ("abcde" : Str).cps.toList) := by simp [isWord, isWordS, sgn]
        rw [← e]; exact q
      · refine ⟨D, (signsOf z).map isWord, rfl, .inl (.inl ?_), ?_⟩
        · rw [filter_all, List.map_map]; exact upd_same
        · have e : ((signsOf z).map isWord).all id = isWordS z := by
            simp [signsOf, isWordS, isWord, List.all_map, Function.comp_def]
          rw [e]
          exact hQ _ (same_new hD)
    · refine ⟨_, rfl, v, "str", false, rfl, hk, false, rfl, iteF ?_⟩
      rw [isWord_no hn] at hQ
      exact hQ _ (Same.refl _)
/-! ### require_words -/
/-- a tuple of words -/
def WordsAt (K : PySem.W.Frag) (H : Hp) (t : Addr) (zs : List Str) : Prop := SqT K H t (zs.map V.str) ∧ zs.length ≤ 100000 ∧ ∀ z ∈ zs, isWordS z = true ∧ z.length ≤ 100000
def spReqWords (K : PySem.W.Frag) : Sp := fun vs H Q _ => ∃ t zs, vs = [.ref t] ∧ WordsAt K H t zs ∧ ∀ H', Same H H' → Q .non H'
abbrev N_require_words : List Str := ["value", "word"]
theorem sc_require_words : FnScope N_require_words ["value"] (defScope (top 15)) := ⟨rfl, rfl, rfl, by decide +kernel, rfl, by decide +kernel, by decide +kernel⟩
theorem tyT {K : PySem.W.Frag} {H : Hp} {t : Addr} {xs : List V} (h : SqT K H t xs) : TyX K H (.ref t) (.type "tuple") := by
  rcases h with (h | ⟨o, h⟩) | h
  · exact .base (.tup h)
  · exact .fTuple h
  · obtain ⟨o, its, n, e1, e2, _⟩ := h
    exact .kTuple e1 e2
theorem c_require_words (A : At K mg "require_words" (top 15)) (B : Blt mg) (c_is_word : Cal P w K mg base 1 "is_word" (spIsWord K)) : Cal P w K mg base 2 "require_words" (spReqWords K) := by
  refine cal_of A sc_require_words (fun _ _ _ _ _ _ us hl => match us, hl with | [_], _ => rfl) (fun vs H Q E h => ?_) (fun f cdv A outer s H vs Q E hr h => ?_)
  · obtain ⟨t, zs, rfl, _⟩ := h; rfl
  · obtain ⟨t, zs, rfl, ⟨ht, hl, hw⟩, hQ⟩ := h
    refine ⟨_, (pss_one (ps_if (PW.pt (pw_or (pt_not (pt_val (pe_callB call_isi (by rfl) B.isinstance (by decide +kernel) (pa_cons (pv 0) (pa_cons (pe_bltn (v := .ty "tuple") (by rfl) B.tuple (by decide +kernel) rfl) pa_nil)))))
      (pw_or1 (pt_not (pt_val (pe_callB (cr_all rfl) (by rfl) B.all (by decide +kernel) (pa_cons (pe_lc (own := [("word", 1)]) (g := gName 1) (tt := tYes) (by rfl) sc_require_words.nd (pi_tup (pv 0))
        (blkOk_by (own := [("word", 1)]) (N := N_require_words) (sc := defScope (top 15)) (by decide +kernel)) (fun _ _ _ _ _ => (pg_name (i := 1) sc_require_words.nd rfl (Or.inl rfl))) (fun _ _ _ _ _ => pts_nil)
        (fun _ _ _ _ _ => (pe_c c_is_word hr (by decide) (by rfl) (pa_cons (pv 1) pa_nil)))) pa_nil)))))))
      (pss_one ps_never)
      pss_nil)), ?_⟩
    refine ⟨_, rfl, .ref t, .ty "tuple", .type "tuple", .type "tuple", true, rfl, .ty _, tyT ht, kit_ty (by decide +kernel), true, rfl, iteF ?_⟩
    refine ⟨_, rfl, t, rfl, ⟨_, ht⟩, fun D hD => lc_tplE ht hD (by simp; omega) (fun _ => true) (fun x => .bl (isWord x)) (fun x _ => rfl) (fun x _ H2 e2 Q q => q _ (Same.refl _)) (fun x hx _ H2 e2 Q q => ?_) (fun H' e' hD' => ?_)⟩
    · obtain ⟨z, hz, rfl⟩ := List.mem_map.mp hx
      exact ⟨_, rfl, _, rfl, .str (hw z hz).2, q⟩
    · refine ⟨D, (zs.map V.str).map isWord, rfl, .inl (.inl ?_), true, ?_, iteF (hQ _ e')⟩
      · rw [hD', filter_all]; simp [Function.comp_def]
      · congr 1
        rw [List.all_map, List.all_map, List.all_eq_true]
        exact fun z hz => (hw z hz).1
/-! ### by_words, ordered -/
theorem putK_new {kvs : List (Key × V)} {k : Key} {v : V} (h : k ∉ kvs.map (·.1)) : putK kvs k v = kvs ++ [(k, v)] := by
  unfold putK
  rw [if_neg]
  intro q
  obtain ⟨kv, h1, h2⟩ := List.any_eq_true.mp q
  exact h (List.mem_map.mpr ⟨kv, h1, of_decide_eq_true h2⟩)
theorem putK_same {kvs : List (Key × V)} {k : Key} {v : V} (h : k ∈ kvs.map (·.1)) (hv : ∀ kv ∈ kvs, kv.2 = v) : putK kvs k v = kvs := by
  obtain ⟨kv, h1, h2⟩ := List.mem_map.mp h
  unfold putK
  rw [if_pos (List.any_eq_true.mpr ⟨kv, h1, decide_eq_true h2⟩)]
  have : ∀ x ∈ kvs, (if x.1 = k then (x.1, v) else x) = x := fun x hx => by
    split
    · rw [← hv x hx]
    · rfl
  rw [List.map_congr_left this, List.map_id']
def trueK (zs : List Str) : List (Key × V) := zs.map fun z => (Sum.inr z, V.bl true)
theorem uniq_snoc (zs : List Str) (z : Str) : uniq (zs ++ [z]) = if z ∈ uniq zs then uniq zs else uniq zs ++ [z] := by
  unfold uniq
  rw [List.foldl_append]
  rfl
theorem putK_uniq (zs : List Str) (z : Str) : putK (trueK (uniq zs)) (Sum.inr z) (.bl true) = trueK (uniq (zs ++ [z])) := by
  have hm : (Sum.inr z : Key) ∈ (trueK (uniq zs)).map (·.1) ↔ z ∈ uniq zs := by
    simp [trueK]
  rw [uniq_snoc]
  by_cases h : z ∈ uniq zs
  · rw [if_pos h, putK_same (hm.mpr h) fun kv hkv => ?_]
    obtain ⟨y, _, rfl⟩ := List.mem_map.mp hkv
    rfl
  · rw [if_neg h, putK_new fun q => h (hm.mp q)]
    simp [trueK]
def spByWords (K : PySem.W.Frag) : Sp := fun vs H Q _ => ∃ t zs, vs = [.ref t] ∧ WordsAt K H t zs ∧ ∀ p H', H p = none → Same H H' → H' p = some (.lst ((ord zs).map V.str)) → Q (.ref p) H'
abbrev N_by_words : List Str := ["words", "word"]
theorem sc_by_words : FnScope N_by_words ["words"] (defScope (top 18)) := ⟨rfl, rfl, rfl, by decide +kernel, rfl, by decide +kernel, by decide +kernel⟩
theorem uniq_length (zs : List Str) : (uniq zs).length ≤ zs.length := by
  have h := ord_length zs
  unfold ord at h
  rw [List.length_mergeSort] at h
  exact h
theorem c_by_words (A : At K mg "by_words" (top 18)) (B : Blt mg) {f : Addr} (hm : mg "word_rank" = some (.ref f)) (F : KeyD P w K mg f rankOf) : Cal P w K mg base 1 "by_words" (spByWords K) := by
  refine cal_of A sc_by_words (fun _ _ _ _ _ _ us hl => match us, hl with | [_], _ => rfl) (fun vs H Q E h => ?_) (fun _ cdv A outer s H vs Q E hr h => ?_)
  · obtain ⟨t, zs, rfl, _⟩ := h; rfl
  · obtain ⟨t, zs, rfl, ⟨ht, hl, hw⟩, hQ⟩ := h
    refine ⟨_, pss_one (ps_ret (pe_callBK (cr_sortRank hr.units hr.depth F) (by rfl) B.sorted (by decide +kernel)
      (pa_cons (pe_callTy (call_list_dK rfl) (by rfl) B.list (by decide +kernel) (pa_cons (pe_dc (own := [("word", 1)]) (g := gName 1) (tt := tYes) rfl sc_by_words.nd (pi_tup (pv 0))
        (blkOk_by (own := [("word", 1)]) (N := N_by_words) (sc := defScope (top 18)) (by decide +kernel)) (fun _ _ _ _ _ => (pg_name (i := 1) sc_by_words.nd rfl (Or.inl rfl))) (fun _ _ _ _ _ => pts_nil)
        (fun _ _ _ _ _ => pv 1) (fun _ _ _ _ _ => pe_bl)) pa_nil)) pa_nil) (pk_cons (pe_glob (v := .ref f) (by rfl) hm rfl) pk_nil))), ?_⟩
    refine ⟨_, rfl, t, rfl, ⟨_, ht⟩, fun D hD => dc_tup (xs := zs.map V.str) (fun i H' => H' = upd H D (.dK (trueK (uniq (zs.take i))))) rfl (fun i H' _ e => by rw [e]; exact seqT_upd ht hD) (fun i x H' hx e => ?_) (fun H' e => ?_)⟩
    · subst e
      rw [List.getElem?_map] at hx
      obtain ⟨z, hz, rfl⟩ := Option.map_eq_some_iff.mp hx
      refine ⟨rfl, yes_q (iteT ⟨_, rfl, _, Sum.inr z, rfl, upd_same, ?_, ?_⟩)⟩
      · have h1 := uniq_length (zs.take i)
        have h2 : (zs.take i).length ≤ zs.length := by rw [List.length_take]; omega
        have h3 : 100000 < sizeLine := by decide
        simp only [trueK, List.length_map]
        omega
      · rw [upd_upd, putK_uniq, List.take_add_one, hz]
        rfl
    · rw [List.length_map, List.take_length] at e
      subst e
      refine ⟨D, _, rfl, upd_same, fun q hq => ⟨q, uniq zs, rfl, rfl, .inl (.inl ?_), ?_, ?_, fun p hp => ?_⟩⟩
      · rw [upd_same]
        simp [trueK, kV]
      · exact Nat.le_trans (uniq_length zs) hl
      · intro z hz
        exact (hw z ((mem_uniq zs z).mp hz)).2
      · have e1 : H p = none := by
          by_cases z : p = D
          · rw [z]; exact hD
          · by_cases z2 : p = q
            · rw [z2, upd_same] at hp; cases hp
            · rw [upd_ne z2, upd_ne z] at hp; exact hp
        have e2 : H q = none := by
          by_cases z : q = D
          · rw [z]; exact hD
          · rw [upd_ne z] at hq; exact hq
        refine hQ p _ e1 (fun b o e => ?_) ?_
        · rw [upd_ne (ne_of_none e e1), upd_ne (ne_of_none e e2), upd_ne (ne_of_none e hD)]
          exact e
        · rw [upd_same, dataLe_rank]
          rfl
def spOrdered (K : PySem.W.Frag) : Sp := fun vs H Q _ => ∃ t zs, vs = [.ref t] ∧ WordsAt K H t zs ∧ ∀ p H', H p = none → Same H H' → H' p = some (.tup ((ord zs).map V.str)) → Q (.ref p) H'
theorem sc_ordered : FnScope ["words"] ["words"] (defScope (top 19)) := ⟨rfl, rfl, rfl, by decide +kernel, rfl, by decide +kernel, by decide +kernel⟩
theorem c_ordered (A : At K mg "ordered" (top 19)) (B : Blt mg) (c_require_words : Cal P w K mg base 2 "require_words" (spReqWords K)) (c_by_words : Cal P w K mg base 1 "by_words" (spByWords K)) : Cal P w K mg base 3 "ordered" (spOrdered K) := by
  refine cal_of A sc_ordered (fun _ _ _ _ _ _ us hl => match us, hl with | [_], _ => rfl) (fun vs H Q E h => ?_) (fun _ cdv A outer s H vs Q E hr h => ?_)
  · obtain ⟨t, zs, rfl, _⟩ := h; rfl
  · obtain ⟨t, zs, rfl, ht, hQ⟩ := h
    refine ⟨_, pss_cons (ps_expr (pe_c c_require_words hr (by decide) (by rfl) (pa_cons (pv 0) pa_nil))) (pss_one (ps_ret (pe_callTy call_tuple_of (by rfl) B.tuple (by decide +kernel) (pa_cons (pe_c c_by_words hr (by decide) (by rfl) (pa_cons (pv 0) pa_nil)) pa_nil)))), ?_⟩
    refine ⟨_, rfl, t, zs, rfl, ht, fun H1 e1 => ⟨_, rfl, t, zs, rfl, ⟨Same.seqT e1 ht.1, ht.2⟩, fun p H2 hp e2 h2 => ⟨p, _, rfl, .inl ⟨.inl (.inl h2), fun q hq => ?_⟩⟩⟩⟩
    have q0 : H q = none := e1.free (e2.free hq)
    exact hQ q _ q0 ((e1.trans e2).trans (same_new hq)) upd_same
end
end MN
/-! the defs about numbers -/
namespace MN
open PySem PySem.Spec PyProof.Rows L2
abbrev GlC (mg : Str → Option Value) (x : Str) (v : V) : Prop := ∃ u, mg x = some u ∧ RelV v u
def big : Int := 10 ^ 60
theorem IsX.ty {K : PySem.W.Frag} {H : Hp} {v : V} {a c : String} {b : Bool} (h : TyX K H v (.type a)) (hk : kitB a c = some b) : IsX K H v c b := .inl ⟨_, h, kit_ty hk⟩
def isInt (n : Int) : Bool := decide (-big < n) && decide (n < big)
theorem isInt_of {n : Int} (h1 : -1000000 ≤ n) (h2 : n ≤ 1000000) : isInt n = true := by
  have : (1000000 : Int) < big := by decide +kernel
  unfold isInt
  rw [decide_eq_true (by omega), decide_eq_true (by omega)]
  rfl
section
variable {P : Program} {w : World} {K : PySem.W.Frag} {mg : Str → Option Value} {base : Heap}
def spIsInt (K : PySem.W.Frag) : Sp := fun vs H Q _ => ∃ v, vs = [v] ∧ ((∃ n, v = .int n ∧ Q (.bl (isInt n)) H) ∨ (∃ b, v = .bl b ∧ Q (.bl false) H) ∨ (IsX K H v "int" false ∧ Q (.bl false) H))
theorem sc_is_integer : FnScope ["value"] ["value"] (defScope (top 10)) := ⟨rfl, rfl, rfl, by decide +kernel, rfl, by decide +kernel, by decide +kernel⟩
theorem c_is_integer (A : At K mg "is_integer" (top 10)) (B : Blt mg) (G : GlC mg "GREATEST" (.int big)) : Cal P w K mg base 1 "is_integer" (spIsInt K) := by
  refine cal_of A sc_is_integer (fun _ _ _ _ _ _ us hl => match us, hl with | [_], _ => rfl) (fun vs H Q E h => ?_) (fun f cdv A outer s H vs Q E hr h => ?_)
  · obtain ⟨v, rfl, _⟩ := h; rfl
  · obtain ⟨v, rfl, hQ⟩ := h
    refine ⟨_, (pss_one (ps_ret (pe_and (pe_callB call_isS (by rfl) B.isinstance (by decide +kernel) (pa_cons (pv 0) (pa_cons (pe_bltn (v := .ty "int") (by rfl) B.int (by decide +kernel) rfl) pa_nil))) (pe_and (pe_not (pe_callB call_isS (by rfl) B.isinstance (by decide +kernel) (pa_cons (pv 0) (pa_cons (pe_bltn (v := .ty "bool") (by rfl) B.bool (by decide +kernel) rfl) pa_nil)))) (pe_one (pe_chain op_lt op_lt (pe_un un_neg (pe_gl (by rfl) G)) (pv 0) (pe_gl (by rfl) G))))))), ?_⟩
    rcases hQ with ⟨n, rfl, hQ⟩ | ⟨b, rfl, hQ⟩ | ⟨hi, hQ⟩
    · refine ⟨_, rfl, _, _, true, rfl, .ty (.base (.int n)) (by decide +kernel), _, rfl, iteT ?_⟩
      refine ⟨_, rfl, _, _, false, rfl, .ty (.base (.int n)) (by decide +kernel), _, rfl, _, rfl, iteT ?_⟩
      refine ⟨_, rfl, _, rfl, _, _, rfl, rfl, _, rfl, ?_⟩
      by_cases h1 : -big < n
      · rw [decide_eq_true h1]
        refine iteT ⟨_, _, rfl, rfl, ?_⟩
        unfold isInt at hQ
        rw [decide_eq_true h1] at hQ
        exact hQ
      · rw [decide_eq_false h1]
        unfold isInt at hQ
        rw [decide_eq_false h1] at hQ
        exact iteF hQ
    · refine ⟨_, rfl, _, _, true, rfl, .ty (.base (.bl b)) (by decide +kernel), _, rfl, iteT ?_⟩
      exact ⟨_, rfl, _, _, true, rfl, .ty (.base (.bl b)) (by decide +kernel), _, rfl, _, rfl, iteF hQ⟩
    · exact ⟨_, rfl, _, _, false, rfl, hi, _, rfl, iteF hQ⟩
/-- a number within its bounds -/
def spReqNumber : Sp := fun vs H Q _ => ∃ n lo hi, vs = [.int n, .int lo, .int hi] ∧ isInt n = true ∧ lo ≤ n ∧ n ≤ hi ∧ Q .non H
theorem sc_require_number : FnScope ["value", "low", "high"] ["value", "low", "high"] (defScope (top 16)) := ⟨rfl, rfl, rfl, by decide +kernel, rfl, by decide +kernel, by decide +kernel⟩
theorem c_require_number (A : At K mg "require_number" (top 16)) (c_is_integer : Cal P w K mg base 1 "is_integer" (spIsInt K)) : Cal P w K mg base 2 "require_number" spReqNumber := by
  refine cal_of A sc_require_number (fun _ _ _ _ _ _ us hl => match us, hl with | [_, _, _], _ => rfl) (fun vs H Q E h => ?_) (fun f cdv A outer s H vs Q E hr h => ?_)
  · obtain ⟨n, lo, hi, rfl, _⟩ := h; rfl
  · obtain ⟨n, lo, hi, rfl, hn, h1, h2, hQ⟩ := h
    refine ⟨_, (pss_one (ps_if (PW.pt (pw_or (pt_not (pt_val (pe_c c_is_integer hr (by decide) (by rfl) (pa_cons (pv 0) pa_nil)))) (pw_or1 (pt_not (pt_chain op_le op_le (pv 1) (pv 0) (pv 2))))))
      (pss_one ps_never)
      pss_nil)), ?_⟩
    refine ⟨_, rfl, _, rfl, .inl ⟨n, rfl, _, rfl, ?_⟩⟩
    rw [hn]
    refine iteF ⟨_, rfl, _, rfl, _, _, rfl, rfl, _, rfl, ?_⟩
    rw [decide_eq_true h1]
    refine iteT ⟨_, rfl, _, _, rfl, rfl, _, rfl, ?_⟩
    rw [decide_eq_true h2]
    exact iteF hQ
/-- prices: whole numbers -/
def spIsPrice (K : PySem.W.Frag) : Sp := fun vs H Q _ => ∃ v m, vs = [v, .int m] ∧ ((∃ n, v = .int n ∧ Q (.bl (isInt n && (decide (1 ≤ n) && decide (n ≤ m)))) H) ∨ (∃ b, v = .bl b ∧ Q (.bl false) H) ∨ (IsX K H v "int" false ∧ Q (.bl false) H))
theorem sc_is_price : FnScope ["value", "most"] ["value", "most"] (defScope (top 23)) := ⟨rfl, rfl, rfl, by decide +kernel, rfl, by decide +kernel, by decide +kernel⟩
theorem c_is_price (A : At K mg "is_price" (top 23)) (c_is_integer : Cal P w K mg base 1 "is_integer" (spIsInt K)) : Cal P w K mg base 2 "is_price" (spIsPrice K) := by
  refine cal_of A sc_is_price (fun _ _ _ _ _ _ us hl => match us, hl with | [_, _], _ => rfl) (fun vs H Q E h => ?_) (fun f cdv A outer s H vs Q E hr h => ?_)
  · obtain ⟨v, m, rfl, _⟩ := h; rfl
  · obtain ⟨v, m, rfl, hQ⟩ := h
    refine ⟨_, (pss_one (ps_ret (pe_and (pe_c c_is_integer hr (by decide) (by rfl) (pa_cons (pv 0) pa_nil)) (pe_one (pe_chain op_le op_le pe_int (pv 0) (pv 1)))))), ?_⟩
    refine ⟨_, rfl, _, rfl, ?_⟩
    rcases hQ with ⟨n, rfl, hQ⟩ | ⟨b, rfl, hQ⟩ | ⟨hi, hQ⟩
    · refine .inl ⟨n, rfl, _, rfl, ?_⟩
      cases hn : isInt n with
      | false => rw [hn] at hQ; exact iteF hQ
      | true =>
        rw [hn] at hQ
        refine iteT ⟨_, rfl, _, _, rfl, rfl, _, rfl, ?_⟩
        by_cases h1 : 1 ≤ n
        · rw [decide_eq_true h1] at hQ ⊢
          exact iteT ⟨_, rfl, _, _, rfl, rfl, hQ⟩
        · rw [decide_eq_false h1] at hQ ⊢
          exact iteF hQ
    · exact .inr (.inl ⟨b, rfl, _, rfl, iteF hQ⟩)
    · exact .inr (.inr ⟨hi, _, rfl, iteF hQ⟩)
end
end MN
/-! are_signs, require_signs -/
namespace MN
open PySem PySem.Spec PyProof.Rows L2
theorem pg_tupK {X : Cx} {pos : Pos} {K : PySem.W.Frag} (hK : X.K = K) {es : List Expr} {k : Nat} {t : TGs} {n : Nat} (hc : X.calm = true) (h : PGs X es t)
    (hn : (assignEach es X.env).length = n := by rfl) (hst : (assignEach es X.env).findIdx? (·.1) = none := by rfl) : PG X (.Tuple es k pos) (gTup K n t) := hK ▸ pg_tup hc h hn hst
theorem isSK {X : Cx} {K : PySem.W.Frag} (hK : X.K = K) : CallR X (.builtin "isinstance") (rIsS K) := hK ▸ call_isS
theorem walk_zipT {K : PySem.W.Frag} {a b : Addr} {xs ys : List V} {n : Nat} (hn : n = min xs.length ys.length) : Walk (RZ.ItzT K a b) n (fun H => SqT K H a xs ∧ SqT K H b ys) (YPair (fun i => xs[i]?) (fun i => ys[i]?)) := by
  subst hn
  refine ⟨fun i _ hi q => ?_, fun _ q => ⟨xs, ys, q.1, q.2, by omega⟩, fun i H v H' _ q y => ?_⟩
  · have h1 : i < xs.length := by omega
    have h2 : i < ys.length := by omega
    exact ⟨xs, ys, xs[i], ys[i], q.1, q.2, by simp [h1], by simp [h2]⟩
  · obtain ⟨T, x, y, h1, h2, h3, h4, h5⟩ := y
    exact ⟨T, x, y, h1, h2, h3, h4 xs q.1, h5 ys q.2⟩
def ltS (a b : Str) : Bool := decide (a.cps.toList < b.cps.toList)
def asc (zs : List Str) : Bool := (zs.zip zs.tail).all fun p => ltS p.1 p.2
def areSigns (zs : List Str) : Bool := !zs.isEmpty && (zs.all (fun z => isSign (.str z)) && asc zs)
def TextsAt (K : PySem.W.Frag) (H : Hp) (t : Addr) (zs : List Str) : Prop := SqT K H t (zs.map V.str) ∧ zs.length ≤ 100000 ∧ ∀ z ∈ zs, z.length ≤ 100000
section
variable {P : Program} {w : World} {K : PySem.W.Frag} {mg : Str → Option Value} {base : Heap}
def spAreSigns (K : PySem.W.Frag) : Sp := fun vs H Q _ => ∃ t zs, vs = [.ref t] ∧ TextsAt K H t zs ∧ ∀ H', Same H H' → Q (.bl (areSigns zs)) H'
abbrev N_are_signs : List Str := ["value", "sign", "one", "other"]
theorem sc_are_signs : FnScope N_are_signs ["value"] (defScope (top 13)) := ⟨rfl, rfl, rfl, by decide +kernel, rfl, by decide +kernel, by decide +kernel⟩
theorem c_are_signs (A : At K mg "are_signs" (top 13)) (B : Blt mg) (c_is_sign : Cal P w K mg base 1 "is_sign" (spIsSign K)) : Cal P w K mg base 2 "are_signs" (spAreSigns K) := by
  refine cal_of A sc_are_signs (fun _ _ _ _ _ _ us hl => match us, hl with | [_], _ => rfl) (fun vs H Q E h => ?_) (fun f cdv A outer s H vs Q E hr h => ?_)
  · obtain ⟨t, zs, rfl, _⟩ := h; rfl
  · obtain ⟨t, zs, rfl, ⟨ht, hl, hw⟩, hQ⟩ := h
    refine ⟨_, (pss_cons (ps_if (PW.pt (pw_or (pt_not (pt_val (pe_callB call_isi (by rfl) B.isinstance (by decide +kernel) (pa_cons (pv 0) (pa_cons (pe_bltn (v := .ty "tuple") (by rfl) B.tuple (by decide +kernel) rfl) pa_nil))))) (pw_or (pt_cmpR op_eq (pe_callB call_len_seq (by rfl) B.len (by decide +kernel) (pa_cons (pv 0) pa_nil)) pe_int (nomark _)) (pw_or1 (pt_not (pt_val (pe_callB (cr_all rfl) (by rfl) B.all (by decide +kernel) (pa_cons (pe_lc (own := [("sign", 1)]) (g := gName 1) (tt := tYes) (by rfl) sc_are_signs.nd (pi_tup (pv 0)) (blkOk_by (own := [("sign", 1)]) (N := N_are_signs) (sc := defScope (top 13)) (by decide +kernel)) (fun _ _ _ _ _ => (pg_name (i := 1) sc_are_signs.nd rfl (Or.inl rfl))) (fun _ _ _ _ _ => pts_nil) (fun _ _ _ _ _ => (pe_c c_is_sign hr (by decide) (by rfl) (pa_cons (pv 1) pa_nil)))) pa_nil))))))))
      (pss_one (ps_ret pe_bl))
      pss_nil)
      (pss_one (ps_ret (pe_callB (cr_all rfl) (by rfl) B.all (by decide +kernel) (pa_cons (pe_lc (own := [("one", 2), ("other", 3)]) (tt := tYes) (by rfl) sc_are_signs.nd (RZ.pi_zipA (by rfl) B.zip (pa_cons (pv 0) (pa_cons (pe_slice sl_tup (pv 0) (po_some pe_int) po_none) pa_nil))) (blkOk_by (own := [("one", 2), ("other", 3)]) (N := N_are_signs) (sc := defScope (top 13)) (by decide +kernel)) (fun _ _ _ _ _ => (pg_tupK (K := K) (n := 2) rfl rfl (pgs_cons (pg_name (i := 2) sc_are_signs.nd rfl (Or.inl rfl)) (pgs_cons (pg_name (i := 3) sc_are_signs.nd rfl (Or.inl rfl)) pgs_nil)))) (fun _ _ _ _ _ => pts_nil) (fun _ _ _ _ _ => (pe_cmpR op_lt_str (pv 2) (pv 3) (nomark _)))) pa_nil))))), ?_⟩
    refine ⟨_, rfl, .ref t, .ty "tuple", .type "tuple", .type "tuple", true, rfl, .ty _, tyT ht, kit_ty (by decide +kernel), true, rfl, iteF ?_⟩
    refine ⟨_, rfl, _, _, rfl, .inr ht, rfl, _, rfl, ?_⟩
    rw [List.length_map]
    cases zs with
    | nil =>
      exact iteT (iteT (hQ _ (Same.refl _)))
    | cons z0 zt =>
      generalize hzs : z0 :: zt = zs at *
      have hne : 0 < zs.length := by rw [← hzs]; simp
      have e0 : decide (V.int ((zs.length : Nat) : Int) = V.int 0) = false := decide_eq_false (fun q => by injection q with q; omega)
      rw [e0]
      refine iteF ?_
      refine ⟨_, rfl, t, rfl, ⟨_, ht⟩, fun D hD => lc_tpl ht hD (by simp; omega) (fun _ => true) (fun x => .bl (isSign x)) (fun x _ => rfl) (fun x _ acc Q q => q) (fun x hx _ acc Q q => ?_) ?_⟩
      · obtain ⟨z, hz, rfl⟩ := List.mem_map.mp hx
        exact ⟨_, rfl, _, rfl, .str (hw z hz), q⟩
      · refine ⟨D, (zs.map V.str).map isSign, rfl, .inl (.inl ?_), _, rfl, ?_⟩
        · rw [upd_same, filter_all]; simp [Function.comp_def]
        · have ea : ((zs.map V.str).map isSign).all id = zs.all (fun z => isSign (.str z)) := by simp [List.all_map, Function.comp_def]
          rw [ea]
          have e1 : Same H (upd H D (.lst (((zs.map V.str).filter fun _ => true).map fun x => .bl (isSign x)))) := same_new hD
          have hne' : zs.isEmpty = false := by rw [← hzs]; rfl
          cases hs : zs.all (fun z => isSign (.str z)) with
          | false =>
            refine iteT ?_
            have := hQ _ e1
            rw [areSigns, hne', hs] at this
            exact this
          | true =>
            refine iteF ?_
            refine ⟨_, rfl, _, rfl, _, rfl, t, zs.map V.str, rfl, Same.seqT e1 ht, fun q => ?_, fun p hp => ?_⟩
            · have q1 := q.1
              rw [List.length_map] at q1
              rw [show (some (1 : Int)) = some ((1 : Nat) : Int) from rfl, HT.sIx_nat] at q1
              omega
            · have ec : cutV (zs.map V.str) (some 1) none = zs.tail.map V.str := by
                unfold cutV
                rw [show (some (1 : Int)) = some ((1 : Nat) : Int) from rfl, HT.sIx_nat, HT.sIx_none, List.length_map, Nat.min_eq_left hne, ← List.map_drop, List.drop_one, List.take_of_length_le (by simp)]
              rw [ec]
              have e2 := e1.trans (same_new (o := .tup (zs.tail.map V.str)) hp)
              generalize hH1 : upd (upd H D (.lst (((zs.map V.str).filter fun _ => true).map fun x => .bl (isSign x)))) p (.tup (zs.tail.map V.str)) = H1 at *
              have hp1 : SqT K H1 p (zs.tail.map V.str) := .inl (.inl (by rw [← hH1, upd_same]))
              have ht1 : SqT K H1 t (zs.map V.str) := Same.seqT e2 ht
              refine ⟨t, p, _, _, rfl, .inr ⟨ht1, hp1, fun D2 hD2 => ?_⟩⟩
              have hl2 : (zs.tail.map V.str).length = min (zs.map V.str).length (zs.tail.map V.str).length := by simp
              refine lc_it (walk_zipT hl2) (fun i H' => Same H1 H' ∧ H' D2 = some (.lst (((zs.zip zs.tail).take i).map fun p => .bl (ltS p.1 p.2)))) ⟨same_new hD2, by rw [List.take_zero]; exact upd_same⟩ (fun i H' _ e => ⟨Same.seqT e.1 ht1, Same.seqT e.1 hp1⟩) (fun i x H' H2 hi e y => ?_) (fun H' e => ?_)
              · obtain ⟨T, x1, y1, rfl, hT, rfl, hx, hy⟩ := y
                simp only [List.getElem?_map] at hx hy
                obtain ⟨a, ha, rfl⟩ := Option.map_eq_some_iff.mp hx
                obtain ⟨b, hb, rfl⟩ := Option.map_eq_some_iff.mp hy
                have nD : D2 ≠ T := ne_of_none e.2 hT
                refine ⟨T, _, rfl, .inl (.inl upd_same), rfl, _, _, rfl, _, _, rfl, rfl, ?_⟩
                refine ⟨rfl, yes_q (iteT ⟨_, rfl, _, rfl, _, _, rfl, rfl, _, by rw [upd_ne nD]; exact e.2, ?_, ?_, ?_⟩)⟩
                · rw [List.length_map]
                  refine Nat.lt_of_le_of_lt (List.length_take_le' _ _) ?_
                  rw [List.length_zip]
                  have : 100000 < sizeLine := by decide
                  omega
                · intro b' o' q
                  rw [upd_ne (ne_of_none q hD2), upd_ne (ne_of_none (e.1 _ _ q) hT)]
                  exact e.1 _ _ q
                · rw [upd_same]
                  have ez : (zs.zip zs.tail)[i]? = some (a, b) := by
                    rw [List.getElem?_zip_eq_some]
                    exact ⟨ha, hb⟩
                  rw [List.take_add_one, ez]
                  simp [ltS]
              · refine ⟨D2, (zs.zip zs.tail).map fun p => ltS p.1 p.2, rfl, .inl (.inl ?_), ?_⟩
                · rw [e.2, List.take_of_length_le (by simp)]
                  simp [Function.comp_def]
                · have e9 := hQ _ (e2.trans e.1)
                  rw [areSigns, hne', hs] at e9
                  have e8 : ((zs.zip zs.tail).map fun p => ltS p.1 p.2).all id = asc zs := by
                    rw [List.all_map]; rfl
                  rw [e8]
                  exact e9
def spReqSigns (K : PySem.W.Frag) : Sp := fun vs H Q _ => ∃ t zs, vs = [.ref t] ∧ TextsAt K H t zs ∧ areSigns zs = true ∧ ∀ H', Same H H' → Q .non H'
theorem sc_require_signs : FnScope ["value"] ["value"] (defScope (top 14)) := ⟨rfl, rfl, rfl, by decide +kernel, rfl, by decide +kernel, by decide +kernel⟩
theorem c_require_signs (A : At K mg "require_signs" (top 14)) (c_are_signs : Cal P w K mg base 2 "are_signs" (spAreSigns K)) : Cal P w K mg base 3 "require_signs" (spReqSigns K) := by
  refine cal_of A sc_require_signs (fun _ _ _ _ _ _ us hl => match us, hl with | [_], _ => rfl) (fun vs H Q E h => ?_) (fun f cdv A outer s H vs Q E hr h => ?_)
  · obtain ⟨t, zs, rfl, _⟩ := h; rfl
  · obtain ⟨t, zs, rfl, ht, hs, hQ⟩ := h
    refine ⟨_, (pss_one (ps_if (pt_not (pt_val (pe_c c_are_signs hr (by decide) (by rfl) (pa_cons (pv 0) pa_nil))))
      (pss_one ps_never)
      pss_nil)), ?_⟩
    refine ⟨_, rfl, t, zs, rfl, ht, fun H' e => ⟨_, rfl, ?_⟩⟩
    rw [hs]
    exact iteF (hQ _ e)
end
end MN
/-! dict comprehensions with one and with two clauses, keys of any kind that a tracked dict knows -/
namespace MN
open PySem PySem.Spec PyProof.Rows L2
theorem d_setP {X : Cx} {pins : List (Addr × Obj)} {σ : L2.St} {H H' : Hp} {s : Shared} {E : Value → Shared → Prop} {D : Addr} {y v : V} {u r : Value} {Q : Unit → Shared → Prop} (hu : X.A.units + 1 < cLine) (I : Inv X pins σ H s) (g : DPut H D y v H')
    (ry : RelV y u) (rv : RelV v r) (h : ∀ s', Inv X pins σ H' s' → Q () s') : wpAny (model X.prog X.w) X.A (dictSet D u r) Q E s := by
  rcases g with ⟨kvs, k, e, ey, l, eH⟩ | ⟨kvs, k, b, e, ey, eb, l, eH⟩
  · subst ey eH
    exact d_dictSet I e l ry rv h
  · subst ey eH
    cases (show u = Value.ref b from ry)
    obtain ⟨z, hd, xs, rel, dd⟩ := dt_of I.hok e
    have hz : xs.length ≤ sizeLine := by rw [← Paired.length rel]; exact z
    have hl : (putK kvs k v).length ≤ sizeLine := by have := length_putK kvs k v; omega
    refine wpAny_dictSet_heap (hsz := hz) (show X.A.units < cLine by omega) (key_of I.hok eb) dd fun h' dd' hs => h _ ?_
    obtain ⟨q, es, ep, hq, h2, h3, h4, _, h5⟩ := dd'
    refine d_write I (by rw [e]; exact True.intro) hs ⟨q, hq⟩ ⟨hl, hd, _, (rel.put k eb rv).keeps fun c ys ec => ?_, q, es, ep, hq, h2, h3, h4, h5⟩
    rw [upd_ne (ne_of ec e (fun z => nomatch z))]
    exact ec
theorem turn2_out (kx vx t0 i0 t1 i1 : Expr) (ifs0 ifs1 : List Expr) (scope : Scope) (pos : Pos) (it acc : Value) (env : Env) :
    compTurn (.DictComp kx vx [⟨t0, i0, ifs0, 0⟩, ⟨t1, i1, ifs1, 0⟩] scope pos) 0 it acc env = (do
      standAt i0.pos
      match ← pyNext it with
      | none => pure (.done .next)
      | some v =>
        letOwnedTupleGo t0 it v
        assign t0 env v
        let mut ok := true
        for c in ifs0 do
          if ok then ok ← isTrue c env (eval c env)
        if ok then
          let x ← eval i1 env
          standAt i1.pos
          let x ← foldedSetIterable i1 env x
          let _ ← runOwn (.compStart (.DictComp kx vx [⟨t0, i0, ifs0, 0⟩, ⟨t1, i1, ifs1, 0⟩] scope pos) 1 (← holding [x] (pyIter x)) acc env) env
        again (.compLoop (.DictComp kx vx [⟨t0, i0, ifs0, 0⟩, ⟨t1, i1, ifs1, 0⟩] scope pos) 0 it acc env)) := by rfl
theorem turn2_in (kx vx t0 i0 t1 i1 : Expr) (ifs0 ifs1 : List Expr) (scope : Scope) (pos : Pos) (it : Value) (D : Addr) (env : Env) :
    compTurn (.DictComp kx vx [⟨t0, i0, ifs0, 0⟩, ⟨t1, i1, ifs1, 0⟩] scope pos) 1 it (.ref D) env = (do
      standAt i1.pos
      match ← pyNext it with
      | none => pure (.done .next)
      | some v =>
        letOwnedTupleGo t1 it v
        assign t1 env v
        let mut ok := true
        for c in ifs1 do
          if ok then ok ← isTrue c env (eval c env)
        if ok then
          (do
            let kv ← eval kx env
            let vv ← holding [kv] (eval vx env)
            standAt { kx.pos with endLine := vx.pos.endLine, endCol := vx.pos.endCol }
            holding [kv, vv] (dictSet D kv vv))
        again (.compLoop (.DictComp kx vx [⟨t0, i0, ifs0, 0⟩, ⟨t1, i1, ifs1, 0⟩] scope pos) 1 it (.ref D) env)) := by rfl
section
variable {prog : Program} {w : World} {A : Around} {R : Result → Shared → Prop} {s : Shared} {kx vx t0 i0 t1 i1 : Expr} {ifs0 ifs1 : List Expr} {scope : Scope} {pos : Pos} {it acc : Value} {D : Addr} {env : Env}
theorem loop2_out (hs : ∀ x, foldedSetIterable i1 env x = pure x) (I : Nat → Shared → Prop)
    (turn : ∀ n s, I n s → wpAny (model prog w) A (pyNext it) (fun r s₁ => match r with
      | none => R (.ok .next) s₁
      | some v => wpAny (model prog w) A (letOwnedTupleGo t0 it v) (fun _ s₂ => wpAny (model prog w) A (assign t0 env v) (fun _ s₃ => wpAny (model prog w) A (forIn ifs0 true fun c r => if r = true then do let ok ← isTrue c env (eval c env); pure (ForInStep.yield ok) else pure (ForInStep.yield r)) (fun ok s₄ =>
          if ok = true then wpAny (model prog w) A (eval i1 env) (fun x s₅ => wpAny (model prog w) A (pyIter x) (fun j s₆ =>
            codeAny (model prog w) A (.compStart (.DictComp kx vx [⟨t0, i0, ifs0, 0⟩, ⟨t1, i1, ifs1, 0⟩] scope pos) 1 j acc env) (fun r s' => match r with
              | .ok _ => ∃ m, m < n ∧ I m s'
              | .error _ => False) s₆) (notedBy (model prog w) A env fun e s' => R (.error e) s') s₅) (notedBy (model prog w) A env fun e s' => R (.error e) s') s₄
          else ∃ m, m < n ∧ I m s₄) (notedBy (model prog w) A env fun e s' => R (.error e) s') s₃) (notedBy (model prog w) A env fun e s' => R (.error e) s') s₂) (notedBy (model prog w) A env fun e s' => R (.error e) s') s₁) (notedBy (model prog w) A env fun e s' => R (.error e) s') s)
    (n : Nat) (h : I n s) : codeAny (model prog w) A (.compLoop (.DictComp kx vx [⟨t0, i0, ifs0, 0⟩, ⟨t1, i1, ifs1, 0⟩] scope pos) 0 it acc env) R s := by
  refine codeAny_loop rfl I (fun n s hI => ?_) n h
  show wpAny _ A ((compTurn (.DictComp kx vx [⟨t0, i0, ifs0, 0⟩, ⟨t1, i1, ifs1, 0⟩] scope pos) 0 it acc env).onRaise (fun x => do noteFrame x env; theTreesLotGoes x)) _ _ s
  refine wpAny_noted ?_
  rw [turn2_out]
  refine wpAny_bind (wpAny_standAt (wpAny_bind (wpAny_mono (turn n s hI) (fun r s₁ h₁ => ?_) fun _ _ z => z)))
  match r, h₁ with
  | none, h₁ => exact wpAny_pure h₁
  | some v, h₁ =>
    refine wpAny_bind (wpAny_mono h₁ (fun _ s₂ h₂ => wpAny_bind (wpAny_mono h₂ (fun _ s₃ h₃ => wpAny_bind (wpAny_mono h₃ (fun ok s₄ h₄ => ?_) fun _ _ z => z)) fun _ _ z => z)) fun _ _ z => z)
    cases ok with
    | false => exact wpAny_pure ⟨rfl, h₄⟩
    | true =>
      refine wpAny_bind (wpAny_mono h₄ (fun x s₅ h₅ => ?_) fun _ _ z => z)
      refine wpAny_bind (wpAny_standAt (wpAny_bind (wpAny_of_eq (hs x) (wpAny_bind (wpAny_holding (wpAny_mono h₅ (fun j s₆ h₆ => ?_) fun _ _ z => z))))))
      refine wpAny_bind (wpAny_runOwn ?_)
      rw [Around.mark_none]
      refine codeAny_mono h₆ fun r s' hr => ?_
      match r, hr with
      | .ok f, hr =>
        first
          | exact wpAny_pure ⟨rfl, hr⟩
          | exact wpAny_bind (wpAny_pure (wpAny_pure ⟨rfl, hr⟩))
      | .error e, hr => exact hr.elim
theorem loop2_in (I : Nat → Shared → Prop)
    (turn : ∀ n s, I n s → wpAny (model prog w) A (pyNext it) (fun r s₁ => match r with
      | none => R (.ok .next) s₁
      | some v => wpAny (model prog w) A (letOwnedTupleGo t1 it v) (fun _ s₂ => wpAny (model prog w) A (assign t1 env v) (fun _ s₃ => wpAny (model prog w) A (forIn ifs1 true fun c r => if r = true then do let ok ← isTrue c env (eval c env); pure (ForInStep.yield ok) else pure (ForInStep.yield r)) (fun ok s₄ =>
          if ok = true then wpAny (model prog w) A (eval kx env) (fun kv s₅ => wpAny (model prog w) A (eval vx env) (fun vv s₆ => wpAny (model prog w) A (dictSet D kv vv) (fun _ s₇ => ∃ m, m < n ∧ I m s₇) (notedBy (model prog w) A env fun e s' => R (.error e) s') s₆) (notedBy (model prog w) A env fun e s' => R (.error e) s') s₅) (notedBy (model prog w) A env fun e s' => R (.error e) s') s₄
          else ∃ m, m < n ∧ I m s₄) (notedBy (model prog w) A env fun e s' => R (.error e) s') s₃) (notedBy (model prog w) A env fun e s' => R (.error e) s') s₂) (notedBy (model prog w) A env fun e s' => R (.error e) s') s₁) (notedBy (model prog w) A env fun e s' => R (.error e) s') s)
    (n : Nat) (h : I n s) : codeAny (model prog w) A (.compLoop (.DictComp kx vx [⟨t0, i0, ifs0, 0⟩, ⟨t1, i1, ifs1, 0⟩] scope pos) 1 it (.ref D) env) R s := by
  refine codeAny_loop rfl I (fun n s hI => ?_) n h
  show wpAny _ A ((compTurn (.DictComp kx vx [⟨t0, i0, ifs0, 0⟩, ⟨t1, i1, ifs1, 0⟩] scope pos) 1 it (.ref D) env).onRaise (fun x => do noteFrame x env; theTreesLotGoes x)) _ _ s
  refine wpAny_noted ?_
  rw [turn2_in]
  refine wpAny_bind (wpAny_standAt (wpAny_bind (wpAny_mono (turn n s hI) (fun r s₁ h₁ => ?_) fun _ _ z => z)))
  match r, h₁ with
  | none, h₁ => exact wpAny_pure h₁
  | some v, h₁ =>
    refine wpAny_bind (wpAny_mono h₁ (fun _ s₂ h₂ => wpAny_bind (wpAny_mono h₂ (fun _ s₃ h₃ => wpAny_bind (wpAny_mono h₃ (fun ok s₄ h₄ => ?_) fun _ _ z => z)) fun _ _ z => z)) fun _ _ z => z)
    cases ok with
    | false => exact wpAny_pure ⟨rfl, h₄⟩
    | true =>
      exact wpAny_bind (wpAny_bind (wpAny_mono h₄ (fun kv s₅ h₅ => wpAny_bind (wpAny_holding (wpAny_mono h₅ (fun vv s₆ h₆ => wpAny_bind (wpAny_standAt (wpAny_holding (wpAny_mono h₆ (fun _ s₇ h₇ => wpAny_pure ⟨rfl, h₇⟩) fun _ _ z => z)))) fun _ _ z => z))) fun _ _ z => z))
theorem start2 (h0 : codeAny (model prog w) A (.compLoop (.DictComp kx vx [⟨t0, i0, ifs0, 0⟩, ⟨t1, i1, ifs1, 0⟩] scope pos) 1 it acc env) R s)
    (h : wpAny (model prog w) A (pyIter it) (fun j s' => codeAny (model prog w) A (.compLoop (.DictComp kx vx [⟨t0, i0, ifs0, 0⟩, ⟨t1, i1, ifs1, 0⟩] scope pos) 1 j acc env) R s') (notedBy (model prog w) A env fun x s' => R (.error x) s') s) :
    codeAny (model prog w) A (.compStart (.DictComp kx vx [⟨t0, i0, ifs0, 0⟩, ⟨t1, i1, ifs1, 0⟩] scope pos) 1 it acc env) R s := by
  refine codeAny_of_tree ?_
  show wpAny _ _ ((compStart (.DictComp kx vx [⟨t0, i0, ifs0, 0⟩, ⟨t1, i1, ifs1, 0⟩] scope pos) 1 it acc env).onRaise (fun x => do noteFrame x env; standAt theWindowsPlace)) _ _ s
  refine wpAny_notedAt ?_
  unfold compStart
  show wpAny _ _ (ask >>= _) _ _ s
  refine wpAny_bind (wpAny_askSetting (wpAny_ite ?_))
  split
  · first
      | exact wpAny_bind (wpAny_pure (wpAny_pure (And.intro rfl h0)))
      | exact wpAny_pure (And.intro rfl h0)
  · first
      | exact wpAny_bind (wpAny_rule (wpAny_bind (wpAny_standAt (wpAny_bind (wpAny_mono h (fun j s' z => wpAny_pure (And.intro rfl z)) fun _ _ z => z)))))
      | (refine wpAny_bind (wpAny_rule ?_); show wpAny _ _ (standAt i1.pos >>= _) _ _ s; exact wpAny_bind (wpAny_standAt (wpAny_bind (wpAny_mono h (fun j s' z => wpAny_pure (And.intro rfl z)) fun _ _ z => z))))
end
section
variable {X : Cx}
def tDp1 (o0 : HO) (wi : TI) (g : TG) (tt : TT) (tk tv : TE) (vs : List Nat) : TE := fun σ H Q => wi σ H fun J H1 => ∀ D, H1 D = none → ∃ W : Nat → Nat → Hp → Prop, (∃ m, W 0 m (upd H1 D o0)) ∧ ∀ i m H, W i m H →
  (J.stop i H ∧ Q (.ref D) H) ∨ (J.go i H ∧ ∃ Nx : Hp → Prop, (∀ H', Nx H' → ∃ m', m' < m ∧ W (i + 1) m' H') ∧ ∀ x H', J.yld i H x H' → g x (wipe σ vs) H' fun σ2 H2 => wipe σ2 vs = wipe σ vs ∧ tt σ2 H2 fun b H3 =>
    if b = true then tk σ2 H3 fun y H4 => tv σ2 H4 fun z H5 => ∃ H6, DPut H5 D y z H6 ∧ Nx H6 else Nx H3)
theorem dp1_core {pins : List (Addr × Obj)} {s : Shared} {σ : L2.St} {H : Hp} {Q : VK} {use : Option (Value → Sem Unit)} {Qf : Value → Shared → Prop} {pos' : Pos} {kx vx tg iter : Expr} {ifs : List Expr} {scope : Scope} {own : List (Str × Nat)} {pos : Pos} {o0 : HO} {wi : TI} {g : TG} {tt : TT} {tk tv : TE} (hc : X.calm = true) (hu : X.A.units + 1 < cLine) (hN : X.N.Nodup) (I : Inv X pins σ H s) (hi : PI X tg iter wi) (ok : BlkOk X.N X.env.scope scope own)
    (hg : ∀ (s : Shared) (H : Hp) (C : Addr) (cl : List (Str × Addr)) (fp : List Addr), PG (X.blk s H scope (compEnvC scope cl C X.env) fp) tg g) (ht : ∀ (s : Shared) (H : Hp) (C : Addr) (cl : List (Str × Addr)) (fp : List Addr), PTs (X.blk s H scope (compEnvC scope cl C X.env) fp) ifs tt)
    (hk : ∀ (s : Shared) (H : Hp) (C : Addr) (cl : List (Str × Addr)) (fp : List Addr), PE (X.blk s H scope (compEnvC scope cl C X.env) fp) kx tk) (he : ∀ (s : Shared) (H : Hp) (C : Addr) (cl : List (Str × Addr)) (fp : List Addr), PE (X.blk s H scope (compEnvC scope cl C X.env) fp) vx tv)
    (ho : o0 = .dK [] ∨ o0 = .dT []) (hs : ∀ x, foldedSetIterable iter X.env x = pure x)
    (h : tDp1 o0 wi g tt tk tv (own.map (·.2)) σ H Q)
    (hRR : ∀ D C s' m H', Inv X pins σ H' s' → Q (.ref D) H' → s'.heap.Ns C m → FpOk X pins H' C → compPost (model X.prog X.w) X.A X.xe use Qf (.ref D) C (.ok .next) s') :
    wpAny (model X.prog X.w) X.A (comprehension (.DictComp kx vx [⟨tg, iter, ifs, 0⟩] scope pos) scope X.env pos' newDict false (eval iter X.env) use) Qf X.xe s := by
  have hfree : ∀ y ∈ scope.names, y.2 = .free → ∃ c, X.env.cells.lookup y.1 = some c := fun y hy e => I.ok.has _ (ok.free y hy e)
  refine wpAny_comprehension_free (use := use) rfl hs (closure_ok hfree) ok.kind (fun y hy e => by rw [ok.uniq y hy, e]) (thn (hi.run pins s σ H _ I h) fun xv s1 hx => thn hx fun itv s2 h2 => ?_)
  obtain ⟨it, fp, tn, J, H2, e, I2, T, st2, f2, q⟩ := h2
  subst e
  refine wpAny_newObj_type (newEnv_comp ?_)
  generalize hD : s2.heap.objs.size = D
  obtain ⟨W, ⟨m0, w0⟩, turn⟩ := q D (I2.hok.fresh (Nat.le_of_eq hD))
  generalize hs3 : ({ s2 with heap := s2.heap.push { cls := .type "dict", data := .dict #[] } } : Shared) = s3
  have h3 : s3.heap = s2.heap.push { cls := .type "dict", data := .dict #[] } := by rw [← hs3]
  have I3 : Inv X pins σ (upd H2 D o0) s3 := by
    rw [← hs3]
    refine I2.laid (t' := s2.toks) (fun b o e => Heap.get?_push_of_some _ e) (Nat.le_of_eq hD) ?_
    rw [← hD]
    rcases ho with z | z
    · rw [z]; exact dk_empty s2.heap I2.big
    · rw [z]; exact dt_empty s2.heap I2.big
  have f3 : ∀ b ∈ fp, FpOk X pins (upd H2 D o0) b ∧ b < s3.heap.objs.size := fun b hb => by
    obtain ⟨o, e, _⟩ := T.obj _ _ st2 b hb
    have hlt := Heap.lt_size e
    refine ⟨⟨?_, (f2 b hb).2⟩, by rw [h3, Heap.size_push]; exact Nat.lt_succ_of_lt hlt⟩
    rw [upd_ne (by rw [← hD]; exact Nat.ne_of_lt hlt)]
    exact (f2 b hb).1
  have st3 : tn 0 s3.heap := T.keep _ _ _ st2 fun b _ o e => by rw [h3]; exact Heap.get?_push_of_some _ e
  generalize hH3 : upd H2 D o0 = H3 at I3 f3 w0
  have I4 := block_start I3 ok hN f3
  have pg := hg s3 H3 s3.heap.objs.size (cellsFrom (s3.heap.objs.size + 1) scope.names (cloFrom X.env.cells scope.names [])) fp
  have pt := ht s3 H3 s3.heap.objs.size (cellsFrom (s3.heap.objs.size + 1) scope.names (cloFrom X.env.cells scope.names [])) fp
  have pk := hk s3 H3 s3.heap.objs.size (cellsFrom (s3.heap.objs.size + 1) scope.names (cloFrom X.env.cells scope.names [])) fp
  have pe := he s3 H3 s3.heap.objs.size (cellsFrom (s3.heap.objs.size + 1) scope.names (cloFrom X.env.cells scope.names [])) fp
  have nfp : ∀ b ∈ fp, H3 b = none := fun b hb => (f3 b hb).1.1
  show codeAny _ _ (.compStart (.DictComp kx vx [⟨tg, iter, ifs, 0⟩] scope pos) 0 (.ref it) (.ref D) (compEnvC scope (cellsFrom (s3.heap.objs.size + 1) scope.names (cloFrom X.env.cells scope.names [])) s3.heap.objs.size X.env)) _ { s3 with heap := pushCells (s3.heap.push { cls := .type "dict", data := .dict #[] }) scope.names }
  generalize hce : compEnvC scope (cellsFrom (s3.heap.objs.size + 1) scope.names (cloFrom X.env.cells scope.names [])) s3.heap.objs.size X.env = ce at I4 pg pt pk pe ⊢
  have cL : ce.locals = s3.heap.objs.size := by subst hce; rfl
  generalize hs4 : ({ s3 with heap := pushCells (s3.heap.push { cls := .type "dict", data := .dict #[] }) scope.names } : Shared) = s4 at I4 ⊢
  have st4 : tn 0 s4.heap := T.keep _ _ _ st3 fun b _ o e => by rw [← hs4]; exact pushCells_keeps _ _ _ _ (Heap.get?_push_of_some _ e)
  have stat : ∀ {σ' : L2.St} {H' : Hp} {s' : Shared}, Inv (X.blk s3 H3 scope ce fp) [] σ' H' s' → (∀ b ∈ fp, H' b = none) → ∀ b ∈ fp, FpOk (X.blk s3 H3 scope ce fp) [] H' b := fun {σ' H' s'} I' hn b hb =>
    ⟨hn b hb, (I'.ok.exf b hb).1, I'.ok.exfs b hb, .inl hb, fun x c e => (I'.ok.exf b hb).2 x c e, fun p hp => nomatch (show p ∈ ([] : List (Addr × Obj)) from hp)⟩
  have loop : codeAny (model X.prog X.w) X.A (.compLoop (.DictComp kx vx [⟨tg, iter, ifs, 0⟩] scope pos) 0 (.ref it) (.ref D) ce) (compPost (model X.prog X.w) X.A X.xe use Qf (.ref D) s3.heap.objs.size) s4 := by
    refine compLoop_anyD (fun n s' => ∃ i H', Inv (X.blk s3 H3 scope ce fp) [] (wipe σ (own.map (·.2))) H' s' ∧ tn i s'.heap ∧ (∀ b ∈ fp, H' b = none) ∧ W i n H') ?_ m0 ⟨0, H3, I4, st4, nfp, w0⟩
    rintro n s5 ⟨i, H5, I5, st5, n5, w5⟩
    rcases turn i n H5 w5 with ⟨stop, qq⟩ | ⟨go, Nx, hNx, step⟩
    · refine thnF (T.done (X.blk s3 H3 scope ce fp) rfl rfl rfl hc i [] s5 _ H5 (fun _ _ => False) I5 (stat I5 n5) st5 stop) fun r s6 ⟨hr, I6⟩ => ?_
      subst hr
      have I7 : Inv X pins σ H5 s6 := I3.call' (ch := fp) I6.os I6.base I6.hok I6.bare fun b hb => ⟨(f3 b hb).1.2.2.2.1, (f3 b hb).1.2.1, (f3 b hb).1.2.2.2.2.1, (f3 b hb).1.2.2.2.2.2⟩
      have nC : H5 s3.heap.objs.size = none := by
        have z : H5 ce.locals = none := I6.free
        rw [cL] at z
        exact z
      obtain ⟨m, hn, _⟩ := I6.loc
      have hn : s6.heap.Ns ce.locals m := hn
      rw [cL] at hn
      exact hRR D s3.heap.objs.size s6 m H5 I7 qq hn (I3.fpOk (Nat.le_refl _) nC)
    · refine thnF (T.item (X.blk s3 H3 scope ce fp) rfl rfl rfl hc i [] s5 _ H5 (fun _ _ => False) I5 (stat I5 n5) st5 go) fun r s6 ⟨u, hr, h6⟩ => ?_
      subst hr
      refine thnF h6 fun _ s7 ⟨x, H7, I7, r7, y7, st7, n7⟩ => ?_
      have I7' := I7.pinned (stat I7 n7) (T.obj _ _ st7)
      refine thnF (pg.run _ s7 _ H7 x u _ I7' r7 (step x H7 y7)) fun _ s8 ⟨σ8, H8, I8, hw8, q8⟩ => ?_
      refine thnF (pt.run _ s8 σ8 H8 _ I8 q8) fun b s9 ⟨H9, I9, q9⟩ => ?_
      have fin : ∀ {σ9 : L2.St} {s' : Shared} {H' : Hp}, Inv (X.blk s3 H3 scope ce fp) ([] ++ pinsAt fp s7.heap) σ9 H' s' → (wipe σ (own.map (·.2))).length = σ9.length → (∀ (j : Nat) v, (wipe σ (own.map (·.2)))[j]? = some (some v) → σ9[j]? = some (some v)) → Nx H' →
          ∃ m, m < n ∧ ∃ i H', Inv (X.blk s3 H3 scope ce fp) [] (wipe σ (own.map (·.2))) H' s' ∧ tn i s'.heap ∧ (∀ b ∈ fp, H' b = none) ∧ W i m H' := fun {σ9 s' H'} I' hl hk nx => by
        obtain ⟨m', hm, w'⟩ := hNx H' nx
        have pin' : ∀ b ∈ fp, ∀ o, s7.heap.get? b = some o → s'.heap.get? b = some o ∧ H' b = none := fun b hb o e => by
          have z := I'.pin (b, o) (List.mem_append_right _ (List.mem_append_right _ (mem_pinsAt hb e)))
          exact ⟨z.1, z.2.1⟩
        refine ⟨m', hm, i + 1, H', (I'.unpinned (pins := [])).weak hl hk, T.keep _ _ _ st7 fun b hb o e => (pin' b hb o e).1, fun b hb => ?_, w'⟩
        obtain ⟨o, e, _⟩ := T.obj _ _ st7 b hb
        exact (pin' b hb o e).2
      have hl8 : (wipe σ (own.map (·.2))).length = σ8.length := by rw [← hw8, wipe_length]
      have hk8 : ∀ (j : Nat) v, (wipe σ (own.map (·.2)))[j]? = some (some v) → σ8[j]? = some (some v) := fun j v e => by
        rw [← hw8] at e
        exact (wipe_some e).1
      cases b with
      | false =>
        simp only [Bool.false_eq_true, if_false] at q9 ⊢
        exact fin I9 hl8 hk8 q9
      | true =>
        simp only [if_true] at q9 ⊢
        refine thnF (pk.run _ s9 σ8 H9 _ I9 q9) fun z s10 ⟨yk, H10, I10, r10, q10⟩ => ?_
        refine thnF (pe.run _ s10 σ8 H10 _ I10 q10) fun z2 s11 ⟨yv, H11, I11, r11, H12, put, nx⟩ => ?_
        exact d_setP (X := X.blk s3 H3 scope ce fp) hu I11 put r10 r11 fun s12 I12 => fin I12 hl8 hk8 nx
  exact codeAny_compStart_dict loop (T.self X.A 0 _ _ _ st4 loop)
theorem pe_dp1 {kx vx tg iter : Expr} {ifs : List Expr} {scope : Scope} {own : List (Str × Nat)} {pos : Pos} {o0 : HO} {wi : TI} {g : TG} {tt : TT} {tk tv : TE} (hc : X.calm = true) (hu : X.A.units + 1 < cLine) (hN : X.N.Nodup) (hi : PI X tg iter wi) (ok : BlkOk X.N X.env.scope scope own)
    (hg : ∀ (s : Shared) (H : Hp) (C : Addr) (cl : List (Str × Addr)) (fp : List Addr), PG (X.blk s H scope (compEnvC scope cl C X.env) fp) tg g) (ht : ∀ (s : Shared) (H : Hp) (C : Addr) (cl : List (Str × Addr)) (fp : List Addr), PTs (X.blk s H scope (compEnvC scope cl C X.env) fp) ifs tt)
    (hk : ∀ (s : Shared) (H : Hp) (C : Addr) (cl : List (Str × Addr)) (fp : List Addr), PE (X.blk s H scope (compEnvC scope cl C X.env) fp) kx tk) (he : ∀ (s : Shared) (H : Hp) (C : Addr) (cl : List (Str × Addr)) (fp : List Addr), PE (X.blk s H scope (compEnvC scope cl C X.env) fp) vx tv)
    (ho : o0 = .dK [] ∨ o0 = .dT []) (hs : ∀ x, foldedSetIterable iter X.env x = pure x := by intro _; rfl) :
    PE X (.DictComp kx vx [⟨tg, iter, ifs, 0⟩] scope pos) (tDp1 o0 wi g tt tk tv (own.map (·.2))) := by
  refine ⟨fun pins s σ H Q I h => ?_⟩
  rw [arm_eval_DictComp]
  refine dp1_core hc hu hN I hi ok hg ht hk he ho hs h fun D C s' m H' I' q hn f => ⟨m, hn, fun h'' sb => ?_⟩
  obtain ⟨f0, f1, f2, f3, f4, f5⟩ := f
  exact ⟨.ref D, H', I'.turned (t' := s'.toks) (fun b o hb e => (sb.2 b hb).trans e) f0 f1 f3 f4 f5, rfl, q⟩
theorem ps_setDp1 {i : Nat} {y : Str} {py spos : Pos} {kx vx tg iter : Expr} {ifs : List Expr} {scope : Scope} {own : List (Str × Nat)} {pos : Pos} {o0 : HO} {wi : TI} {g : TG} {tt : TT} {tk tv : TE} (hc : X.calm = true) (hu : X.A.units + 1 < cLine) (hN : X.N.Nodup) (hy : X.N[i]? = some y) (hyl : X.env.scope.names.lookup y = some .local)
    (hsw : swapsWith (.DictComp kx vx [⟨tg, iter, ifs, 0⟩] scope pos) (some (.Name y py)) spos.line X.env = pure true) (hi : PI X tg iter wi) (ok : BlkOk X.N X.env.scope scope own)
    (hg : ∀ (s : Shared) (H : Hp) (C : Addr) (cl : List (Str × Addr)) (fp : List Addr), PG (X.blk s H scope (compEnvC scope cl C X.env) fp) tg g) (ht : ∀ (s : Shared) (H : Hp) (C : Addr) (cl : List (Str × Addr)) (fp : List Addr), PTs (X.blk s H scope (compEnvC scope cl C X.env) fp) ifs tt)
    (hk : ∀ (s : Shared) (H : Hp) (C : Addr) (cl : List (Str × Addr)) (fp : List Addr), PE (X.blk s H scope (compEnvC scope cl C X.env) fp) kx tk) (he : ∀ (s : Shared) (H : Hp) (C : Addr) (cl : List (Str × Addr)) (fp : List Addr), PE (X.blk s H scope (compEnvC scope cl C X.env) fp) vx tv)
    (ho : o0 = .dK [] ∨ o0 = .dT []) (hs : ∀ x, foldedSetIterable iter X.env x = pure x := by intro _; rfl) :
    PS X (.Assign [.Name y py] (.DictComp kx vx [⟨tg, iter, ifs, 0⟩] scope pos) spos) (tAsg (tDp1 o0 wi g tt tk tv (own.map (·.2))) (gName i)) := by
  refine ⟨fun pins s σ H D I h => ?_⟩
  rw [exec_Assign_Name_used _ _ _ _ hsw]
  refine wpAny_bind (wpAny_standAt (wpAny_bind ?_))
  show wpAny _ X.A (do let _ ← comprehension (.DictComp kx vx [⟨tg, iter, ifs, 0⟩] scope pos) scope X.env (firstIterPos [⟨tg, iter, ifs, 0⟩] pos) newDict false (eval iter X.env) (some (assign (.Name y py) X.env))) _ _ s
  have h : tDp1 o0 wi g tt tk tv (own.map (·.2)) σ H (fun x H1 => gName i x σ H1 D.nx) := h
  refine wpAny_bind (thn (dp1_core (Qf := fun _ s' => SP X pins D .next s') hc hu hN I hi ok hg ht hk he ho hs h fun L C s' m H' I' q hn f => ?_) fun _ s' hq => wpAny_pure (wpAny_pure hq))
  show wpAny _ _ (assign (.Name y py) X.env (.ref L)) _ _ _
  refine wpAny_assign_Name (store_ok2 (v := V.ref L) I' hN hy (.inl hyl) rfl (fun s2 I2 ⟨a, sb, ha⟩ => ?_) (.inr hyl))
  obtain ⟨f0, f1, f2, f3, f4, f5⟩ := f
  have haC : C ≠ a := by
    rcases ha with z | z
    · rw [z]; exact f1
    · exact fun e => f4 y a z e.symm
  refine ⟨m, hn.sameBut sb haC, fun h3 sb3 => ?_⟩
  exact ⟨_, H', I2.turned (t' := s2.toks) (fun b o hb e => (sb3.2 b hb).trans e) f0 f1 f3 f4 f5, q⟩
def tDp2 (o0 : HO) (wi : TI) (g : TG) (tt : TT) (wi1 : TI) (g1 : TG) (tt1 : TT) (tk tv : TE) (vs vs1 : List Nat) : TE := fun σ H Q => wi σ H fun J H1 => ∀ D, H1 D = none → ∃ W : Nat → Nat → Hp → Prop, (∃ m, W 0 m (upd H1 D o0)) ∧ ∀ i m H, W i m H →
  (J.stop i H ∧ Q (.ref D) H) ∨ (J.go i H ∧ ∃ Nx : Hp → Prop, (∀ H', Nx H' → ∃ m', m' < m ∧ W (i + 1) m' H') ∧ ∀ x H', J.yld i H x H' → g x (wipe σ vs) H' fun σ2 H2 => wipe σ2 vs = wipe σ vs ∧ tt σ2 H2 fun b H3 =>
    if b = true then wi1 σ2 H3 fun J1 H4 => ∃ W1 : Nat → Nat → Hp → Prop, (∃ m, W1 0 m H4) ∧ ∀ j k H, W1 j k H →
      (J1.stop j H ∧ Nx H) ∨ (J1.go j H ∧ ∃ Nx1 : Hp → Prop, (∀ H', Nx1 H' → ∃ k', k' < k ∧ W1 (j + 1) k' H') ∧ ∀ x H', J1.yld j H x H' → g1 x (wipe σ2 vs1) H' fun σ3 H5 => wipe σ3 vs1 = wipe σ2 vs1 ∧ tt1 σ3 H5 fun b H6 =>
        if b = true then tk σ3 H6 fun y H7 => tv σ3 H7 fun z H8 => ∃ H9, DPut H8 D y z H9 ∧ Nx1 H9 else Nx1 H6)
    else Nx H3)
theorem dp2_core {pins : List (Addr × Obj)} {s : Shared} {σ : L2.St} {H : Hp} {Q : VK} {use : Option (Value → Sem Unit)} {Qf : Value → Shared → Prop} {pos' : Pos} {kx vx tg iter tg1 iter1 : Expr} {ifs ifs1 : List Expr} {scope : Scope} {own : List (Str × Nat)} {vs1 : List Nat} {pos : Pos} {o0 : HO} {wi wi1 : TI} {g g1 : TG} {tt tt1 : TT} {tk tv : TE} (hc : X.calm = true) (hu : X.A.units + 1 < cLine) (hN : X.N.Nodup) (I : Inv X pins σ H s) (hi : PI X tg iter wi) (ok : BlkOk X.N X.env.scope scope own) (hv : ∀ i ∈ vs1, i ∈ own.map (·.2))
    (hg : ∀ (s : Shared) (H : Hp) (C : Addr) (cl : List (Str × Addr)) (fp : List Addr), PG (X.blk s H scope (compEnvC scope cl C X.env) fp) tg g) (ht : ∀ (s : Shared) (H : Hp) (C : Addr) (cl : List (Str × Addr)) (fp : List Addr), PTs (X.blk s H scope (compEnvC scope cl C X.env) fp) ifs tt)
    (hi1 : ∀ (s : Shared) (H : Hp) (C : Addr) (cl : List (Str × Addr)) (fp : List Addr), PI (X.blk s H scope (compEnvC scope cl C X.env) fp) tg1 iter1 wi1) (hg1 : ∀ (s : Shared) (H : Hp) (C : Addr) (cl : List (Str × Addr)) (fp : List Addr), PG (X.blk s H scope (compEnvC scope cl C X.env) fp) tg1 g1) (ht1 : ∀ (s : Shared) (H : Hp) (C : Addr) (cl : List (Str × Addr)) (fp : List Addr), PTs (X.blk s H scope (compEnvC scope cl C X.env) fp) ifs1 tt1)
    (hk : ∀ (s : Shared) (H : Hp) (C : Addr) (cl : List (Str × Addr)) (fp : List Addr), PE (X.blk s H scope (compEnvC scope cl C X.env) fp) kx tk) (he : ∀ (s : Shared) (H : Hp) (C : Addr) (cl : List (Str × Addr)) (fp : List Addr), PE (X.blk s H scope (compEnvC scope cl C X.env) fp) vx tv)
    (ho : o0 = .dK [] ∨ o0 = .dT []) (hs : ∀ x, foldedSetIterable iter X.env x = pure x) (hs1 : ∀ env x, foldedSetIterable iter1 env x = pure x)
    (h : tDp2 o0 wi g tt wi1 g1 tt1 tk tv (own.map (·.2)) vs1 σ H Q)
    (hRR : ∀ D C s' m H', Inv X pins σ H' s' → Q (.ref D) H' → s'.heap.Ns C m → FpOk X pins H' C → compPost (model X.prog X.w) X.A X.xe use Qf (.ref D) C (.ok .next) s') :
    wpAny (model X.prog X.w) X.A (comprehension (.DictComp kx vx [⟨tg, iter, ifs, 0⟩, ⟨tg1, iter1, ifs1, 0⟩] scope pos) scope X.env pos' newDict false (eval iter X.env) use) Qf X.xe s := by
  have hfree : ∀ y ∈ scope.names, y.2 = .free → ∃ c, X.env.cells.lookup y.1 = some c := fun y hy e => I.ok.has _ (ok.free y hy e)
  refine wpAny_comprehension_free (use := use) rfl hs (closure_ok hfree) ok.kind (fun y hy e => by rw [ok.uniq y hy, e]) (thn (hi.run pins s σ H _ I h) fun xv s1 hx => thn hx fun itv s2 h2 => ?_)
  obtain ⟨it, fp, tn, J, H2, e, I2, T, st2, f2, q⟩ := h2
  subst e
  refine wpAny_newObj_type (newEnv_comp ?_)
  generalize hD : s2.heap.objs.size = D
  obtain ⟨W, ⟨m0, w0⟩, turn⟩ := q D (I2.hok.fresh (Nat.le_of_eq hD))
  generalize hs3 : ({ s2 with heap := s2.heap.push { cls := .type "dict", data := .dict #[] } } : Shared) = s3
  have h3 : s3.heap = s2.heap.push { cls := .type "dict", data := .dict #[] } := by rw [← hs3]
  have I3 : Inv X pins σ (upd H2 D o0) s3 := by
    rw [← hs3]
    refine I2.laid (t' := s2.toks) (fun b o e => Heap.get?_push_of_some _ e) (Nat.le_of_eq hD) ?_
    rw [← hD]
    rcases ho with z | z
    · rw [z]; exact dk_empty s2.heap I2.big
    · rw [z]; exact dt_empty s2.heap I2.big
  have f3 : ∀ b ∈ fp, FpOk X pins (upd H2 D o0) b ∧ b < s3.heap.objs.size := fun b hb => by
    obtain ⟨o, e, _⟩ := T.obj _ _ st2 b hb
    have hlt := Heap.lt_size e
    refine ⟨⟨?_, (f2 b hb).2⟩, by rw [h3, Heap.size_push]; exact Nat.lt_succ_of_lt hlt⟩
    rw [upd_ne (by rw [← hD]; exact Nat.ne_of_lt hlt)]
    exact (f2 b hb).1
  have st3 : tn 0 s3.heap := T.keep _ _ _ st2 fun b _ o e => by rw [h3]; exact Heap.get?_push_of_some _ e
  generalize hH3 : upd H2 D o0 = H3 at I3 f3 w0
  have I4 := block_start I3 ok hN f3
  have pg := hg s3 H3 s3.heap.objs.size (cellsFrom (s3.heap.objs.size + 1) scope.names (cloFrom X.env.cells scope.names [])) fp
  have pt := ht s3 H3 s3.heap.objs.size (cellsFrom (s3.heap.objs.size + 1) scope.names (cloFrom X.env.cells scope.names [])) fp
  have pi1 := hi1 s3 H3 s3.heap.objs.size (cellsFrom (s3.heap.objs.size + 1) scope.names (cloFrom X.env.cells scope.names [])) fp
  have pg1 := hg1 s3 H3 s3.heap.objs.size (cellsFrom (s3.heap.objs.size + 1) scope.names (cloFrom X.env.cells scope.names [])) fp
  have pt1 := ht1 s3 H3 s3.heap.objs.size (cellsFrom (s3.heap.objs.size + 1) scope.names (cloFrom X.env.cells scope.names [])) fp
  have pk := hk s3 H3 s3.heap.objs.size (cellsFrom (s3.heap.objs.size + 1) scope.names (cloFrom X.env.cells scope.names [])) fp
  have pe := he s3 H3 s3.heap.objs.size (cellsFrom (s3.heap.objs.size + 1) scope.names (cloFrom X.env.cells scope.names [])) fp
  have nfp : ∀ b ∈ fp, H3 b = none := fun b hb => (f3 b hb).1.1
  show codeAny _ _ (.compStart (.DictComp kx vx [⟨tg, iter, ifs, 0⟩, ⟨tg1, iter1, ifs1, 0⟩] scope pos) 0 (.ref it) (.ref D) (compEnvC scope (cellsFrom (s3.heap.objs.size + 1) scope.names (cloFrom X.env.cells scope.names [])) s3.heap.objs.size X.env)) _ { s3 with heap := pushCells (s3.heap.push { cls := .type "dict", data := .dict #[] }) scope.names }
  generalize hce : compEnvC scope (cellsFrom (s3.heap.objs.size + 1) scope.names (cloFrom X.env.cells scope.names [])) s3.heap.objs.size X.env = ce at I4 pg pt pi1 pg1 pt1 pk pe ⊢
  have cL : ce.locals = s3.heap.objs.size := by subst hce; rfl
  generalize hs4 : ({ s3 with heap := pushCells (s3.heap.push { cls := .type "dict", data := .dict #[] }) scope.names } : Shared) = s4 at I4 ⊢
  have st4 : tn 0 s4.heap := T.keep _ _ _ st3 fun b _ o e => by rw [← hs4]; exact pushCells_keeps _ _ _ _ (Heap.get?_push_of_some _ e)
  have stat : ∀ {σ' : L2.St} {H' : Hp} {s' : Shared}, Inv (X.blk s3 H3 scope ce fp) [] σ' H' s' → (∀ b ∈ fp, H' b = none) → ∀ b ∈ fp, FpOk (X.blk s3 H3 scope ce fp) [] H' b := fun {σ' H' s'} I' hn b hb =>
    ⟨hn b hb, (I'.ok.exf b hb).1, I'.ok.exfs b hb, .inl hb, fun x c e => (I'.ok.exf b hb).2 x c e, fun p hp => nomatch (show p ∈ ([] : List (Addr × Obj)) from hp)⟩
  have loop : codeAny (model X.prog X.w) X.A (.compLoop (.DictComp kx vx [⟨tg, iter, ifs, 0⟩, ⟨tg1, iter1, ifs1, 0⟩] scope pos) 0 (.ref it) (.ref D) ce) (compPost (model X.prog X.w) X.A X.xe use Qf (.ref D) s3.heap.objs.size) s4 := by
    refine loop2_out (hs1 ce) (fun n s' => ∃ i H', Inv (X.blk s3 H3 scope ce fp) [] (wipe σ (own.map (·.2))) H' s' ∧ tn i s'.heap ∧ (∀ b ∈ fp, H' b = none) ∧ W i n H') ?_ m0 ⟨0, H3, I4, st4, nfp, w0⟩
    rintro n s5 ⟨i, H5, I5, st5, n5, w5⟩
    rcases turn i n H5 w5 with ⟨stop, qq⟩ | ⟨go, Nx, hNx, step⟩
    · refine thnF (T.done (X.blk s3 H3 scope ce fp) rfl rfl rfl hc i [] s5 _ H5 (fun _ _ => False) I5 (stat I5 n5) st5 stop) fun r s6 ⟨hr, I6⟩ => ?_
      subst hr
      have I7 : Inv X pins σ H5 s6 := I3.call' (ch := fp) I6.os I6.base I6.hok I6.bare fun b hb => ⟨(f3 b hb).1.2.2.2.1, (f3 b hb).1.2.1, (f3 b hb).1.2.2.2.2.1, (f3 b hb).1.2.2.2.2.2⟩
      have nC : H5 s3.heap.objs.size = none := by
        have z : H5 ce.locals = none := I6.free
        rw [cL] at z
        exact z
      obtain ⟨m, hn, _⟩ := I6.loc
      have hn : s6.heap.Ns ce.locals m := hn
      rw [cL] at hn
      exact hRR D s3.heap.objs.size s6 m H5 I7 qq hn (I3.fpOk (Nat.le_refl _) nC)
    · refine thnF (T.item (X.blk s3 H3 scope ce fp) rfl rfl rfl hc i [] s5 _ H5 (fun _ _ => False) I5 (stat I5 n5) st5 go) fun r s6 ⟨u, hr, h6⟩ => ?_
      subst hr
      refine thnF h6 fun _ s7 ⟨x, H7, I7, r7, y7, st7, n7⟩ => ?_
      have I7' := I7.pinned (stat I7 n7) (T.obj _ _ st7)
      refine thnF (pg.run _ s7 _ H7 x u _ I7' r7 (step x H7 y7)) fun _ s8 ⟨σ8, H8, I8, hw8, q8⟩ => ?_
      refine thnF (pt.run _ s8 σ8 H8 _ I8 q8) fun b s9 ⟨H9, I9, q9⟩ => ?_
      have fin : ∀ {σ9 : L2.St} {s' : Shared} {H' : Hp}, Inv (X.blk s3 H3 scope ce fp) ([] ++ pinsAt fp s7.heap) σ9 H' s' → (wipe σ (own.map (·.2))).length = σ9.length → (∀ (j : Nat) v, (wipe σ (own.map (·.2)))[j]? = some (some v) → σ9[j]? = some (some v)) → Nx H' →
          ∃ m, m < n ∧ ∃ i H', Inv (X.blk s3 H3 scope ce fp) [] (wipe σ (own.map (·.2))) H' s' ∧ tn i s'.heap ∧ (∀ b ∈ fp, H' b = none) ∧ W i m H' := fun {σ9 s' H'} I' hl hk nx => by
        obtain ⟨m', hm, w'⟩ := hNx H' nx
        have pin' : ∀ b ∈ fp, ∀ o, s7.heap.get? b = some o → s'.heap.get? b = some o ∧ H' b = none := fun b hb o e => by
          have z := I'.pin (b, o) (List.mem_append_right _ (List.mem_append_right _ (mem_pinsAt hb e)))
          exact ⟨z.1, z.2.1⟩
        refine ⟨m', hm, i + 1, H', (I'.unpinned (pins := [])).weak hl hk, T.keep _ _ _ st7 fun b hb o e => (pin' b hb o e).1, fun b hb => ?_, w'⟩
        obtain ⟨o, e, _⟩ := T.obj _ _ st7 b hb
        exact (pin' b hb o e).2
      have hl8 : (wipe σ (own.map (·.2))).length = σ8.length := by rw [← hw8, wipe_length]
      have hk8 : ∀ (j : Nat) v, (wipe σ (own.map (·.2)))[j]? = some (some v) → σ8[j]? = some (some v) := fun j v e => by
        rw [← hw8] at e
        exact (wipe_some e).1
      have hk9 : ∀ (j : Nat) v, (wipe σ (own.map (·.2)))[j]? = some (some v) → (wipe σ8 vs1)[j]? = some (some v) := fun j v e => by
        rw [← hw8] at e
        obtain ⟨e1, e2⟩ := wipe_some e
        rw [wipe_out fun z => e2 (hv j z)]
        exact e1
      cases b with
      | false =>
        simp only [Bool.false_eq_true, if_false] at q9 ⊢
        exact fin I9 hl8 hk8 q9
      | true =>
        simp only [if_true] at q9 ⊢
        refine thnF (pi1.run _ s9 σ8 H9 _ I9 q9) fun xv s10 hx => thnF hx fun itv s11 h11 => ?_
        obtain ⟨it1, fp1, tn1, J1, H11, e1, I11, T1, st11, f11, W1, ⟨m1, w1⟩, turn1⟩ := h11
        subst e1
        have stat1 : ∀ {H' : Hp}, (∀ b ∈ fp1, H' b = none) → ∀ b ∈ fp1, FpOk (X.blk s3 H3 scope ce fp) ([] ++ pinsAt fp s7.heap) H' b := fun hn b hb => ⟨hn b hb, (f11 b hb).2⟩
        have loop1 : codeAny (model X.prog X.w) X.A (.compLoop (.DictComp kx vx [⟨tg, iter, ifs, 0⟩, ⟨tg1, iter1, ifs1, 0⟩] scope pos) 1 (.ref it1) (.ref D) ce)
            (fun r s' => match r with
              | .ok _ => ∃ m, m < n ∧ ∃ i H', Inv (X.blk s3 H3 scope ce fp) [] (wipe σ (own.map (·.2))) H' s' ∧ tn i s'.heap ∧ (∀ b ∈ fp, H' b = none) ∧ W i m H'
              | .error _ => False) s11 := by
          refine loop2_in (fun k s' => ∃ j H', Inv (X.blk s3 H3 scope ce fp) ([] ++ pinsAt fp s7.heap) (wipe σ8 vs1) H' s' ∧ tn1 j s'.heap ∧ (∀ b ∈ fp1, H' b = none) ∧ W1 j k H') ?_ m1 ⟨0, H11, I11.weak (wipe_length _ _) (fun j v e => (wipe_some e).1), st11, fun b hb => (f11 b hb).1, w1⟩
          rintro k s12 ⟨j, H12, I12, st12, n12, w12⟩
          rcases turn1 j k H12 w12 with ⟨stop1, nx1⟩ | ⟨go1, Nx1, hNx1, step1⟩
          · refine thnF (T1.done (X.blk s3 H3 scope ce fp) rfl rfl rfl hc j _ s12 (wipe σ8 vs1) H12 (fun _ _ => False) I12 (stat1 n12) st12 stop1) fun r s13 ⟨hr, I13⟩ => ?_
            subst hr
            exact fin I13 (hl8.trans (wipe_length σ8 vs1).symm) hk9 nx1
          · refine thnF (T1.item (X.blk s3 H3 scope ce fp) rfl rfl rfl hc j _ s12 (wipe σ8 vs1) H12 (fun _ _ => False) I12 (stat1 n12) st12 go1) fun r s13 ⟨u1, hr, h13⟩ => ?_
            subst hr
            refine thnF h13 fun _ s14 ⟨x1, H14, I14, r14, y14, st14, n14⟩ => ?_
            have I14' := I14.pinned (stat1 n14) (T1.obj _ _ st14)
            refine thnF (pg1.run _ s14 (wipe σ8 vs1) H14 x1 u1 _ I14' r14 (step1 x1 H14 y14)) fun _ s15 ⟨σ15, H15, I15, hw15, q15⟩ => ?_
            refine thnF (pt1.run _ s15 σ15 H15 _ I15 q15) fun b1 s16 ⟨H16, I16, q16⟩ => ?_
            have fin1 : ∀ {s' : Shared} {H' : Hp}, Inv (X.blk s3 H3 scope ce fp) (([] ++ pinsAt fp s7.heap) ++ pinsAt fp1 s14.heap) σ15 H' s' → Nx1 H' →
                ∃ m, m < k ∧ ∃ j H', Inv (X.blk s3 H3 scope ce fp) ([] ++ pinsAt fp s7.heap) (wipe σ8 vs1) H' s' ∧ tn1 j s'.heap ∧ (∀ b ∈ fp1, H' b = none) ∧ W1 j m H' := fun {s' H'} I' nx => by
              obtain ⟨m', hm, w'⟩ := hNx1 H' nx
              have pin' : ∀ b ∈ fp1, ∀ o, s14.heap.get? b = some o → s'.heap.get? b = some o ∧ H' b = none := fun b hb o e => by
                have z := I'.pin (b, o) (List.mem_append_right _ (List.mem_append_right _ (mem_pinsAt hb e)))
                exact ⟨z.1, z.2.1⟩
              refine ⟨m', hm, j + 1, H', I'.unpinned.weak (by rw [← hw15, wipe_length]) (fun j v e => by rw [← hw15] at e; exact (wipe_some e).1), T1.keep _ _ _ st14 fun b hb o e => (pin' b hb o e).1, fun b hb => ?_, w'⟩
              obtain ⟨o, e, _⟩ := T1.obj _ _ st14 b hb
              exact (pin' b hb o e).2
            cases b1 with
            | false =>
              simp only [Bool.false_eq_true, if_false] at q16 ⊢
              exact fin1 I16 q16
            | true =>
              simp only [if_true] at q16 ⊢
              refine thnF (pk.run _ s16 σ15 H16 _ I16 q16) fun z s17 ⟨yk, H17, I17, r17, q17⟩ => ?_
              refine thnF (pe.run _ s17 σ15 H17 _ I17 q17) fun z2 s18 ⟨yv, H18, I18, r18, H19, put, nx⟩ => ?_
              exact d_setP (X := X.blk s3 H3 scope ce fp) hu I18 put r17 r18 fun s19 I19 => fin1 I19 nx
        exact start2 loop1 (T1.self X.A 0 _ _ _ st11 loop1)
  exact codeAny_compStart_dict loop (T.self X.A 0 _ _ _ st4 loop)
theorem pe_dp2 {kx vx tg iter tg1 iter1 : Expr} {ifs ifs1 : List Expr} {scope : Scope} {own : List (Str × Nat)} {vs1 : List Nat} {pos : Pos} {o0 : HO} {wi wi1 : TI} {g g1 : TG} {tt tt1 : TT} {tk tv : TE} (hc : X.calm = true) (hu : X.A.units + 1 < cLine) (hN : X.N.Nodup) (hi : PI X tg iter wi) (ok : BlkOk X.N X.env.scope scope own) (hv : ∀ i ∈ vs1, i ∈ own.map (·.2))
    (hg : ∀ (s : Shared) (H : Hp) (C : Addr) (cl : List (Str × Addr)) (fp : List Addr), PG (X.blk s H scope (compEnvC scope cl C X.env) fp) tg g) (ht : ∀ (s : Shared) (H : Hp) (C : Addr) (cl : List (Str × Addr)) (fp : List Addr), PTs (X.blk s H scope (compEnvC scope cl C X.env) fp) ifs tt)
    (hi1 : ∀ (s : Shared) (H : Hp) (C : Addr) (cl : List (Str × Addr)) (fp : List Addr), PI (X.blk s H scope (compEnvC scope cl C X.env) fp) tg1 iter1 wi1) (hg1 : ∀ (s : Shared) (H : Hp) (C : Addr) (cl : List (Str × Addr)) (fp : List Addr), PG (X.blk s H scope (compEnvC scope cl C X.env) fp) tg1 g1) (ht1 : ∀ (s : Shared) (H : Hp) (C : Addr) (cl : List (Str × Addr)) (fp : List Addr), PTs (X.blk s H scope (compEnvC scope cl C X.env) fp) ifs1 tt1)
    (hk : ∀ (s : Shared) (H : Hp) (C : Addr) (cl : List (Str × Addr)) (fp : List Addr), PE (X.blk s H scope (compEnvC scope cl C X.env) fp) kx tk) (he : ∀ (s : Shared) (H : Hp) (C : Addr) (cl : List (Str × Addr)) (fp : List Addr), PE (X.blk s H scope (compEnvC scope cl C X.env) fp) vx tv)
    (ho : o0 = .dK [] ∨ o0 = .dT []) (hs : ∀ x, foldedSetIterable iter X.env x = pure x := by intro _; rfl) (hs1 : ∀ env x, foldedSetIterable iter1 env x = pure x := by intro _ _; rfl) :
    PE X (.DictComp kx vx [⟨tg, iter, ifs, 0⟩, ⟨tg1, iter1, ifs1, 0⟩] scope pos) (tDp2 o0 wi g tt wi1 g1 tt1 tk tv (own.map (·.2)) vs1) := by
  refine ⟨fun pins s σ H Q I h => ?_⟩
  rw [arm_eval_DictComp]
  refine dp2_core hc hu hN I hi ok hv hg ht hi1 hg1 ht1 hk he ho hs hs1 h fun D C s' m H' I' q hn f => ⟨m, hn, fun h'' sb => ?_⟩
  obtain ⟨f0, f1, f2, f3, f4, f5⟩ := f
  exact ⟨.ref D, H', I'.turned (t' := s'.toks) (fun b o hb e => (sb.2 b hb).trans e) f0 f1 f3 f4 f5, rfl, q⟩
theorem ps_setDp2 {i : Nat} {y : Str} {py spos : Pos} {kx vx tg iter tg1 iter1 : Expr} {ifs ifs1 : List Expr} {scope : Scope} {own : List (Str × Nat)} {vs1 : List Nat} {pos : Pos} {o0 : HO} {wi wi1 : TI} {g g1 : TG} {tt tt1 : TT} {tk tv : TE} (hc : X.calm = true) (hu : X.A.units + 1 < cLine) (hN : X.N.Nodup) (hy : X.N[i]? = some y) (hyl : X.env.scope.names.lookup y = some .local)
    (hsw : swapsWith (.DictComp kx vx [⟨tg, iter, ifs, 0⟩, ⟨tg1, iter1, ifs1, 0⟩] scope pos) (some (.Name y py)) spos.line X.env = pure true) (hi : PI X tg iter wi) (ok : BlkOk X.N X.env.scope scope own) (hv : ∀ i ∈ vs1, i ∈ own.map (·.2))
    (hg : ∀ (s : Shared) (H : Hp) (C : Addr) (cl : List (Str × Addr)) (fp : List Addr), PG (X.blk s H scope (compEnvC scope cl C X.env) fp) tg g) (ht : ∀ (s : Shared) (H : Hp) (C : Addr) (cl : List (Str × Addr)) (fp : List Addr), PTs (X.blk s H scope (compEnvC scope cl C X.env) fp) ifs tt)
    (hi1 : ∀ (s : Shared) (H : Hp) (C : Addr) (cl : List (Str × Addr)) (fp : List Addr), PI (X.blk s H scope (compEnvC scope cl C X.env) fp) tg1 iter1 wi1) (hg1 : ∀ (s : Shared) (H : Hp) (C : Addr) (cl : List (Str × Addr)) (fp : List Addr), PG (X.blk s H scope (compEnvC scope cl C X.env) fp) tg1 g1) (ht1 : ∀ (s : Shared) (H : Hp) (C : Addr) (cl : List (Str × Addr)) (fp : List Addr), PTs (X.blk s H scope (compEnvC scope cl C X.env) fp) ifs1 tt1)
    (hk : ∀ (s : Shared) (H : Hp) (C : Addr) (cl : List (Str × Addr)) (fp : List Addr), PE (X.blk s H scope (compEnvC scope cl C X.env) fp) kx tk) (he : ∀ (s : Shared) (H : Hp) (C : Addr) (cl : List (Str × Addr)) (fp : List Addr), PE (X.blk s H scope (compEnvC scope cl C X.env) fp) vx tv)
    (ho : o0 = .dK [] ∨ o0 = .dT []) (hs : ∀ x, foldedSetIterable iter X.env x = pure x := by intro _; rfl) (hs1 : ∀ env x, foldedSetIterable iter1 env x = pure x := by intro _ _; rfl) :
    PS X (.Assign [.Name y py] (.DictComp kx vx [⟨tg, iter, ifs, 0⟩, ⟨tg1, iter1, ifs1, 0⟩] scope pos) spos) (tAsg (tDp2 o0 wi g tt wi1 g1 tt1 tk tv (own.map (·.2)) vs1) (gName i)) := by
  refine ⟨fun pins s σ H D I h => ?_⟩
  rw [exec_Assign_Name_used _ _ _ _ hsw]
  refine wpAny_bind (wpAny_standAt (wpAny_bind ?_))
  show wpAny _ X.A (do let _ ← comprehension (.DictComp kx vx [⟨tg, iter, ifs, 0⟩, ⟨tg1, iter1, ifs1, 0⟩] scope pos) scope X.env (firstIterPos [⟨tg, iter, ifs, 0⟩, ⟨tg1, iter1, ifs1, 0⟩] pos) newDict false (eval iter X.env) (some (assign (.Name y py) X.env))) _ _ s
  have h : tDp2 o0 wi g tt wi1 g1 tt1 tk tv (own.map (·.2)) vs1 σ H (fun x H1 => gName i x σ H1 D.nx) := h
  refine wpAny_bind (thn (dp2_core (Qf := fun _ s' => SP X pins D .next s') hc hu hN I hi ok hv hg ht hi1 hg1 ht1 hk he ho hs hs1 h fun L C s' m H' I' q hn f => ?_) fun _ s' hq => wpAny_pure (wpAny_pure hq))
  show wpAny _ _ (assign (.Name y py) X.env (.ref L)) _ _ _
  refine wpAny_assign_Name (store_ok2 (v := V.ref L) I' hN hy (.inl hyl) rfl (fun s2 I2 ⟨a, sb, ha⟩ => ?_) (.inr hyl))
  obtain ⟨f0, f1, f2, f3, f4, f5⟩ := f
  have haC : C ≠ a := by
    rcases ha with z | z
    · rw [z]; exact f1
    · exact fun e => f4 y a z e.symm
  refine ⟨m, hn.sameBut sb haC, fun h3 sb3 => ?_⟩
  exact ⟨_, H', I2.turned (t' := s2.toks) (fun b o hb e => (sb3.2 b hb).trans e) f0 f1 f3 f4 f5, q⟩
theorem swD_true {kx vx : Expr} {gs : List Comprehension} {scope : Scope} {pos py : Pos} {y : Str} {l : Nat} {env : Env} (hk : env.scope.kind = .function) (hy : env.scope.names.lookup y = some .local) (hl : (py.line == pos.line) = true)
    (ha : (scope.names.any fun (n, k) => n == y && (k == .local || k == .cell)) = false) : swapsWith (.DictComp kx vx gs scope pos) (some (.Name y py)) l env = pure true := by
  have ky : env.kindOf y = some .local := hy
  have hb : env.blockKind = .function := by unfold Env.blockKind; rw [hk]; rfl
  unfold swapsWith
  simp only [hb, ky, ha, Expr.pos, hl]
  rfl
end
end MN
/-! Prices.even(('a',)) -/
namespace MN
open PySem PySem.Spec PyProof.Rows L2
section
variable {j : Nat} {tt : TT} {te : TE} {vs : List Nat} {σ : L2.St} {H1 : Hp} {D d : Addr} {o : Obj} {Qd : Hp → Prop}
theorem lc_keys {kvs : List (Key × V)} (hs : H1 d = some (.frz o (.dK kvs))) (hD : H1 D = none) (hz : kvs.length ≤ 1000000) (f : V → Bool) (v : V → V) (hw : ∀ x ∈ kvs.map (fun kv => kV kv.1), wipe ((wipe σ vs).set j (some x)) vs = wipe σ vs)
    (ht : ∀ x ∈ kvs.map (fun kv => kV kv.1), ∀ (acc : List V) (Q : Bool → Hp → Prop), Q (f x) (upd H1 D (.lst acc)) → tt ((wipe σ vs).set j (some x)) (upd H1 D (.lst acc)) Q)
    (he : ∀ x ∈ kvs.map (fun kv => kV kv.1), f x = true → ∀ (acc : List V) (Q : VK), Q (v x) (upd H1 D (.lst acc)) → te ((wipe σ vs).set j (some x)) (upd H1 D (.lst acc)) Q)
    (hd : Qd (upd H1 D (.lst (((kvs.map fun kv => kV kv.1).filter f).map v)))) : LcGoal (Itk d o kvs) (gName j) tt te vs σ H1 D Qd := by
  refine lc_pure walk_keys (kvs.map fun kv => kV kv.1) (by simp) hz (fun i H x H' hi y => ?_) f v (fun _ => by rw [upd_ne (ne_of_none hs hD)]; exact hs) hw ht he hd
  obtain ⟨e, k, v', h1, rfl⟩ := y
  exact ⟨e, by simp [h1]⟩
theorem dc_it {J : It} {n : Nat} {G : Hp → Prop} {Y : Nat → Hp → V → Hp → Prop} (w : Walk J n G Y) {g : TG} {tk tv : TE} (Pv : Nat → Hp → Prop) (h0 : Pv 0 (upd H1 D (.dK []))) (hG : ∀ i H, i ≤ n → Pv i H → G H)
    (hs : ∀ i x H H', i < n → Pv i H → Y i H x H' → g x (wipe σ vs) H' fun σ2 H2 => wipe σ2 vs = wipe σ vs ∧ tt σ2 H2 fun b H3 =>
      if b = true then tk σ2 H3 fun y H4 => tv σ2 H4 fun z H5 => ∃ kvs k, y = kV k ∧ H5 D = some (.dK kvs) ∧ kvs.length < sizeLine ∧ Pv (i + 1) (upd H5 D (.dK (putK kvs k z))) else Pv (i + 1) H3) (hd : ∀ H, Pv n H → Qd H) :
    ∃ W : Nat → Nat → Hp → Prop, (∃ m, W 0 m (upd H1 D (.dK []))) ∧ ∀ i m H, W i m H →
      (J.stop i H ∧ Qd H) ∨ (J.go i H ∧ ∃ Nx : Hp → Prop, (∀ H', Nx H' → ∃ m', m' < m ∧ W (i + 1) m' H') ∧ ∀ x H', J.yld i H x H' → g x (wipe σ vs) H' fun σ2 H2 => wipe σ2 vs = wipe σ vs ∧ tt σ2 H2 fun b H3 =>
        if b = true then tk σ2 H3 fun y H4 => tv σ2 H4 fun z H5 => ∃ kvs k, y = kV k ∧ H5 D = some (.dK kvs) ∧ kvs.length < sizeLine ∧ Nx (upd H5 D (.dK (putK kvs k z))) else Nx H3) := by
  refine ⟨fun i m H => m = n - i ∧ i ≤ n ∧ Pv i H, ⟨n, by simp, Nat.zero_le _, h0⟩, ?_⟩
  rintro i m H ⟨rfl, hi, p⟩
  have q := hG i H hi p
  by_cases hlt : i < n
  · exact .inr ⟨w.goes i H hlt q, Pv (i + 1), fun H' p' => ⟨n - (i + 1), by omega, rfl, hlt, p'⟩, fun x H' y => hs i x H H' hlt p (w.yields i H x H' hlt q y)⟩
  · obtain rfl : i = n := by omega
    exact .inl ⟨w.stops H q, hd H p⟩
theorem dp_it {J : It} {n : Nat} {G : Hp → Prop} {Y : Nat → Hp → V → Hp → Prop} {o0 : HO} (w : Walk J n G Y) {g : TG} {tk tv : TE} (Pv : Nat → Hp → Prop) (h0 : Pv 0 (upd H1 D o0)) (hG : ∀ i H, i ≤ n → Pv i H → G H)
    (hs : ∀ i x H H', i < n → Pv i H → Y i H x H' → g x (wipe σ vs) H' fun σ2 H2 => wipe σ2 vs = wipe σ vs ∧ tt σ2 H2 fun b H3 =>
      if b = true then tk σ2 H3 fun y H4 => tv σ2 H4 fun z H5 => ∃ H6, DPut H5 D y z H6 ∧ Pv (i + 1) H6 else Pv (i + 1) H3) (hd : ∀ H, Pv n H → Qd H) :
    ∃ W : Nat → Nat → Hp → Prop, (∃ m, W 0 m (upd H1 D o0)) ∧ ∀ i m H, W i m H →
      (J.stop i H ∧ Qd H) ∨ (J.go i H ∧ ∃ Nx : Hp → Prop, (∀ H', Nx H' → ∃ m', m' < m ∧ W (i + 1) m' H') ∧ ∀ x H', J.yld i H x H' → g x (wipe σ vs) H' fun σ2 H2 => wipe σ2 vs = wipe σ vs ∧ tt σ2 H2 fun b H3 =>
        if b = true then tk σ2 H3 fun y H4 => tv σ2 H4 fun z H5 => ∃ H6, DPut H5 D y z H6 ∧ Nx H6 else Nx H3) := by
  refine ⟨fun i m H => m = n - i ∧ i ≤ n ∧ Pv i H, ⟨n, by simp, Nat.zero_le _, h0⟩, ?_⟩
  rintro i m H ⟨rfl, hi, p⟩
  have q := hG i H hi p
  by_cases hlt : i < n
  · exact .inr ⟨w.goes i H hlt q, Pv (i + 1), fun H' p' => ⟨n - (i + 1), by omega, rfl, hlt, p'⟩, fun x H' y => hs i x H H' hlt p (w.yields i H x H' hlt q y)⟩
  · obtain rfl : i = n := by omega
    exact .inl ⟨w.stops H q, hd H p⟩
end
/-- nothing to walk over -/
theorem lc_none {J : It} {g : TG} {tt : TT} {te : TE} {vs : List Nat} {σ : L2.St} {H1 : Hp} {D : Addr} {Qd : Hp → Prop} (h : J.stop 0 (upd H1 D (.lst []))) (q : Qd (upd H1 D (.lst []))) : LcGoal J g tt te vs σ H1 D Qd :=
  ⟨fun i _ H => i = 0 ∧ H = upd H1 D (.lst []), ⟨0, rfl, rfl⟩, fun _ _ _ e => by
    obtain ⟨rfl, rfl⟩ := e
    exact .inl ⟨h, q⟩⟩
/-- locked, a list laid, unlocked -/
theorem same_lock {H : Hp} {a D : Addr} {u : HO} {o : Obj} {x : HO} (h : H a = some u) (hD : (upd H a (.frz o u)) D = none) : Same H (upd (upd (upd H a (.frz o u)) D x) a u) ∧ (upd (upd (upd H a (.frz o u)) D x) a u) D = some x ∧ D ≠ a := by
  have n : D ≠ a := fun z => by rw [z, upd_same] at hD; cases hD
  refine ⟨fun b y e => ?_, by rw [upd_ne n, upd_same], n⟩
  by_cases z : b = a
  · rw [z, upd_same]; rw [z, h] at e; exact e
  · rw [upd_ne z]
    have n2 : b ≠ D := fun q => by rw [upd_ne n] at hD; rw [q, hD] at e; cases e
    rw [upd_ne n2, upd_ne z]; exact e
theorem lc_keysL {j : Nat} {tt : TT} {te : TE} {vs : List Nat} {σ : L2.St} {H1 : Hp} {D a : Addr} {od : Obj} {kvs : List (Key × V)} {Qd : Hp → Prop} (h : H1 a = some (.dK kvs)) (hD : (upd H1 a (.frz od (.dK kvs))) D = none) (hz : kvs.length ≤ 1000000) (f : V → Bool) (v : V → V) (hw : ∀ x ∈ kvs.map (fun kv => kV kv.1), wipe ((wipe σ vs).set j (some x)) vs = wipe σ vs)
    (ht : ∀ x ∈ kvs.map (fun kv => kV kv.1), ∀ H2, H2 a = some (.frz od (.dK kvs)) → (∀ b o, b ≠ a → H1 b = some o → H2 b = some o) → ∀ (Q : Bool → Hp → Prop), Q (f x) H2 → tt ((wipe σ vs).set j (some x)) H2 Q)
    (he : ∀ x ∈ kvs.map (fun kv => kV kv.1), f x = true → ∀ H2, H2 a = some (.frz od (.dK kvs)) → (∀ b o, b ≠ a → H1 b = some o → H2 b = some o) → ∀ (Q : VK), Q (v x) H2 → te ((wipe σ vs).set j (some x)) H2 Q)
    (hd : ∀ H', H' a = some (.frz od (.dK kvs)) → Same H1 (upd H' a (.dK kvs)) → upd H' a (.dK kvs) D = some (.lst (((kvs.map fun kv => kV kv.1).filter f).map v)) → Qd H') :
    LcGoal (Itk a od kvs) (gName j) tt te vs σ (upd H1 a (.frz od (.dK kvs))) D Qd := by
  have n : D ≠ a := fun z => by rw [z, upd_same] at hD; cases hD
  have k1 : ∀ acc, upd (upd H1 a (.frz od (.dK kvs))) D (.lst acc) a = some (.frz od (.dK kvs)) := fun acc => by rw [upd_ne n.symm, upd_same]
  have k2 : ∀ acc b o, b ≠ a → H1 b = some o → upd (upd H1 a (.frz od (.dK kvs))) D (.lst acc) b = some o := fun acc b o nb e => by
    have n2 : b ≠ D := fun q => by rw [upd_ne n] at hD; rw [q, hD] at e; cases e
    rw [upd_ne n2, upd_ne nb]; exact e
  refine lc_keys upd_same hD hz f v hw (fun x hx acc Q q => ht x hx _ (k1 _) (k2 _) Q q) (fun x hx hf acc Q q => he x hx hf _ (k1 _) (k2 _) Q q) ?_
  obtain ⟨s, sD, _⟩ := same_lock (x := .lst (((kvs.map fun kv => kV kv.1).filter f).map v)) h hD
  exact hd _ (k1 _) s sD
def kva : List (Key × V) := [(.inr "a", .int 1)]
section
variable {P : Program} {w : World} {K : PySem.W.Frag} {mg : Str → Option Value} {base : Heap}
def spArePrices0 : Sp := fun vs H Q _ => ∃ a b, vs = [.ref a, .ref a, .ref b] ∧ H a = some (.dK kva) ∧ H b = some (.dK []) ∧ ∀ H', Same H H' → Q (.bl true) H'
abbrev N_are_prices : List Str := ["put", "out", "swap", "table", "sign", "price", "pair"]
theorem sc_are_prices : FnScope N_are_prices ["put", "out", "swap"] (defScope (top 25)) := ⟨rfl, rfl, rfl, by decide +kernel, rfl, by decide +kernel, by decide +kernel⟩
theorem c_are_prices0 (A : At K mg "are_prices" (top 25)) (B : Blt mg) (G1 : GlC mg "MAX_PRICE" (.int 9)) (c_is_sign : Cal P w K mg base 1 "is_sign" (spIsSign K)) (c_is_price : Cal P w K mg base 2 "is_price" (spIsPrice K)) : Cal P w K mg base 3 "are_prices" spArePrices0 := by
  refine cal_of A sc_are_prices (fun _ _ _ _ _ _ us hl => match us, hl with | [_, _, _], _ => rfl) (fun vs H Q E h => ?_) (fun f cdv A outer s H vs Q E hr h => ?_)
  · obtain ⟨a, b, rfl, _⟩ := h; rfl
  · obtain ⟨a, b, rfl, ha, hb, hQ⟩ := h
    refine ⟨_, (pss_cons (ps_if (PW.pt (pw_or (pt_not (pt_val (pe_callB (cr_all rfl) (by rfl) B.all (by decide +kernel) (pa_cons (pe_lc (own := [("table", 3)]) (g := gName 3) (tt := tYes) (by rfl) sc_are_prices.nd (pi_tup (pe_tup (pa_cons (pv 0) (pa_cons (pv 1) (pa_cons (pv 2) pa_nil))))) (blkOk_by (own := [("table", 3)]) (N := N_are_prices) (sc := defScope (top 25)) (by decide +kernel)) (fun _ _ _ _ _ => (pg_name (i := 3) sc_are_prices.nd rfl (Or.inl rfl))) (fun _ _ _ _ _ => pts_nil) (fun _ _ _ _ _ => (pe_callB (isSK (K := K) rfl) (by rfl) B.isinstance (by decide +kernel) (pa_cons (pv 3) (pa_cons (pe_bltn (v := .ty "dict") (by rfl) B.dict (by decide +kernel) rfl) pa_nil))))) pa_nil)))) (pw_or1 (pt_cmpR op_eq (pe_callB call_lenD (by rfl) B.len (by decide +kernel) (pa_cons (pv 0) pa_nil)) pe_int (nomark _)))))
      (pss_one (ps_ret pe_bl))
      pss_nil)
      (pss_cons (ps_if (PW.pt (pw_or (pt_not (pt_val (pe_callB (cr_all rfl) (by rfl) B.all (by decide +kernel) (pa_cons (pe_lock (pe_lc (own := [("sign", 4)]) (g := gName 4) (tt := tYes) (by rfl) sc_are_prices.nd (pi_keys (pv 0)) (blkOk_by (own := [("sign", 4)]) (N := N_are_prices) (sc := defScope (top 25)) (by decide +kernel)) (fun _ _ _ _ _ => (pg_name (i := 4) sc_are_prices.nd rfl (Or.inl rfl))) (fun _ _ _ _ _ => pts_nil) (fun _ _ _ _ _ => (pe_c c_is_sign hr (by decide) (by rfl) (pa_cons (pv 4) pa_nil))))) pa_nil)))) (pw_or (pt_cmpR op_ne (pe_callB call_lenD (by rfl) B.len (by decide +kernel) (pa_cons (pv 0) pa_nil)) (pe_callB call_lenD (by rfl) B.len (by decide +kernel) (pa_cons (pv 1) pa_nil)) (nomark _)) (pw_or1 (pt_not (pt_val (pe_callB (cr_all rfl) (by rfl) B.all (by decide +kernel) (pa_cons (pe_lock (pe_lc (own := [("sign", 4)]) (g := gName 4) (tt := tYes) (by rfl) sc_are_prices.nd (pi_keys (pv 0)) (blkOk_by (own := [("sign", 4)]) (N := N_are_prices) (sc := defScope (top 25)) (by decide +kernel)) (fun _ _ _ _ _ => (pg_name (i := 4) sc_are_prices.nd rfl (Or.inl rfl))) (fun _ _ _ _ _ => pts_nil) (fun _ _ _ _ _ => (pe_cmp (pc_din (hu_of hr) (pv 4) (pv 1)))))) pa_nil))))))))
        (pss_one (ps_ret pe_bl))
        pss_nil)
      (pss_cons (ps_if (pt_not (pt_val (pe_callB (cr_all rfl) (by rfl) B.all (by decide +kernel) (pa_cons (pe_lc (own := [("price", 5)]) (g := gName 5) (tt := tYes) (by rfl) sc_are_prices.nd (pi_list (pe_op op_cat (pe_listVals rfl (pv 0) (by rfl) B.list) (pe_listVals rfl (pv 1) (by rfl) B.list))) (blkOk_by (own := [("price", 5)]) (N := N_are_prices) (sc := defScope (top 25)) (by decide +kernel)) (fun _ _ _ _ _ => (pg_name (i := 5) sc_are_prices.nd rfl (Or.inl rfl))) (fun _ _ _ _ _ => pts_nil) (fun _ _ _ _ _ => (pe_c c_is_price hr (by decide) (by rfl) (pa_cons (pv 5) (pa_cons (pe_gl (by rfl) G1) pa_nil))))) pa_nil))))
        (pss_one (ps_ret pe_bl))
        pss_nil)
      (pss_one (ps_ret (pe_callB (cr_all rfl) (by rfl) B.all (by decide +kernel) (pa_cons (pe_lock (pe_lc (own := [("pair", 6), ("price", 5)]) (tt := tYes) (by rfl) sc_are_prices.nd (pi_items (pv 2)) (blkOk_by (own := [("pair", 6), ("price", 5)]) (N := N_are_prices) (sc := defScope (top 25)) (by decide +kernel)) (fun _ _ _ _ _ => (pg_tupK (K := K) (n := 2) rfl rfl (pgs_cons (pg_name (i := 6) sc_are_prices.nd rfl (Or.inl rfl)) (pgs_cons (pg_name (i := 5) sc_are_prices.nd rfl (Or.inl rfl)) pgs_nil)))) (fun _ _ _ _ _ => pts_nil) (fun _ _ _ _ _ => pe_no))) pa_nil))))))), ?_⟩
    -- all are dicts
    refine ⟨_, rfl, _, rfl, _, rfl, (show 3 ≤ sizeLine by decide), fun p hp => ⟨p, rfl, ⟨_, .inl (.inl upd_same)⟩, fun D hD => ?_⟩⟩
    have e1 : Same H (upd H p (.tup [.ref a, .ref a, .ref b])) := same_new hp
    refine lc_tplE (.inl (.inl upd_same)) hD (show 3 ≤ 1000000 by decide) (fun _ => true) (fun x => .bl true) (fun x _ => rfl) (fun x _ H2 e2 Q q => q _ (Same.refl _)) (fun x hx _ H2 e2 Q q => ?_) (fun H2 e2 h2 => ?_)
    · refine ⟨_, rfl, x, "dict", true, rfl, ?_, q _ (Same.refl _)⟩
      have ea := e2 _ _ (e1 _ _ ha)
      have eb := e2 _ _ (e1 _ _ hb)
      have hx' : x = .ref a ∨ x = .ref b := by simpa using hx
      rcases hx' with rfl | rfl
      · exact .ty (.base (.dK ea)) (by decide +kernel)
      · exact .ty (.base (.dK eb)) (by decide +kernel)
    refine ⟨D, [true, true, true], rfl, .inl (.inl h2), _, rfl, iteF ?_⟩
    have e2 := e1.trans e2
    refine ⟨_, rfl, a, kva, rfl, e2 _ _ ha, rfl, _, rfl, iteF ?_⟩
    -- all keys are signs
    refine ⟨a, _, e2 _ _ ha, trivial, fun od => ⟨_, rfl, a, od, rfl, .inl ⟨kva, upd_same, fun D2 hD2 => ?_⟩⟩⟩
    refine lc_keysL (e2 _ _ ha) hD2 (show 1 ≤ 1000000 by decide) (fun _ => true) (fun x => .bl true) (fun x _ => rfl) (fun x _ H3 _ _ Q q => q) (fun x hx _ H3 f3 _ Q q => ?_) (fun H3 f3 e3 h3 => ⟨f3, ?_⟩)
    · have hx' : x = .str "a" := by simpa [kva, kV] using hx
      subst hx'
      refine ⟨_, rfl, _, rfl, .str (by decide +kernel), ?_⟩
      rw [show isSign (.str "a") = true by decide +kernel]
      exact q
    generalize upd H3 a (.dK kva) = H3' at *
    refine ⟨D2, [true], rfl, .inl (.inl h3), _, rfl, iteF ?_⟩
    have e3 := e2.trans e3
    refine ⟨_, rfl, a, kva, rfl, e3 _ _ ha, _, rfl, a, kva, rfl, e3 _ _ ha, rfl, _, rfl, iteF ?_⟩
    -- all keys in out
    refine ⟨a, _, e3 _ _ ha, trivial, fun od => ⟨_, rfl, a, od, rfl, .inl ⟨kva, upd_same, fun D3 hD3 => ?_⟩⟩⟩
    refine lc_keysL (e3 _ _ ha) hD3 (show 1 ≤ 1000000 by decide) (fun _ => true) (fun x => .bl true) (fun x _ => rfl) (fun x _ H3 _ _ Q q => q) (fun x hx _ H3 f3 _ Q q => ?_) (fun H4 f4 e4 h4 => ⟨f4, ?_⟩)
    · have hx' : x = .str "a" := by simpa [kva, kV] using hx
      subst hx'
      exact ⟨_, rfl, _, rfl, a, some (.int 1), rfl, .inl ⟨kva, .inr "a", .inr ⟨od, f3⟩, rfl, by decide +kernel⟩, q⟩
    generalize upd H4 a (.dK kva) = H4' at *
    refine ⟨D3, [true], rfl, .inl (.inl h4), _, rfl, iteF ?_⟩
    have e4 := e3.trans e4
    -- prices
    refine ⟨_, rfl, a, kva, rfl, e4 _ _ ha, fun p1 hp1 => ?_⟩
    have e5 := e4.trans (same_new (o := .lst (kva.map (·.2))) hp1)
    refine ⟨_, rfl, a, kva, rfl, e5 _ _ ha, fun p2 hp2 => ⟨p1, p2, kva.map (·.2), kva.map (·.2), rfl, rfl, ?_, upd_same, (show 2 ≤ sizeLine by decide), fun p3 hp3 => ?_⟩⟩
    · rw [upd_ne (ne_of_none upd_same hp2), upd_same]
    have e6 := e5.trans (same_new (o := .lst (kva.map (·.2))) hp2)
    have e7 := e6.trans (same_new (o := .lst (kva.map (·.2) ++ kva.map (·.2))) hp3)
    refine ⟨p3, rfl, ⟨_, .inl (.inl upd_same)⟩, fun D4 hD4 => ?_⟩
    refine lc_lstE (.inl (.inl upd_same)) hD4 (show 2 ≤ 1000000 by decide) (fun _ => true) (fun x => .bl true) (fun x _ => rfl) (fun x _ H2 e2 Q q => q _ (Same.refl _)) (fun x hx _ H2 e2 Q q => ?_) (fun H8 e8 h8 => ?_)
    · have hx' : x = .int 1 := by simpa [kva] using hx
      subst hx'
      refine ⟨_, rfl, .int 1, 9, rfl, .inl ⟨1, rfl, ?_⟩⟩
      rw [isInt_of (by decide) (by decide)]
      exact q _ (Same.refl _)
    refine ⟨D4, [true, true], rfl, .inl (.inl h8), _, rfl, iteF ?_⟩
    have e8 := e7.trans e8
    -- no swaps
    refine ⟨b, _, e8 _ _ hb, trivial, fun od => ⟨_, rfl, b, od, [], rfl, upd_same, fun D5 hD5 => ?_⟩⟩
    refine lc_none (J := Iti b od []) ?_ ?_
    · exact ⟨by rw [upd_ne (ne_of_none upd_same hD5), upd_same], Nat.le_refl _⟩
    obtain ⟨s9, s9D, n9⟩ := same_lock (x := .lst []) (e8 _ _ hb) hD5
    refine ⟨by rw [upd_ne n9.symm, upd_same], D5, [], rfl, .inl (.inl s9D), ?_⟩
    exact hQ _ (e8.trans s9)
end
end MN
namespace MN
open PySem PySem.Spec PyProof.Rows L2
theorem slt_same {H H' : Hp} {a C dx : Addr} {vs : List (Option V)} (e : Same H H') (h : SlX.Slt H a C dx vs) : SlX.Slt H' a C dx vs := by
  rcases h with ⟨h, rfl⟩ | ⟨h1, h2⟩
  · exact .inl ⟨e _ _ h, rfl⟩
  · exact .inr ⟨e _ _ h1, e _ _ h2⟩
theorem piTupK {X : Cx} {K : PySem.W.Frag} (hK : X.K = K) {tg l : Expr} {tl : TE} (hl : PE X l tl) : PI X tg l (iTup K tl) := hK ▸ pi_tup hl
theorem putK_le (kvs : List (Key × V)) (k : Key) (v : V) : (putK kvs k v).length ≤ kvs.length + 1 := by
  unfold putK
  split <;> simp
/-- an instance with slots, laid -/
def Sl2 (H : Hp) (a C dx : Addr) (vs : List (Option V)) : Prop := H a = some (SlX.SlO a C dx vs) ∧ H dx = some (.xd [])
theorem slH_sl2 {H : Hp} {a C dx : Addr} {vs : List (Option V)} (h : dx ≠ a) : Sl2 (SlX.slH H a C dx vs) a C dx vs := ⟨upd_same, by unfold SlX.slH; rw [upd_ne h, upd_same]⟩
/-- all but x and dx stays -/
def Kp (x dx : Addr) (H H' : Hp) : Prop := ∀ b o, b ≠ x → b ≠ dx → H b = some o → H' b = some o
theorem Kp.same {x dx : Addr} {H H1 H2 : Hp} (h : Kp x dx H H1) (e : Same H1 H2) : Kp x dx H H2 := fun b o n1 n2 q => e _ _ (h b o n1 n2 q)
theorem Kp.sl {x dx C : Addr} {vs : List (Option V)} {H H1 : Hp} (h : Kp x dx H H1) : Kp x dx H (SlX.slH H1 x C dx vs) := fun b o n1 n2 q => by
  rw [SlX.slH_ne n1 n2]; exact h b o n1 n2 q
section
variable {P : Program} {w : World} {K : PySem.W.Frag} {mg : Str → Option Value} {base : Heap}
theorem fnok_of {x qual : Str} {params : Arguments} {body : List Stmt} {scope : Scope} {dvs : List V} {kws : List (Str × V)} {f : Addr} {fd : FuncData} {N ps : List Str} {k : Nat} {sp : Sp} (F : FunD K x qual params body scope dvs kws f fd) (S : FnScope N ps scope) (len : ∀ vs H Q E, sp vs H Q E → vs.length = ps.length)
    (hbody : ∀ (cdv : Value) (A : Around) (outer : List Env) (s : Shared) (H : Hp) (vs : List V) (Q : VK) (E : XK), Room k (A.deeper (envOfC qual scope s.heap.objs.size f cdv)) → sp vs H Q E →
      ∃ t, PSs (cxOf CX0 P w K mg base N qual scope f cdv A outer s H E).nox body t ∧ t { nx := fun _ H' => Q .non H', rt := Q } (start N vs) H) : FnOk P w K mg base CX0 (k + 1) f fd ps sp :=
  F.ok S len fun cdv A outer s H vs Q E hr h => by
    obtain ⟨t, h1, h2⟩ := hbody cdv A outer s H vs Q E hr h
    exact ⟨t, h1.nox, h2⟩
abbrev FunAt (K : PySem.W.Frag) (x qual : Str) (st : Stmt) (dvs : List V) (f : Addr) (fd : FuncData) : Prop := FunD K x qual (defArgs st) (defBody st) (defScope st) dvs [] f fd
/-- the class of prices, as far as Prices.even asks -/
structure PriceC (K : PySem.W.Frag) (C : Addr) : Prop where
  sc : SlX.SCls K C
  si : SlX.SIsi K C
  no : PySem.W.kitOne K (.ref C) (.type "str") = some false
  s0 : ∃ p i, SlX.Slot1 K C "own_put" p i
  s1 : ∃ p i, SlX.Slot1 K C "own_out" p i
  s2 : ∃ p i, SlX.Slot1 K C "own_swap" p i
  ini : ∃ f fd, Mk K C f ∧ FunAt K "__init__" "Prices.__init__" (inClass (top 26) 1) [] f fd
  evn : ∃ mc p g fd, ClX.CRead K C mc ∧ ClX.CMet K C mc "even" p g ∧ FunAt K "even" "Prices.even" (inClass (top 26) 2) [.int 1] g fd
def spInit0 (C : Addr) : Sp := fun vs H Q _ => ∃ x dx a b, vs = [.ref x, .ref a, .ref a, .ref b] ∧ H x = some (.ins C dx []) ∧ a ≠ x ∧ a ≠ dx ∧ b ≠ x ∧ b ≠ dx ∧ dx ≠ x ∧ H a = some (.dK kva) ∧ H b = some (.dK []) ∧
  ∀ H' ws, Kp x dx H H' → Sl2 H' x C dx ws → Q .non H'
abbrev N_init : List Str := ["self", "put", "out", "swap", "sign", "pair"]
theorem sc_init : FnScope N_init ["self", "put", "out", "swap"] (defScope (inClass (top 26) 1)) := ⟨rfl, rfl, rfl, by decide +kernel, rfl, by decide +kernel, by decide +kernel⟩
theorem f_init0 {C f : Addr} {fd : FuncData} (PC : PriceC K C) (F : FunAt K "__init__" "Prices.__init__" (inClass (top 26) 1) [] f fd) (B : Blt mg) (c_are_prices : Cal P w K mg base 3 "are_prices" spArePrices0) : FnOk P w K mg base CX0 4 f fd ["self", "put", "out", "swap"] (spInit0 C) := by
  refine fnok_of F sc_init (fun vs H Q E h => ?_) (fun cdv A outer s H vs Q E hr h => ?_)
  · obtain ⟨x, dx, a, b, rfl, _⟩ := h; rfl
  · obtain ⟨x, dx, a, b, rfl, hx, ax, ad, bx, bd, dxx, ha, hb, hQ⟩ := h
    obtain ⟨p0, i0, s0⟩ := PC.s0
    obtain ⟨p1, i1, s1⟩ := PC.s1
    obtain ⟨p2, i2, s2⟩ := PC.s2
    refine ⟨_, pss_cons (ps_if (pt_not (pt_val (pe_c c_are_prices hr (by decide) (by rfl) (pa_cons (pv 1) (pa_cons (pv 2) (pa_cons (pv 3) pa_nil)))))) (pss_one ps_never) pss_nil)
      (pss_cons (SlX.ps_sl (pv 0) (pe_dc (own := [("sign", 4)]) (g := gName 4) (tt := tYes) rfl sc_init.nd (pi_list (pe_callB cr_sortedS (by rfl) B.sorted (by decide +kernel) (pa_cons (pe_callTy (call_list_dK rfl) (by rfl) B.list (by decide +kernel) (pa_cons (pv 1) pa_nil)) pa_nil)))
        (blkOk_by (own := [("sign", 4)]) (N := N_init) (sc := defScope (inClass (top 26) 1)) (by decide +kernel)) (fun _ _ _ _ _ => (pg_name (i := 4) sc_init.nd rfl (Or.inl rfl))) (fun _ _ _ _ _ => pts_nil) (fun _ _ _ _ _ => pv 4) (fun _ _ _ _ _ => pe_dget (hu_of hr) (pv 1) (pv 4) (fun _ _ => rfl))))
      (pss_cons (SlX.ps_sl (pv 0) (pe_dc (own := [("sign", 4)]) (g := gName 4) (tt := tYes) rfl sc_init.nd (pi_list (pe_callB cr_sortedS (by rfl) B.sorted (by decide +kernel) (pa_cons (pe_callTy (call_list_dK rfl) (by rfl) B.list (by decide +kernel) (pa_cons (pv 1) pa_nil)) pa_nil)))
        (blkOk_by (own := [("sign", 4)]) (N := N_init) (sc := defScope (inClass (top 26) 1)) (by decide +kernel)) (fun _ _ _ _ _ => (pg_name (i := 4) sc_init.nd rfl (Or.inl rfl))) (fun _ _ _ _ _ => pts_nil) (fun _ _ _ _ _ => pv 4) (fun _ _ _ _ _ => pe_dget (hu_of hr) (pv 2) (pv 4) (fun _ _ => rfl))))
      (pss_one (SlX.ps_sl (pv 0) (pe_dc (own := [("pair", 5)]) (g := gName 5) (tt := tYes) rfl sc_init.nd (pi_list (pe_callB cr_sortedS (by rfl) B.sorted (by decide +kernel) (pa_cons (pe_callTy (call_list_dK rfl) (by rfl) B.list (by decide +kernel) (pa_cons (pv 3) pa_nil)) pa_nil)))
        (blkOk_by (own := [("pair", 5)]) (N := N_init) (sc := defScope (inClass (top 26) 1)) (by decide +kernel)) (fun _ _ _ _ _ => (pg_name (i := 5) sc_init.nd rfl (Or.inl rfl))) (fun _ _ _ _ _ => pts_nil) (fun _ _ _ _ _ => pe_no) (fun _ _ _ _ _ => pe_no)))))), ?_⟩
    refine ⟨_, rfl, _, rfl, _, rfl, a, b, rfl, ha, hb, fun H1 e1 => ⟨_, rfl, iteF ?_⟩⟩
    have k1 : Kp x dx H H1 := fun b o _ _ q => e1 _ _ q
    -- own_put
    refine ⟨_, rfl, a, kva, rfl, k1 _ _ ax ad ha, fun q hq => ⟨q, ["a"], rfl, .inl (.inl upd_same), by decide, fun ys p hys _ hp => ?_⟩⟩
    obtain rfl := List.perm_singleton.mp hys
    refine ⟨p, rfl, ⟨_, .inl (.inl upd_same)⟩, fun D hD => ?_⟩
    have e2 := (same_new (o := .lst (kva.map fun kv => kV kv.1)) hq).trans (same_new (o := .lst ([("a" : Str)].map V.str)) hp)
    refine dc_it walk_list (fun i H' => Same (upd (upd H1 q (.lst (kva.map fun kv => kV kv.1))) p (.lst ([("a" : Str)].map V.str))) H' ∧ ∃ kvs, H' D = some (.dK kvs) ∧ kvs.length ≤ i) ⟨same_new hD, _, upd_same, Nat.le_refl _⟩ (fun i H' _ e => Same.seq e.1 (.inl (.inl upd_same))) (fun i y H' H2 hi e hy => ?_) (fun H2 ⟨e3, _⟩ => ?_)
    · obtain ⟨rfl, hy⟩ := hy
      obtain ⟨e3, kvs, hk, hl⟩ := e
      obtain rfl : y = .str "a" := by simpa using List.mem_of_getElem? hy
      refine ⟨rfl, yes_q (iteT ⟨_, rfl, _, rfl, _, rfl, a, .int 1, rfl, .inl ⟨kva, .inr "a", .inl (e3 _ _ (e2 _ _ (k1 _ _ ax ad ha))), rfl, by decide +kernel⟩, kvs, .inr "a", rfl, hk, ?_, fun b o q => ?_, _, upd_same, ?_⟩)⟩
      · have : 100000 < sizeLine := by decide
        have : i < 1 := hi
        omega
      · rw [upd_ne (ne_of_none q hD)]; exact e3 _ _ q
      · have := putK_le kvs (.inr "a") (.int 1)
        omega
    have e4 := e2.trans e3
    have k2 := k1.same e4
    refine ⟨_, rfl, x, C, dx, p0, [], i0, rfl, .inl ⟨e4 _ _ (e1 _ _ hx), rfl⟩, PC.sc, s0, ?_⟩
    have k3 : Kp x dx H (SlX.slH H2 x C dx (SlX.putS i0 (.ref D) [])) := k2.sl
    have z3 : SlX.Slt (SlX.slH H2 x C dx (SlX.putS i0 (.ref D) [])) x C dx (SlX.putS i0 (.ref D) []) := SlX.slH_slt dxx
    generalize SlX.putS i0 (.ref D) [] = w3 at *
    generalize SlX.slH H2 x C dx w3 = H3 at *
    clear hD hp hq e3 e4 e2 k1 k2
    -- own_out
    refine ⟨_, rfl, a, kva, rfl, k3 _ _ ax ad ha, fun q hq => ⟨q, ["a"], rfl, .inl (.inl upd_same), by decide, fun ys p hys _ hp => ?_⟩⟩
    obtain rfl := List.perm_singleton.mp hys
    refine ⟨p, rfl, ⟨_, .inl (.inl upd_same)⟩, fun D hD => ?_⟩
    have e2 := (same_new (o := .lst (kva.map fun kv => kV kv.1)) hq).trans (same_new (o := .lst ([("a" : Str)].map V.str)) hp)
    refine dc_it walk_list (fun i H' => Same (upd (upd H3 q (.lst (kva.map fun kv => kV kv.1))) p (.lst ([("a" : Str)].map V.str))) H' ∧ ∃ kvs, H' D = some (.dK kvs) ∧ kvs.length ≤ i) ⟨same_new hD, _, upd_same, Nat.le_refl _⟩ (fun i H' _ e => Same.seq e.1 (.inl (.inl upd_same))) (fun i y H' H2 hi e hy => ?_) (fun H4 ⟨e3, _⟩ => ?_)
    · obtain ⟨rfl, hy⟩ := hy
      obtain ⟨e3, kvs, hk, hl⟩ := e
      obtain rfl : y = .str "a" := by simpa using List.mem_of_getElem? hy
      refine ⟨rfl, yes_q (iteT ⟨_, rfl, _, rfl, _, rfl, a, .int 1, rfl, .inl ⟨kva, .inr "a", .inl (e3 _ _ (e2 _ _ (k3 _ _ ax ad ha))), rfl, by decide +kernel⟩, kvs, .inr "a", rfl, hk, ?_, fun b o q => ?_, _, upd_same, ?_⟩)⟩
      · have : 100000 < sizeLine := by decide
        have : i < 1 := hi
        omega
      · rw [upd_ne (ne_of_none q hD)]; exact e3 _ _ q
      · have := putK_le kvs (.inr "a") (.int 1)
        omega
    have e4 := e2.trans e3
    have k4 := k3.same e4
    refine ⟨_, rfl, x, C, dx, p1, _, i1, rfl, slt_same e4 z3, PC.sc, s1, ?_⟩
    have k5 : Kp x dx H (SlX.slH H4 x C dx (SlX.putS i1 (.ref D) w3)) := k4.sl
    have z5 : SlX.Slt (SlX.slH H4 x C dx (SlX.putS i1 (.ref D) w3)) x C dx (SlX.putS i1 (.ref D) w3) := SlX.slH_slt dxx
    generalize SlX.putS i1 (.ref D) w3 = w5 at *
    generalize SlX.slH H4 x C dx w5 = H5 at *
    clear hD hp hq e3 e4 e2 k3 k4
    -- own_swap
    refine ⟨_, rfl, b, [], rfl, k5 _ _ bx bd hb, fun q hq => ⟨q, [], rfl, .inl (.inl upd_same), by decide, fun ys p hys _ hp => ?_⟩⟩
    obtain rfl := List.perm_nil.mp hys
    refine ⟨p, rfl, ⟨_, .inl (.inl upd_same)⟩, fun D hD => ?_⟩
    have e2 := ((same_new (o := .lst []) hq).trans (same_new (o := .lst []) hp)).trans (same_new (o := .dK []) hD)
    refine dc_it (walk_list (xs := [])) (fun i H' => H' = upd (upd (upd H5 q (.lst [])) p (.lst [])) D (.dK [])) rfl (fun i H' _ e => ?_) (fun i y H' H2 hi e hy => absurd hi (Nat.not_lt_zero _)) (fun H2 e => ?_)
    · rw [e]
      exact Same.seq (same_new hD) (.inl (.inl upd_same))
    subst e
    refine ⟨_, rfl, x, C, dx, p2, _, i2, rfl, slt_same e2 z5, PC.sc, s2, ?_⟩
    exact hQ _ _ (k5.same e2).sl (slH_sl2 dxx)
/-! ### Prices.even(('a',)) -/
def spEven0 (K : PySem.W.Frag) (C : Addr) : Sp := fun vs H Q _ => ∃ t, vs = [.ref C, .ref t, .int 1] ∧ SqT K H t [.str "a"] ∧ ∀ x dx ws H', Same H H' → Sl2 H' x C dx ws → Q (.ref x) H'
abbrev N_even : List Str := ["cls", "signs", "price", "single", "sign", "swap", "one", "other"]
theorem sc_even : FnScope N_even ["cls", "signs", "price"] (defScope (inClass (top 26) 2)) := ⟨rfl, rfl, rfl, by decide +kernel, rfl, by decide +kernel, by decide +kernel⟩
theorem kb_init {f : Addr} {fd : FuncData} (F : FunAt K "__init__" "Prices.__init__" (inClass (top 26) 1) [] f fd) : KBn K fd ["self", "put", "out", "swap"] 1 ["put", "out", "swap"] (fun us ws => us ++ ws) (fun us ws => us ++ ws) := by
  obtain ⟨oc, od, dV, kV, doc, pm, an, cdv, ct, osl, rfl, lk, hcd, hD, hK⟩ := F.ex
  rcases hD with ⟨_, rfl⟩ | ⟨e, _⟩
  · refine ⟨fun s us ws X l1 l2 => ?_, fun r1 r2 => r1.append r2⟩
    match us, ws, l1, l2 with
    | [_], [_, _, _], _, _ => exact .of_eq rfl
  · exact absurd rfl e
theorem f_even0 {C f : Addr} {fd : FuncData} (PC : PriceC K C) (F : FunAt K "even" "Prices.even" (inClass (top 26) 2) [.int 1] f fd) (B : Blt mg) (G1 : GlC mg "MAX_PRICE" (.int 9)) (c_are_prices : Cal P w K mg base 3 "are_prices" spArePrices0) (c_require_signs : Cal P w K mg base 3 "require_signs" (spReqSigns K)) (c_require_number : Cal P w K mg base 2 "require_number" spReqNumber) :
    FnOk P w K mg base CX0 6 f fd ["cls", "signs", "price"] (spEven0 K C) := by
  refine fnok_of F sc_even (fun vs H Q E h => ?_) (fun cdv A outer s H vs Q E hr h => ?_)
  · obtain ⟨t, rfl, _⟩ := h; rfl
  · obtain ⟨t, rfl, ht, hQ⟩ := h
    obtain ⟨fi, fdi, M, Fi⟩ := PC.ini
    refine ⟨_, pss_cons (ps_expr (pe_c c_require_signs hr (by decide) (by rfl) (pa_cons (pv 1) pa_nil)))
      (pss_cons (ps_expr (pe_c c_require_number hr (by decide) (by rfl) (pa_cons (pv 2) (pa_cons pe_int (pa_cons (pe_gl (by rfl) G1) pa_nil)))))
      (pss_cons (ps_setDp1 (i := 3) (o0 := .dK []) (own := [("sign", 4)]) (g := gName 4) (tt := tYes) rfl (hu_of hr) sc_even.nd rfl rfl (swD_true rfl rfl rfl (by decide +kernel)) (pi_tup (pv 1))
        (blkOk_by (own := [("sign", 4)]) (N := N_even) (sc := defScope (inClass (top 26) 2)) (by decide +kernel)) (fun _ _ _ _ _ => (pg_name (i := 4) sc_even.nd rfl (Or.inl rfl))) (fun _ _ _ _ _ => pts_nil) (fun _ _ _ _ _ => pv 4) (fun _ _ _ _ _ => pv 2) (.inl rfl))
      (pss_cons (ps_setDp2 (i := 5) (o0 := .dK []) (own := [("one", 6), ("other", 7)]) (vs1 := [7]) (g := gName 6) (tt := tYes) (g1 := gName 7) rfl (hu_of hr) sc_even.nd rfl rfl (swD_true rfl rfl rfl (by decide +kernel)) (pi_tup (pv 1))
        (blkOk_by (own := [("one", 6), ("other", 7)]) (N := N_even) (sc := defScope (inClass (top 26) 2)) (by decide +kernel)) (by decide) (fun _ _ _ _ _ => (pg_name (i := 6) sc_even.nd rfl (Or.inl rfl))) (fun _ _ _ _ _ => pts_nil)
        (fun _ _ _ _ _ => piTupK (K := K) rfl (pv 1)) (fun _ _ _ _ _ => (pg_name (i := 7) sc_even.nd rfl (Or.inl rfl))) (fun _ _ _ _ _ => pts_one (pt_cmpR op_ne (pv 6) (pv 7) (nomark _))) (fun _ _ _ _ _ => pe_no) (fun _ _ _ _ _ => pe_no) (.inl rfl))
      (pss_one (ps_ret (pe_makeKL (i := 0) M (f_init0 PC Fi B c_are_prices) (hr.mono (by decide)) (by rfl) (.inl rfl) (kb_init Fi) pass0 (pk_cons (pv 3) (pk_cons (pv 3) (pk_cons (pv 5) pk_nil))))))))), ?_⟩
    refine ⟨_, rfl, t, ["a"], rfl, ⟨ht, by decide, by decide +kernel⟩, by decide +kernel, fun H1 e1 => ?_⟩
    refine ⟨_, rfl, 1, 1, 9, rfl, isInt_of (by decide) (by decide), by decide, by decide, ?_⟩
    -- single
    have ht1 := Same.seqT e1 ht
    refine ⟨_, rfl, t, rfl, ⟨_, ht1⟩, fun D hD => dp_it (walk_tup (xs := [.str "a"])) (fun i H' => H' = upd H1 D (.dK (kva.take i))) rfl (fun i H' _ e => by rw [e]; exact seqT_upd ht1 hD) (fun i y H' H2 hi e hy => ?_) (fun H2 e => ?_)⟩
    · obtain ⟨rfl, hy⟩ := hy
      subst e
      have : i < 1 := hi
      obtain rfl : i = 0 := by omega
      obtain rfl : y = .str "a" := by simpa using hy.symm
      exact ⟨rfl, yes_q (iteT ⟨_, rfl, _, rfl, _, .inl ⟨[], .inr "a", upd_same, rfl, by decide, rfl⟩, by rw [upd_upd]; rfl⟩)⟩
    have e2 : Same H1 H2 := by rw [e]; exact same_new hD
    have hd2 : H2 D = some (.dK kva) := by rw [e]; exact upd_same
    have nD : H D = none := e1.free hD
    clear e
    have ht2 := Same.seqT e2 ht1
    -- swap
    refine ⟨_, rfl, t, rfl, ⟨_, ht2⟩, fun D2 hD2 => ?_⟩
    have ht3 : SqT K (upd H2 D2 (.dK [])) t [.str "a"] := seqT_upd ht2 hD2
    refine ⟨fun i m H' => i + m = 1 ∧ H' = upd H2 D2 (.dK []), ⟨1, rfl, rfl⟩, fun i m H' e => ?_⟩
    obtain ⟨e, rfl⟩ := e
    by_cases hi : i = 0
    · subst hi
      refine .inr ⟨(walk_tup (xs := [.str "a"])).goes 0 _ (by decide) ht3, fun H' => H' = upd H2 D2 (.dK []), fun H' e' => ⟨0, by omega, rfl, e'⟩, fun y H' hy => ?_⟩
      obtain ⟨rfl, hy2⟩ := (walk_tup (xs := [.str "a"])).yields 0 _ _ _ (by decide) ht3 hy
      obtain rfl : y = .str "a" := by simpa using hy2.symm
      refine ⟨rfl, yes_q (iteT ⟨_, rfl, t, rfl, ⟨_, ht3⟩, fun j m H' => j + m = 1 ∧ H' = upd H2 D2 (.dK []), ⟨1, rfl, rfl⟩, fun j m H' e => ?_⟩)⟩
      obtain ⟨e, rfl⟩ := e
      by_cases hj : j = 0
      · subst hj
        refine .inr ⟨(walk_tup (xs := [.str "a"])).goes 0 _ (by decide) ht3, fun H' => H' = upd H2 D2 (.dK []), fun H' e' => ⟨0, by omega, rfl, e'⟩, fun y H' hy => ?_⟩
        obtain ⟨rfl, hy2⟩ := (walk_tup (xs := [.str "a"])).yields 0 _ _ _ (by decide) ht3 hy
        obtain rfl : y = .str "a" := by simpa using hy2.symm
        exact ⟨rfl, _, rfl, _, rfl, rfl, _, rfl, iteF rfl⟩
      · obtain rfl : j = 1 := by omega
        exact .inl ⟨(walk_tup (xs := [.str "a"])).stops _ ht3, rfl⟩
    · obtain rfl : i = 1 := by omega
      refine .inl ⟨(walk_tup (xs := [.str "a"])).stops _ ht3, ?_⟩
      -- cls(..)
      have e3 := e2.trans (same_new (o := .dK []) hD2)
      have hd3 := same_new (o := .dK []) hD2 _ _ hd2
      have hb3 : upd H2 D2 (.dK []) D2 = some (.dK []) := upd_same
      generalize upd H2 D2 (.dK []) = H3 at *
      refine ⟨rfl, _, rfl, _, rfl, _, rfl, rfl, rfl, fun x dx hx hdx n => ?_⟩
      have nx : ∀ b o, H3 b = some o → b ≠ x ∧ b ≠ dx := fun b o e => ⟨ne_of_none e hx, ne_of_none e hdx⟩
      have up : ∀ b o, H3 b = some o → upd (upd H3 dx (.own x)) x (.ins C dx []) b = some o := fun b o e => by
        rw [upd_ne (nx b o e).1, upd_ne (nx b o e).2]; exact e
      refine ⟨x, dx, D, D2, rfl, upd_same, (nx _ _ hd3).1, (nx _ _ hd3).2, (nx _ _ hb3).1, (nx _ _ hb3).2, n, up _ _ hd3, up _ _ hb3, fun H4 ws k4 z4 => ⟨rfl, hQ x dx ws H4 (fun b o q => ?_) z4⟩⟩
      have q3 := e3 _ _ (e1 _ _ q)
      exact k4 b o (nx _ _ q3).1 (nx _ _ q3).2 (up _ _ q3)
end
end MN
/-! the law's draws: whatever is drawn lies in its bounds -/
namespace MN
open PySem PySem.Spec PyProof.Rows L2
abbrev potO (a b c : Int) : HO := .lst [.int a, .int b, .int c]
def Pot (H : Hp) (p : Addr) : Prop := ∃ a b c, H p = some (potO a b c)
/-- all but the pot is as it was; the pot is one still -/
structure Ex (p : Addr) (H H' : Hp) : Prop where
  keep : ∀ b o, b ≠ p → H b = some o → H' b = some o
  pot : Pot H' p
theorem Pot.upd {H : Hp} {p : Addr} {a b c : Int} : Pot (L2.upd H p (potO a b c)) p := ⟨a, b, c, upd_same⟩
theorem Ex.turn {H : Hp} {p : Addr} {a b c : Int} : Ex p H (L2.upd H p (potO a b c)) := ⟨fun b o hb e => by rw [upd_ne hb]; exact e, .upd⟩
theorem Ex.trans {p : Addr} {H H1 H2 : Hp} (a : Ex p H H1) (b : Ex p H1 H2) : Ex p H H2 := ⟨fun x o hx e => b.keep x o hx (a.keep x o hx e), b.pot⟩
theorem Ex.new {p q : Addr} {H H1 : Hp} {o : HO} (a : Ex p H H1) (hq : H1 q = none) : Ex p H (L2.upd H1 q o) := by
  obtain ⟨x, y, z, hp⟩ := a.pot
  exact ⟨fun b u hb e => by rw [upd_ne (ne_of_none (a.keep b u hb e) hq)]; exact a.keep b u hb e, x, y, z, by rw [upd_ne (ne_of_none hp hq)]; exact hp⟩
theorem Ex.same {p : Addr} {H H1 H2 : Hp} (a : Ex p H H1) (s : Same H1 H2) : Ex p H H2 := by
  obtain ⟨x, y, z, hp⟩ := a.pot
  exact ⟨fun b u hb e => s _ _ (a.keep b u hb e), x, y, z, s _ _ hp⟩
theorem Ex.refl {p : Addr} {H : Hp} (h : Pot H p) : Ex p H H := ⟨fun _ _ _ e => e, h⟩
theorem Ex.free {p q : Addr} {H H1 : Hp} (a : Ex p H H1) (hp : Pot H p) (hq : H1 q = none) : H q = none := by
  cases e : H q with
  | none => rfl
  | some o =>
    by_cases z : q = p
    · subst z
      obtain ⟨x, y, w, h⟩ := a.pot
      rw [h] at hq; cases hq
    · rw [a.keep q o z e] at hq; cases hq
/-- an object that stands, or a new one, may be changed -/
theorem Ex.put {p q : Addr} {H H1 : Hp} {o : HO} (a : Ex p H H1) (hq : H q = none) (hne : q ≠ p) : Ex p H (L2.upd H1 q o) := by
  obtain ⟨x, y, z, hp⟩ := a.pot
  exact ⟨fun b u hb e => by rw [upd_ne (ne_of_none e hq)]; exact a.keep b u hb e, x, y, z, by rw [upd_ne (Ne.symm hne)]; exact hp⟩
theorem Ex.seqL {K : PySem.W.Frag} {p : Addr} {H H' : Hp} {a : Addr} {xs : List V} (e : Ex p H H') (h : SqL K H a xs) (hne : a ≠ p) : SqL K H' a xs := by
  rcases h with (h | ⟨o, h⟩) | h
  · exact .inl (.inl (e.keep _ _ hne h))
  · exact .inl (.inr ⟨o, e.keep _ _ hne h⟩)
  · exact .inr h
theorem Ex.seqT {K : PySem.W.Frag} {p : Addr} {H H' : Hp} {a : Addr} {xs : List V} (e : Ex p H H') (h : SqT K H a xs) (hne : a ≠ p) : SqT K H' a xs := by
  rcases h with (h | ⟨o, h⟩) | h
  · exact .inl (.inl (e.keep _ _ hne h))
  · exact .inl (.inr ⟨o, e.keep _ _ hne h⟩)
  · exact .inr h
section
variable {P : Program} {w : World} {K : PySem.W.Frag} {mg : Str → Option Value} {base : Heap}
/-! ### _law_dip -/
def spDip : Sp := fun vs H Q _ => ∃ p n a b c, vs = [.ref p, .int n] ∧ H p = some (potO a b c) ∧ 0 < n ∧ n < 1000000 ∧ ∀ r a' b' c', 0 ≤ r → r < n → Q (.int r) (upd H p (potO a' b' c'))
abbrev N_law_dip : List Str := ["_law_pot", "_law_total", "_law_found", "_law_one", "_law_two"]
theorem sc_law_dip : FnScope N_law_dip ["_law_pot", "_law_total"] (defScope (top 29)) := ⟨rfl, rfl, rfl, by decide +kernel, rfl, by decide +kernel, by decide +kernel⟩
theorem c_law_dip (A : At K mg "_law_dip" (top 29)) (B : Blt mg) : Cal P w K mg base 1 "_law_dip" spDip := by
  refine cal_of A sc_law_dip (fun _ _ _ _ _ _ us hl => match us, hl with | [_, _], _ => rfl) (fun vs H Q E h => ?_) (fun _ cdv A outer s H vs Q E hr h => ?_)
  · obtain ⟨_, _, _, _, _, rfl, _⟩ := h; rfl
  · obtain ⟨p, n, a, b, c, rfl, hp, h0, h1, hQ⟩ := h
    refine ⟨_, (pss_cons (ps_if (pt_cmpR op_gt (pe_ix ix_list (pv 0) pe_int (fun _ _ => rfl)) pe_int (nomark _))
      (pss_cons (ps_set (i := 2) sc_law_dip.nd rfl (Or.inl rfl) (pe_op op_mod (pe_callTy call_int1 (by rfl) B.int (by decide +kernel) (pa_cons (pe_ix ix_list (pv 0) pe_int (fun _ _ => rfl)) pa_nil)) (pv 1)))
      (pss_cons (ps_asg (pe_op op_fdiv (pe_ix ix_list (pv 0) pe_int (fun _ _ => rfl)) (pv 1)) (pg_sub (pv 0) pe_int set_list))
      (pss_one (ps_ret (pv 2)))))
      pss_nil)
      (pss_cons (ps_asg (pe_op op_add (pe_ix ix_list (pv 0) pe_int (fun _ _ => rfl)) pe_int) (pg_sub (pv 0) pe_int set_list))
      (pss_cons (ps_set (i := 3) sc_law_dip.nd rfl (Or.inl rfl) (pe_op op_mod (pe_callTy call_int1 (by rfl) B.int (by decide +kernel) (pa_cons (pe_op op_add (pe_op op_mul (pe_ix ix_list (pv 0) pe_int (fun _ _ => rfl)) pe_int) (pe_op op_mul (pe_ix ix_list (pv 0) pe_int (fun _ _ => rfl)) pe_int)) pa_nil)) pe_int))
      (pss_cons (ps_set (i := 4) sc_law_dip.nd rfl (Or.inl rfl) (pe_op op_mod (pe_callTy call_int1 (by rfl) B.int (by decide +kernel) (pa_cons (pe_op op_add (pe_op op_mul (pv 3) (pv 3)) (pe_op op_mul pe_int (pe_ix ix_list (pv 0) pe_int (fun _ _ => rfl)))) pa_nil)) pe_int))
      (pss_one (ps_ret (pe_op op_mod (pe_callTy call_int1 (by rfl) B.int (by decide +kernel) (pa_cons (pe_op op_fdiv (pe_op op_mod (pe_callTy call_int1 (by rfl) B.int (by decide +kernel) (pa_cons (pe_op op_add (pe_op op_mul (pv 4) pe_int) (pv 3)) pa_nil)) pe_int) pe_int) pa_nil)) (pv 1)))))))), ?_⟩
    refine ⟨_, rfl, p, _, _, _, rfl, rfl, SqL.of hp, rfl, _, _, rfl, rfl, _, rfl, ?_⟩
    refine ite2 (fun _ => ?_) (fun _ => ?_)
    · refine ⟨_, rfl, p, _, _, _, rfl, rfl, SqL.of hp, rfl, .inl ⟨_, rfl, _, rfl, _, _, rfl, rfl, h0, ?_⟩⟩
      refine ⟨_, rfl, p, _, _, _, rfl, rfl, SqL.of hp, rfl, _, rfl, _, _, rfl, rfl, ⟨h0, by omega⟩, _, rfl, p, _, _, 0, rfl, rfl, hp, rfl, ?_⟩
      exact ⟨_, rfl, hQ _ _ _ _ (Int.emod_nonneg _ (by omega)) (Int.emod_lt_of_pos _ h0)⟩
    · refine ⟨_, rfl, p, _, _, _, rfl, rfl, SqL.of hp, rfl, _, _, rfl, rfl, _, rfl, p, _, _, 2, rfl, rfl, hp, rfl, ?_⟩
      have hp1 : upd H p (.lst (List.set [V.int a, V.int b, V.int c] 2 (.int (c + 1)))) p = some (potO a b (c + 1)) := upd_same
      refine ⟨_, rfl, p, _, _, _, rfl, rfl, SqL.of hp1, rfl, _, _, rfl, rfl, .inr ⟨by decide, by decide⟩, _, rfl, p, _, _, _, rfl, rfl, SqL.of hp1, rfl, _, _, rfl, rfl, .inr ⟨by decide, by decide⟩, _, _, rfl, rfl, .inl ⟨_, rfl, _, _, rfl, rfl, (show (0 : Int) < 2305843009213693951 by decide), ?_⟩⟩
      have hb : ∀ x : Int, -(2 ^ 64) < x % 2305843009213693951 ∧ x % 2305843009213693951 < 2 ^ 64 := fun x => by omega
      refine ⟨_, rfl, _, rfl, _, _, rfl, rfl, .inl (hb _), _, rfl, _, _, _, _, rfl, rfl, SqL.of hp1, rfl, _, _, rfl, rfl, .inl ⟨by decide, by decide⟩, _, _, rfl, rfl, .inl ⟨_, rfl, _, _, rfl, rfl, (show (0 : Int) < 1152921504606846883 by decide), ?_⟩⟩
      refine ⟨_, rfl, _, _, rfl, rfl, .inr ⟨by decide, by decide⟩, _, rfl, _, _, rfl, rfl, .inl ⟨_, rfl, _, _, rfl, rfl, (show (0 : Int) < 4611686018427387847 by decide), _, _, rfl, rfl, ⟨by decide, by decide⟩, .inl ⟨_, rfl, _, rfl, _, _, rfl, rfl, h0, ?_⟩⟩⟩
      exact hQ _ a b (c + 1) (Int.emod_nonneg _ (by omega)) (Int.emod_lt_of_pos _ h0)
/-! ### _law_filled -/
def spFilled (K : PySem.W.Frag) : Sp := fun vs H Q _ => ∃ (a : Addr) (i : Int) (ns : List Int), vs = [.ref a, .int i] ∧ SqL K H a (ns.map V.int) ∧ 0 ≤ i ∧ i < 1000 ∧ ∀ q H', H q = none → Same H H' → Pot H' q → Q (.ref q) H'
abbrev N_law_filled : List Str := ["_law_script", "_law_at", "_law_cell", "_law_whole", "_law_mixed"]
theorem sc_law_filled : FnScope N_law_filled ["_law_script", "_law_at"] (defScope (top 28)) := ⟨rfl, rfl, rfl, by decide +kernel, rfl, by decide +kernel, by decide +kernel⟩
theorem atI_int {ns : List Int} {i : Int} (h0 : 0 ≤ i) (h : i < (ns.map V.int).length) : ∃ x : Int, atI (ns.map V.int) i = some (.int x) := by
  obtain ⟨j, rfl⟩ : ∃ j : Nat, i = j := ⟨i.toNat, by omega⟩
  rw [List.length_map] at h
  have hj : j < ns.length := by omega
  exact ⟨ns[j], atI_nat (by rw [List.getElem?_map, List.getElem?_eq_getElem hj]; rfl)⟩
theorem c_law_filled (A : At K mg "_law_filled" (top 28)) (B : Blt mg) : Cal P w K mg base 1 "_law_filled" (spFilled K) := by
  refine cal_of A sc_law_filled (fun _ _ _ _ _ _ us hl => match us, hl with | [_, _], _ => rfl) (fun vs H Q E h => ?_) (fun _ cdv A outer s H vs Q E hr h => ?_)
  · obtain ⟨_, _, _, rfl, _⟩ := h; rfl
  · obtain ⟨a, i, ns, rfl, ha, h0, h1, hQ⟩ := h
    refine ⟨_, (pss_cons (ps_set (i := 2) sc_law_filled.nd rfl (Or.inl rfl) (pe_ifExp (pt_cmpR op_lt (pv 1) (pe_callB call_len_seq (by rfl) B.len (by decide +kernel) (pa_cons (pv 0) pa_nil)) (nomark _)) (pe_ix ix_list (pv 0) (pv 1) (fun _ _ => rfl)) (pe_op op_add (pe_op op_mul pe_int (pv 1)) pe_int)))
      (pss_cons (ps_set (i := 3) sc_law_filled.nd rfl (Or.inl rfl) (pe_op op_mod (pe_callTy call_int1 (by rfl) B.int (by decide +kernel) (pa_cons (pe_callB call_abs (by rfl) B.abs (by decide +kernel) (pa_cons (pv 2) pa_nil)) pa_nil)) (pe_op op_powB (pe_op op_powB pe_int pe_int) pe_int)))
      (pss_cons (ps_set (i := 4) sc_law_filled.nd rfl (Or.inl rfl) (pe_op op_mod (pe_callTy call_int1 (by rfl) B.int (by decide +kernel) (pa_cons (pe_op op_add (pe_op op_add (pe_op op_add (pv 3) (pe_op op_mul pe_int (pv 1))) (pe_op op_mul pe_int (pe_callTy call_int1 (by rfl) B.int (by decide +kernel) (pa_cons (pe_cmpR op_lt (pv 2) pe_int (nomark _)) pa_nil)))) pe_int) pa_nil)) pe_int))
      (pss_one (ps_ret (pe_lst (pa_cons (pe_callB (call_max2 rfl) (by rfl) B.max (by decide +kernel) (pa_cons pe_int (pa_cons (pe_op op_sub (pv 3) (pe_op op_powB pe_int pe_int)) pa_nil))) (pa_cons (pv 4) (pa_cons pe_int pa_nil))))))))), ?_⟩
    refine ⟨_, rfl, _, rfl, a, _, rfl, .inl ha, _, _, rfl, rfl, _, rfl, ?_⟩
    refine ite2 (fun hc => ?_) (fun hc => ?_)
    · obtain ⟨x, hx⟩ := atI_int h0 (of_decide_eq_true hc)
      refine ⟨_, rfl, _, rfl, a, _, _, _, rfl, rfl, ha, hx, ?_⟩
      refine ⟨_, rfl, _, rfl, .inl ⟨_, rfl, _, _, rfl, rfl, ⟨by decide, by decide +kernel⟩, _, _, rfl, rfl, ⟨by decide, by decide +kernel⟩, _, _, rfl, rfl, ?_, ?_⟩⟩
      · show (0 : Int) < (10 ^ 60) ^ 10
        decide
      refine ⟨_, rfl, _, rfl, _, _, rfl, rfl, .inl ⟨by decide, by decide⟩, _, _, rfl, rfl, _, rfl, _, _, rfl, rfl, .inr ⟨_, rfl, _, _, rfl, rfl, .inl ⟨by decide, by decide⟩, _, _, rfl, rfl, _, _, rfl, rfl, .inl ⟨_, rfl, _, _, rfl, rfl, (show (0 : Int) < 2305843009213693921 by decide), ?_⟩⟩⟩
      refine ⟨_, rfl, _, _, rfl, rfl, ⟨by decide, by decide +kernel⟩, _, _, rfl, rfl, _, _, rfl, _, rfl, (by show 3 ≤ sizeLine; decide), fun q hq => ?_⟩
      exact hQ q _ hq (same_new hq) ⟨_, _, _, upd_same⟩
    · refine ⟨_, rfl, _, _, rfl, rfl, .inl ⟨by decide, by decide⟩, _, _, rfl, rfl, ?_⟩
      refine ⟨_, rfl, _, rfl, .inl ⟨_, rfl, _, _, rfl, rfl, ⟨by decide, by decide +kernel⟩, _, _, rfl, rfl, ⟨by decide, by decide +kernel⟩, _, _, rfl, rfl, ?_, ?_⟩⟩
      · show (0 : Int) < (10 ^ 60) ^ 10
        decide
      refine ⟨_, rfl, _, rfl, _, _, rfl, rfl, .inl ⟨by decide, by decide⟩, _, _, rfl, rfl, _, rfl, _, _, rfl, rfl, .inr ⟨_, rfl, _, _, rfl, rfl, .inl ⟨by decide, by decide⟩, _, _, rfl, rfl, _, _, rfl, rfl, .inl ⟨_, rfl, _, _, rfl, rfl, (show (0 : Int) < 2305843009213693921 by decide), ?_⟩⟩⟩
      refine ⟨_, rfl, _, _, rfl, rfl, ⟨by decide, by decide +kernel⟩, _, _, rfl, rfl, _, _, rfl, _, rfl, (by show 3 ≤ sizeLine; decide), fun q hq => ?_⟩
      exact hQ q _ hq (same_new hq) ⟨_, _, _, upd_same⟩
/-! ### _law_choose -/
def spChoose (K : PySem.W.Frag) : Sp := fun vs H Q _ => ∃ p x, vs = [.ref p, x] ∧ Pot H p ∧ ((∃ z : Str, x = .str z ∧ 0 < z.length ∧ z.length < 100000 ∧ ∀ c a' b' c', c ∈ z.cps.toList → Q (.str ⟨#[c]⟩) (upd H p (potO a' b' c'))) ∨
  (∃ l xs, x = .ref l ∧ l ≠ p ∧ SqL K H l xs ∧ 0 < xs.length ∧ xs.length < 100000 ∧ ∀ v a' b' c', v ∈ xs → Q v (upd H p (potO a' b' c'))))
abbrev N_law_choose : List Str := ["_law_pot", "_law_items"]
theorem sc_law_choose : FnScope N_law_choose ["_law_pot", "_law_items"] (defScope (top 30)) := ⟨rfl, rfl, rfl, by decide +kernel, rfl, by decide +kernel, by decide +kernel⟩
theorem atI_some {α : Type} {xs : List α} {r : Int} (h0 : 0 ≤ r) (h1 : r < (xs.length : Int)) : ∃ v, v ∈ xs ∧ xs[r.toNat]? = some v ∧ atI xs r = some v := by
  obtain ⟨j, rfl⟩ : ∃ j : Nat, r = j := ⟨r.toNat, by omega⟩
  have hj : j < xs.length := by omega
  exact ⟨xs[j], List.getElem_mem hj, by simp [hj], atI_nat (List.getElem?_eq_getElem hj)⟩
theorem c_law_choose (A : At K mg "_law_choose" (top 30)) (B : Blt mg) (c_law_dip : Cal P w K mg base 1 "_law_dip" spDip) : Cal P w K mg base 2 "_law_choose" (spChoose K) := by
  refine cal_of A sc_law_choose (fun _ _ _ _ _ _ us hl => match us, hl with | [_, _], _ => rfl) (fun vs H Q E h => ?_) (fun _ cdv A outer s H vs Q E hr h => ?_)
  · obtain ⟨_, _, rfl, _⟩ := h; rfl
  · obtain ⟨p, x, rfl, ⟨a, b, c, hp⟩, hx⟩ := h
    refine ⟨_, (pss_one (ps_ret (pe_ix ix_seq (pv 1) (pe_c c_law_dip hr (by decide) (by rfl) (pa_cons (pv 0) (pa_cons (pe_callB call_len (by rfl) B.len (by decide +kernel) (pa_cons (pv 1) pa_nil)) pa_nil))) (fun _ _ => rfl)))), ?_⟩
    rcases hx with ⟨z, rfl, h0, h1, hQ⟩ | ⟨l, xs, rfl, hne, hl, h0, h1, hQ⟩
    · refine ⟨_, rfl, _, rfl, _, rfl, _, z.length, rfl, ⟨Nat.le_trans (Nat.le_of_lt h1) (by decide), rfl⟩, p, _, a, b, c, rfl, hp, by omega, by omega, fun r a' b' c' r0 r1 => ?_⟩
      have hz : (z.cps.toList.length : Int) = z.length := by simp [Str.length]
      obtain ⟨v, hv, _, hat⟩ := atI_some (xs := z.cps.toList) r0 (by omega)
      exact .inr (.inr ⟨z, r, v, rfl, rfl, Nat.le_trans (Nat.le_of_lt h1) (by decide), hat, hQ v a' b' c' hv⟩)
    · refine ⟨_, rfl, _, rfl, _, rfl, _, xs.length, rfl, .inl ⟨xs, hl, rfl⟩, p, _, a, b, c, rfl, hp, by omega, by omega, fun r a' b' c' r0 r1 => ?_⟩
      obtain ⟨v, hv, _, hat⟩ := atI_some (xs := xs) r0 r1
      refine .inl ⟨l, xs, r, v, rfl, rfl, ?_, hat, hQ v a' b' c' hv⟩
      exact (Ex.turn (H := H) (p := p)).seqL hl hne
/-! ### _law_shuffled, of a list -/
theorem perm_erase {α : Type} : ∀ {xs : List α} {k : Nat} {y : α}, xs[k]? = some y → (y :: xs.eraseIdx k).Perm xs
  | x :: xs, 0, y, h => by
    cases (show some x = some y from h)
    exact List.Perm.refl _
  | x :: xs, k + 1, y, h => by
    have ih := perm_erase (xs := xs) (k := k) (y := y) (by simpa using h)
    exact (List.Perm.swap x y _).trans (ih.cons x)
def spShuf (K : PySem.W.Frag) : Sp := fun vs H Q _ => ∃ p l xs, vs = [.ref p, .ref l] ∧ Pot H p ∧ l ≠ p ∧ SqL K H l xs ∧ xs.length < 100000 ∧ ∀ ys q H', ys.Perm xs → H q = none → Ex p H H' → H' q = some (.lst ys) → Q (.ref q) H'
abbrev N_law_shuffled : List Str := ["_law_pot", "_law_items", "_law_left", "_law_turn"]
theorem sc_law_shuffled : FnScope N_law_shuffled ["_law_pot", "_law_items"] (defScope (top 31)) := ⟨rfl, rfl, rfl, by decide +kernel, rfl, by decide +kernel, by decide +kernel⟩
theorem seqIx {r : Int} {n : Nat} (h0 : 0 ≤ r) (h1 : r < n) : seqIndex? r n = some r.toNat := by
  unfold seqIndex?
  simp [show ¬ r < 0 by omega, h0, h1]
theorem c_law_shuffled (A : At K mg "_law_shuffled" (top 31)) (B : Blt mg) (c_law_dip : Cal P w K mg base 1 "_law_dip" spDip) : Cal P w K mg base 2 "_law_shuffled" (spShuf K) := by
  refine cal_of A sc_law_shuffled (fun _ _ _ _ _ _ us hl => match us, hl with | [_, _], _ => rfl) (fun vs H Q E h => ?_) (fun _ cdv A outer s H vs Q E hr h => ?_)
  · obtain ⟨_, _, _, rfl, _⟩ := h; rfl
  · obtain ⟨p, l, xs, rfl, hp, hne, hl, hlen, hQ⟩ := h
    refine ⟨_, (pss_cons (ps_set (i := 2) sc_law_shuffled.nd rfl (Or.inr rfl) (pe_callTy call_list_of (by rfl) B.list (by decide +kernel) (pa_cons (pv 1) pa_nil)))
      (pss_one (ps_ret (pe_lc (own := [("_law_turn", 3)]) (g := gName 3) (tt := tYes) (by rfl) sc_law_shuffled.nd (pi_range1 (by rfl) B.range (pa_cons (pe_callB call_len_seq (by rfl) B.len (by decide +kernel) (pa_cons (pv 1) pa_nil)) pa_nil))
        (blkOk_by (own := [("_law_turn", 3)]) (N := N_law_shuffled) (sc := defScope (top 31)) (by decide +kernel)) (fun _ _ _ _ _ => (pg_name (i := 3) sc_law_shuffled.nd rfl (Or.inl rfl))) (fun _ _ _ _ _ => pts_nil)
        (fun _ _ _ _ _ => (pe_popAt K rfl (pv 2) (pe_c c_law_dip hr (by decide) (by rfl) (pa_cons (pv 0) (pa_cons (pe_callB (lenK (K := K) rfl) (by rfl) B.len (by decide +kernel) (pa_cons (pv 2) pa_nil)) pa_nil))))))))), ?_⟩
    refine ⟨_, rfl, l, xs, rfl, .inl hl, fun m hm => ?_⟩
    have hlm : SqL K (upd H m (.lst xs)) l xs := seqL_upd hl hm
    refine ⟨_, rfl, l, xs, rfl, .inl hlm, _, rfl, by omega, by omega, fun D hD => ?_⟩
    have hmp : m ≠ p := by
      obtain ⟨a, b, c, e⟩ := hp
      exact (ne_of_none e hm).symm
    have hDm : D ≠ m := fun z => by rw [z, upd_same] at hD; cases hD
    have hD0 : H D = none := by rw [upd_ne hDm] at hD; exact hD
    have hDp : D ≠ p := by
      obtain ⟨a, b, c, e⟩ := hp
      exact (ne_of_none e hD0).symm
    refine lc_it (walk_range (lo := 0)) (fun i H' => Ex p H H' ∧ ∃ made left : List V, (made ++ left).Perm xs ∧ left.length + i = xs.length ∧ H' D = some (.lst made) ∧ H' m = some (.lst left)) ?_ (fun _ _ _ _ => trivial) (fun i x H1 H2 hi e y => ?_) (fun H1 e => ?_)
    · refine ⟨((Ex.refl hp).put hm hmp).put hD0 hDp, [], xs, List.Perm.refl _, by simp, upd_same, ?_⟩
      rw [upd_ne hDm.symm, upd_same]
    · obtain ⟨rfl, rfl⟩ := y
      obtain ⟨ex, made, left, hperm, hll, hD1, hm1⟩ := e
      have hi' : i < xs.length := by simpa using hi
      obtain ⟨a, b, c, hp1⟩ := ex.pot
      have hlen2 : made.length ≤ xs.length := by
        have := hperm.length_eq
        rw [List.length_append] at this
        omega
      refine ⟨rfl, yes_q (iteT ?_)⟩
      refine ⟨_, rfl, .inl ⟨rfl, _, SqL.of hm1⟩, _, rfl, _, rfl, m, left, rfl, .inl (SqL.of hm1), p, _, a, b, c, rfl, hp1, by omega, by omega, fun r a' b' c' r0 r1 => ?_⟩
      obtain ⟨y, hy, hy2, _⟩ := atI_some (xs := left) r0 r1
      have ex2 : Ex p H (upd _ p (potO a' b' c')) := ex.trans Ex.turn
      refine ⟨m, left, r, r.toNat, y, rfl, rfl, by rw [upd_ne hmp]; exact hm1, by omega, by omega, seqIx r0 r1, hy2, made, ?_, ?_, ?_⟩
      · rw [upd_ne hDm, upd_ne hDp]; exact hD1
      · have : 100000 < sizeLine := by decide
        omega
      · refine ⟨(ex2.put hm hmp).put hD0 hDp, made ++ [y], left.eraseIdx r.toNat, ?_, ?_, upd_same, ?_⟩
        · rw [List.append_assoc]
          exact (List.Perm.append_left made (perm_erase hy2)).trans hperm
        · rw [List.length_eraseIdx, if_pos (by omega)]
          omega
        · rw [upd_ne hDm.symm, upd_same]
    · obtain ⟨ex, made, left, hperm, hll, hD1, hm1⟩ := e
      have : left = [] := List.eq_nil_of_length_eq_zero (by omega)
      subst this
      rw [List.append_nil] at hperm
      exact hQ made D H1 hperm hD0 ex hD1
theorem join_signs (cs : List Nat) : (Txt.join "" (cs.map fun c => (⟨#[c]⟩ : Str))).cps.toList = cs := by
  rw [TL.join_eq]
  show TL.tl (Str.join "" (cs.map fun c => (⟨#[c]⟩ : Str))) = cs
  rw [TL.tl_join, List.map_map]
  have h : ∀ cs : List Nat, TL.joinL [] (cs.map (TL.tl ∘ fun c => (⟨#[c]⟩ : Str))) = cs := by
    intro cs
    induction cs with
    | nil => rfl
    | cons c cs ih =>
      cases cs with
      | nil => rfl
      | cons d r =>
        show [c] ++ ([] ++ TL.joinL [] ((d :: r).map (TL.tl ∘ fun c => (⟨#[c]⟩ : Str)))) = c :: d :: r
        rw [ih]; rfl
  exact h cs
/-! ### _law_word -/
def spLWord : Sp := fun vs H Q _ => ∃ p n, vs = [.ref p, .int n] ∧ Pot H p ∧ 0 ≤ n ∧ n < 1000 ∧ ∀ z H', isWordS z = true → (z.length : Int) ≤ n → Ex p H H' → Q (.str z) H'
abbrev N_law_word : List Str := ["_law_pot", "_law_most", "_law_turn"]
theorem sc_law_word : FnScope N_law_word ["_law_pot", "_law_most"] (defScope (top 32)) := ⟨rfl, rfl, rfl, by decide +kernel, rfl, by decide +kernel, by decide +kernel⟩
theorem c_law_word (A : At K mg "_law_word" (top 32)) (B : Blt mg) (c_law_dip : Cal P w K mg base 1 "_law_dip" spDip) (c_law_choose : Cal P w K mg base 2 "_law_choose" (spChoose K)) : Cal P w K mg base 3 "_law_word" spLWord := by
  refine cal_of A sc_law_word (fun _ _ _ _ _ _ us hl => match us, hl with | [_, _], _ => rfl) (fun vs H Q E h => ?_) (fun _ cdv A outer s H vs Q E hr h => ?_)
  · obtain ⟨_, _, rfl, _⟩ := h; rfl
  · obtain ⟨p, n, rfl, ⟨a, b, c, hp⟩, h0, h1, hQ⟩ := h
    refine ⟨_, (pss_one (ps_ret (pe_join pe_str (pe_lc (own := [("_law_turn", 2)]) (g := gName 2) (tt := tYes) (by rfl) sc_law_word.nd (pi_range1 (by rfl) B.range (pa_cons (pe_c c_law_dip hr (by decide) (by rfl) (pa_cons (pv 0) (pa_cons (pe_op op_add (pv 1) pe_int) pa_nil))) pa_nil))
      (blkOk_by (own := [("_law_turn", 2)]) (N := N_law_word) (sc := defScope (top 32)) (by decide +kernel)) (fun _ _ _ _ _ => (pg_name (i := 2) sc_law_word.nd rfl (Or.inl rfl))) (fun _ _ _ _ _ => pts_nil)
      (fun _ _ _ _ _ => (pe_c c_law_choose hr (by decide) (by rfl) (pa_cons (pv 0) (pa_cons pe_str pa_nil)))))))), ?_⟩
    refine ⟨⟨_, rfl⟩, _, rfl, _, rfl, _, _, rfl, rfl, p, _, a, b, c, rfl, hp, by omega, by omega, fun r a1 b1 c1 r0 r1 => ?_⟩
    refine ⟨_, rfl, by omega, by omega, fun D hD => ?_⟩
    have hDp : D ≠ p := fun z => by rw [z, upd_same] at hD; cases hD
    have hD0 : H D = none := by rw [upd_ne hDp] at hD; exact hD
    refine lc_it (walk_range (lo := 0)) (fun i H' => Ex p H H' ∧ ∃ cs : List Nat, cs.length = i ∧ cs.all sgn = true ∧ H' D = some (.lst (cs.map fun c => V.str ⟨#[c]⟩))) ?_ (fun _ _ _ _ => trivial) (fun i x H1 H2 hi e y => ?_) (fun H1 e => ?_)
    · exact ⟨Ex.turn.new hD, [], rfl, rfl, upd_same⟩
    · obtain ⟨rfl, rfl⟩ := y
      obtain ⟨ex, cs, hl, hw, hD1⟩ := e
      refine ⟨rfl, yes_q (iteT ?_)⟩
      refine ⟨_, rfl, p, _, rfl, ex.pot, .inl ⟨_, rfl, by decide, by decide, fun c a' b' c' hc => ?_⟩⟩
      refine ⟨_, by rw [upd_ne hDp]; exact hD1, ?_, ?_⟩
      · rw [List.length_map]
        have : 1001 < sizeLine := by decide
        have hi' : (i : Int) < r := by omega
        omega
      · refine ⟨(ex.trans Ex.turn).put hD0 hDp, cs ++ [c], by simp [hl], ?_, by rw [upd_same]; simp⟩
        rw [List.all_append, hw]
        simpa [sgn] using hc
    · obtain ⟨ex, cs, hl, hw, hD1⟩ := e
      have hle : cs.length ≤ 1000 := by omega
      refine ⟨_, D, cs.map fun c => (⟨#[c]⟩ : Str), rfl, rfl, .inl (SqL.of (by rw [hD1, List.map_map]; rfl)), ?_, ?_⟩
      · have e1 : ((cs.map fun c => (⟨#[c]⟩ : Str)).map (·.length)).sum = cs.length := by
          clear hw hD1 hl hle
          induction cs with
          | nil => rfl
          | cons c cs ih => simp [List.sum_cons, Str.length] at ih ⊢; omega
        rw [e1, List.length_map]
        show cs.length + cs.length * 0 ≤ 16777216
        omega
      · have e := join_signs cs
        refine hQ _ _ ?_ ?_ ex
        · unfold isWordS
          rw [e]; exact hw
        · have e2 := congrArg List.length e
          rw [Array.length_toList] at e2
          show ((Txt.join "" (cs.map fun c => (⟨#[c]⟩ : Str))).cps.size : Int) ≤ n
          rw [e2]; omega
end
end MN
/-! k00: the law's own judges -/
namespace MN
open PySem PySem.Spec PyProof.Rows L2
theorem sgn_cases {c : Nat} (h : sgn c = true) : c = 97 ∨ c = 98 ∨ c = 99 ∨ c = 100 ∨ c = 101 := by
  have h1 : c ∈ ("abcde" : Str).cps.toList := of_decide_eq_true h
  have h2 : ("abcde" : Str).cps.toList = [97, 98, 99, 100, 101] := by decide +kernel
  rw [h2] at h1
  simpa using h1
theorem sgn_iff {c : Nat} : sgn c = true ↔ c = 97 ∨ c = 98 ∨ c = 99 ∨ c = 100 ∨ c = 101 := ⟨sgn_cases, by rintro (rfl | rfl | rfl | rfl | rfl) <;> decide +kernel⟩
theorem ne_sign {c d : Nat} {x : Str} (hx : x = ⟨#[d]⟩) : (!decide (V.str ⟨#[c]⟩ = V.str x)) = !decide (c = d) := by
  subst hx
  congr 1
  by_cases h : c = d
  · subst h; simp
  · rw [decide_eq_false h]
    exact decide_eq_false fun q => h (by injection q with q; injection q with q; simpa using q)
section
variable {P : Program} {w : World} {K : PySem.W.Frag} {mg : Str → Option Value} {base : Heap}
def spLIsWord (K : PySem.W.Frag) : Sp := fun vs H Q _ => ∃ v, vs = [v] ∧ ValOk K H v ∧ Q (.bl (isWord v)) H
abbrev N_law_is_word : List Str := ["_law_value_here", "_law_char"]
theorem sc_law_is_word : FnScope N_law_is_word ["_law_value_here"] (defScope (top 34)) := ⟨rfl, rfl, rfl, by decide +kernel, rfl, by decide +kernel, by decide +kernel⟩
theorem c_law_is_word (A : At K mg "_law_is_word" (top 34)) (B : Blt mg) : Cal P w K mg base 1 "_law_is_word" (spLIsWord K) := by
  refine cal_of A sc_law_is_word (fun _ _ _ _ _ _ us hl => match us, hl with | [_], _ => rfl) (fun vs H Q E h => ?_) (fun _ cdv A outer s H vs Q E hr h => ?_)
  · obtain ⟨_, rfl, _⟩ := h; rfl
  · obtain ⟨v, rfl, hv, hQ⟩ := h
    refine ⟨_, (pss_cons (ps_if (pt_not (pt_val (pe_callB call_isS (by rfl) B.isinstance (by decide +kernel) (pa_cons (pv 0) (pa_cons (pe_bltn (v := .ty "str") (by rfl) B.str (by decide +kernel) rfl) pa_nil)))))
      (pss_one (ps_ret pe_bl))
      pss_nil)
      (pss_cons (ps_for PassesOwn.never rfl (pi_str (pv 0)) (pg_name (i := 1) sc_law_is_word.nd rfl (Or.inl rfl))
        (pss_one (ps_if (PW.pt (pw_and (pt_cmpR op_ne (pv 1) pe_str (nomark _)) (pw_and (pt_cmpR op_ne (pv 1) pe_str (nomark _)) (pw_and (pt_cmpR op_ne (pv 1) pe_str (nomark _)) (pw_and (pt_cmpR op_ne (pv 1) pe_str (nomark _)) (pw_and1 (pt_cmpR op_ne (pv 1) pe_str (nomark _))))))))
          (pss_one (ps_ret pe_bl))
          pss_nil)))
      (pss_one (ps_ret pe_bl)))), ?_⟩
    rcases hv with ⟨z, rfl, hz⟩ | ⟨hn, hk⟩
    · refine ⟨_, rfl, .str z, "str", true, rfl, .str, true, rfl, iteF ?_⟩
      refine ⟨_, rfl, z, rfl, for_it walk_str (fun i σ H' => H' = H ∧ (z.cps.toList.take i).all sgn = true ∧ ∃ o, σ = [some (.str z), o]) ⟨rfl, by simp, _, rfl⟩ (fun _ _ _ _ _ => trivial) (fun i x σ H1 H2 hi e y => ?_) (fun σ H' e => ?_)⟩
      · obtain ⟨rfl, c, hc, rfl⟩ := y
        obtain ⟨rfl, hall, o, rfl⟩ := e
        have hc2 : z.cps.toList[i]? = some c := by simpa using hc
        have tk : z.cps.toList.take (i + 1) = z.cps.toList.take i ++ [c] := by rw [List.take_add_one, hc2]; rfl
        have step : sgn c = true → (z.cps.toList.take (i + 1)).all sgn = true := fun h => by rw [tk, List.all_append, hall]; simpa using h
        refine ⟨_, rfl, rfl, _, rfl, ?_⟩
        rw [ne_sign (d := 97) (by decide +kernel)]
        by_cases h1 : c = 97
        · rw [decide_eq_true h1]
          exact iteF (iteF ⟨rfl, step (sgn_iff.mpr (.inl h1)), _, rfl⟩)
        rw [decide_eq_false h1]
        refine iteT ⟨_, rfl, rfl, _, rfl, ?_⟩
        rw [ne_sign (d := 98) (by decide +kernel)]
        by_cases h2 : c = 98
        · rw [decide_eq_true h2]
          exact iteF (iteF ⟨rfl, step (sgn_iff.mpr (.inr (.inl h2))), _, rfl⟩)
        rw [decide_eq_false h2]
        refine iteT ⟨_, rfl, rfl, _, rfl, ?_⟩
        rw [ne_sign (d := 99) (by decide +kernel)]
        by_cases h3 : c = 99
        · rw [decide_eq_true h3]
          exact iteF (iteF ⟨rfl, step (sgn_iff.mpr (.inr (.inr (.inl h3)))), _, rfl⟩)
        rw [decide_eq_false h3]
        refine iteT ⟨_, rfl, rfl, _, rfl, ?_⟩
        rw [ne_sign (d := 100) (by decide +kernel)]
        by_cases h4 : c = 100
        · rw [decide_eq_true h4]
          exact iteF (iteF ⟨rfl, step (sgn_iff.mpr (.inr (.inr (.inr (.inl h4))))), _, rfl⟩)
        rw [decide_eq_false h4]
        refine iteT ⟨_, rfl, rfl, _, rfl, ?_⟩
        rw [ne_sign (d := 101) (by decide +kernel)]
        by_cases h5 : c = 101
        · rw [decide_eq_true h5]
          exact iteF ⟨rfl, step (sgn_iff.mpr (.inr (.inr (.inr (.inr h5))))), _, rfl⟩
        rw [decide_eq_false h5]
        refine iteT ?_
        have e : isWord (.str z) = false := by
          show z.cps.toList.all sgn = false
          rw [List.all_eq_false]
          refine ⟨c, List.mem_of_getElem? hc2, fun q => ?_⟩
          rcases sgn_cases q with q | q | q | q | q <;> contradiction
        rw [e] at hQ
        exact hQ
      · obtain ⟨rfl, hall, o, rfl⟩ := e
        have e : isWord (.str z) = true := by
          show z.cps.toList.all sgn = true
          have : z.cps.toList.take z.cps.size = z.cps.toList := List.take_of_length_le (by simp)
          rw [this] at hall
          exact hall
        rw [e] at hQ
        exact hQ
    · refine ⟨_, rfl, v, "str", false, rfl, hk, false, rfl, iteT ?_⟩
      rw [isWord_no hn] at hQ
      exact hQ
/-! ### _law_is_ahead, asked of two that ascend -/
theorem find_sign {c : Nat} (h : sgn c = true) : Txt.find "abcde" ⟨#[c]⟩ = (c : Int) - 97 := by
  rcases sgn_cases h with rfl | rfl | rfl | rfl | rfl <;> decide +kernel
theorem lex_at : ∀ {xs ys : List Nat} {i : Nat} {x y : Nat}, xs < ys → xs.take i = ys.take i → xs[i]? = some x → ys[i]? = some y → x ≠ y → x < y
  | x' :: xs, y' :: ys, 0, x, y, h, _, h1, h2, hne => by
    cases (show some x' = some x from h1)
    cases (show some y' = some y from h2)
    rcases List.cons_lt_cons_iff.mp h with q | q
    · exact q
    · exact absurd q.1 hne
  | x' :: xs, y' :: ys, i + 1, x, y, h, ht, h1, h2, hne => by
    rw [List.take_succ_cons, List.take_succ_cons] at ht
    injection ht with e1 e2
    subst e1
    rcases List.cons_lt_cons_iff.mp h with q | q
    · exact absurd q (Nat.lt_irrefl _)
    · exact lex_at q.2 e2 (by simpa using h1) (by simpa using h2) hne
def spAhead : Sp := fun vs H Q _ => ∃ a b, vs = [.str a, .str b] ∧ ahead a b ∧ isWordS a = true ∧ isWordS b = true ∧ a.length ≤ 100000 ∧ b.length ≤ 100000 ∧ Q (.bl true) H
abbrev N_law_is_ahead : List Str := ["_law_one", "_law_other", "_law_at"]
theorem sc_law_is_ahead : FnScope N_law_is_ahead ["_law_one", "_law_other"] (defScope (top 35)) := ⟨rfl, rfl, rfl, by decide +kernel, rfl, by decide +kernel, by decide +kernel⟩
theorem c_law_is_ahead (A : At K mg "_law_is_ahead" (top 35)) (B : Blt mg) : Cal P w K mg base 1 "_law_is_ahead" spAhead := by
  refine cal_of A sc_law_is_ahead (fun _ _ _ _ _ _ us hl => match us, hl with | [_, _], _ => rfl) (fun vs H Q E h => ?_) (fun _ cdv A outer s H vs Q E hr h => ?_)
  · obtain ⟨_, _, rfl, _⟩ := h; rfl
  · obtain ⟨a, b, rfl, hab, wa, wb, la, lb, hQ⟩ := h
    refine ⟨_, (pss_cons (ps_if (pt_cmpR op_ne (pe_callB call_len_str (by rfl) B.len (by decide +kernel) (pa_cons (pv 0) pa_nil)) (pe_callB call_len_str (by rfl) B.len (by decide +kernel) (pa_cons (pv 1) pa_nil)) (nomark _))
      (pss_one (ps_ret (pe_cmpR op_lt (pe_callB call_len_str (by rfl) B.len (by decide +kernel) (pa_cons (pv 0) pa_nil)) (pe_callB call_len_str (by rfl) B.len (by decide +kernel) (pa_cons (pv 1) pa_nil)) (nomark _))))
      pss_nil)
      (pss_cons (ps_for PassesOwn.never rfl (pi_range1 (by rfl) B.range (pa_cons (pe_callB call_len_str (by rfl) B.len (by decide +kernel) (pa_cons (pv 0) pa_nil)) pa_nil)) (pg_name (i := 2) sc_law_is_ahead.nd rfl (Or.inl rfl))
        (pss_one (ps_if (pt_cmpR op_ne (pe_ix ix_str (pv 0) (pv 2) (fun _ _ => rfl)) (pe_ix ix_str (pv 1) (pv 2) (fun _ _ => rfl)) (nomark _))
          (pss_one (ps_ret (pe_cmpR op_lt (pe_m1 PySem.F.slot_str_find PySem.F.type_str_find mt_find pe_str (pe_ix ix_str (pv 0) (pv 2) (fun _ _ => rfl))) (pe_m1 PySem.F.slot_str_find PySem.F.type_str_find mt_find pe_str (pe_ix ix_str (pv 1) (pv 2) (fun _ _ => rfl))) (nomark _))))
          pss_nil)))
      (pss_one (ps_ret pe_bl)))), ?_⟩
    have za : a.length ≤ sizeLine := Nat.le_trans la (by decide)
    have zb : b.length ≤ sizeLine := Nat.le_trans lb (by decide)
    refine ⟨_, rfl, _, rfl, za, _, rfl, _, rfl, zb, rfl, _, rfl, ?_⟩
    by_cases hl : a.length = b.length
    · have e0 : (!decide (V.int (a.length : Int) = V.int (b.length : Int))) = false := by rw [hl]; simp
      rw [e0]
      refine iteF ?_
      have hlt : a.cps.toList < b.cps.toList := by
        rcases hab with q | q
        · omega
        · exact q.2
      refine ⟨_, rfl, _, rfl, za, _, rfl, by omega, by omega, for_it (walk_range (lo := 0)) (fun i σ H' => H' = H ∧ a.cps.toList.take i = b.cps.toList.take i ∧ ∃ o, σ = [some (.str a), some (.str b), o]) ⟨rfl, by simp, _, rfl⟩ (fun _ _ _ _ _ => trivial) (fun i x σ H1 H2 hi e y => ?_) (fun σ H' e => ?_)⟩
      · obtain ⟨rfl, rfl⟩ := y
        obtain ⟨rfl, htk, o, rfl⟩ := e
        have hi1 : i < a.cps.toList.length := by simp [Str.length] at hi ⊢; omega
        have hi2 : i < b.cps.toList.length := by simp [Str.length] at hl hi ⊢; omega
        have ha : a.cps.toList[i]? = some a.cps.toList[i] := List.getElem?_eq_getElem hi1
        have hb : b.cps.toList[i]? = some b.cps.toList[i] := List.getElem?_eq_getElem hi2
        have ja : atI a.cps.toList ((0 : Int) + (i : Int)) = some a.cps.toList[i] := by rw [Int.zero_add]; exact atI_nat ha
        have jb : atI b.cps.toList ((0 : Int) + (i : Int)) = some b.cps.toList[i] := by rw [Int.zero_add]; exact atI_nat hb
        refine ⟨_, rfl, _, rfl, _, _, _, rfl, rfl, za, ja, _, rfl, _, rfl, _, _, _, rfl, rfl, zb, jb, rfl, _, rfl, ?_⟩
        by_cases hc : a.cps.toList[i] = b.cps.toList[i]
        · have e1 : (!decide (V.str ⟨#[a.cps.toList[i]]⟩ = V.str ⟨#[b.cps.toList[i]]⟩)) = false := by rw [hc]; simp
          rw [e1]
          refine iteF ⟨rfl, ?_, _, rfl⟩
          rw [List.take_add_one, List.take_add_one, htk, ha, hb, hc]
        · have e1 : (!decide (V.str ⟨#[a.cps.toList[i]]⟩ = V.str ⟨#[b.cps.toList[i]]⟩)) = true := by
            rw [ne_sign (d := b.cps.toList[i]) rfl, decide_eq_false hc]; rfl
          rw [e1]
          refine iteT ⟨⟨_, rfl⟩, _, rfl, _, rfl, _, _, _, rfl, rfl, za, ja, _, _, rfl, rfl, ⟨_, rfl⟩, _, rfl, _, rfl, _, _, _, rfl, rfl, zb, jb, _, _, rfl, rfl, _, _, rfl, rfl, ?_⟩
          have sa : sgn a.cps.toList[i] = true := List.all_eq_true.mp wa _ (List.getElem_mem hi1)
          have sb : sgn b.cps.toList[i] = true := List.all_eq_true.mp wb _ (List.getElem_mem hi2)
          have hlt2 := lex_at hlt htk ha hb hc
          have e2 : decide (Txt.find "abcde" ⟨#[a.cps.toList[i]]⟩ < Txt.find "abcde" ⟨#[b.cps.toList[i]]⟩) = true := by
            rw [find_sign sa, find_sign sb]
            exact decide_eq_true (by omega)
          show Q (.bl (decide (Txt.find "abcde" ⟨#[a.cps.toList[i]]⟩ < Txt.find "abcde" ⟨#[b.cps.toList[i]]⟩))) _
          rw [e2]
          exact hQ
      · obtain ⟨rfl, htk, o, rfl⟩ := e
        have e1 : a.cps.toList.take ((a.length : Int)).toNat = a.cps.toList := List.take_of_length_le (by simp [Str.length])
        have e2 : b.cps.toList.take ((a.length : Int)).toNat = b.cps.toList := List.take_of_length_le (by simp [Str.length] at hl ⊢; omega)
        rw [e1, e2] at htk
        rw [htk] at hlt
        exact absurd hlt (List.lt_irrefl _)
    · have e0 : (!decide (V.int (a.length : Int) = V.int (b.length : Int))) = true := by
        rw [decide_eq_false fun q => hl (by injection q with q; omega)]; rfl
      rw [e0]
      have hlt : a.length < b.length := by
        rcases hab with q | q
        · exact q
        · exact absurd q.1 hl
      refine iteT ⟨_, rfl, _, rfl, za, _, rfl, _, rfl, zb, _, _, rfl, rfl, ?_⟩
      have e1 : decide ((a.length : Int) < b.length) = true := decide_eq_true (by omega)
      show Q (.bl (decide ((a.length : Int) < b.length))) _
      rw [e1]
      exact hQ
end
end MN
/-! lists and tuples of texts and truths as data -/
namespace MN
open PySem PySem.Spec PyProof.Rows L2
section
variable {K : PySem.W.Frag} {H : Hp}
theorem dp_strs : ∀ zs : List Str, DpAll K H (zs.map V.str) (zs.map PyData.str)
  | [] => .nil
  | z :: zs => .cons (.str z) (dp_strs zs)
theorem dp_bls : ∀ bs : List Bool, DpAll K H (bs.map V.bl) (bs.map PyData.bool)
  | [] => .nil
  | b :: bs => .cons (.bl b) (dp_bls bs)
theorem dpT {t : Addr} {zs : List Str} (h : SqT K H t (zs.map V.str)) : Dp K H (.ref t) (.tuple (zs.map PyData.str)) := .tup h (dp_strs zs)
theorem dpL {t : Addr} {zs : List Str} (h : SqL K H t (zs.map V.str)) : Dp K H (.ref t) (.list (zs.map PyData.str)) := .lst h (dp_strs zs)
theorem dpB {t : Addr} {bs : List Bool} (h : SqL K H t (bs.map V.bl)) : Dp K H (.ref t) (.list (bs.map PyData.bool)) := .lst h (dp_bls bs)
theorem layAll (zs : List PyData) (h : ∀ d ∈ zs, d.canLay0 = true) : PyData.canLayAll0 zs = true := by
  induction zs with
  | nil => rfl
  | cons z zs ih =>
    rw [PyData.canLayAll0, h z List.mem_cons_self, ih fun d hd => h d (List.mem_cons_of_mem _ hd)]
    rfl
theorem depthAll0 (zs : List PyData) {n : Nat} (h : ∀ d ∈ zs, d.depth ≤ n) : PyData.depthAll zs ≤ n := by
  induction zs with
  | nil => simp [PyData.depthAll]
  | cons z zs ih =>
    rw [PyData.depthAll]
    have h1 := h z List.mem_cons_self
    have h2 := ih fun d hd => h d (List.mem_cons_of_mem _ hd)
    omega
theorem shapedT {zs : List PyData} (h : ∀ d ∈ zs, d.canLay0 = true ∧ d.depth ≤ 60) : SeqAt.shaped (.tuple zs) = true := by
  unfold SeqAt.shaped
  rw [PyData.canLay0, layAll zs fun d hd => (h d hd).1, PyData.depth]
  have := depthAll0 zs (n := 60) fun d hd => (h d hd).2
  simp only [Bool.true_and, decide_eq_true_eq]
  omega
theorem shapedL {zs : List PyData} (h : ∀ d ∈ zs, d.canLay0 = true ∧ d.depth ≤ 60) : SeqAt.shaped (.list zs) = true := by
  unfold SeqAt.shaped
  rw [PyData.canLay0, layAll zs fun d hd => (h d hd).1, PyData.depth]
  have := depthAll0 zs (n := 60) fun d hd => (h d hd).2
  simp only [Bool.true_and, decide_eq_true_eq]
  omega
theorem eqv_self {d : PyData} (h : SeqAt.shaped d = true) : PyData.eqv d d = true := SeqAt.eqv_refl d (SeqAt.canLay_of_shaped h)
end
end MN
/-! k00: drawn words are put in order -/
namespace MN
open PySem PySem.Spec PyProof.Rows L2
theorem word_ok {z : Str} (h : isWordS z = true) : PyData.strOk z = true := by
  unfold PyData.strOk
  rw [Array.all_eq_true_iff_forall_mem]
  intro c hc
  have := List.all_eq_true.mp h c (by simpa using hc)
  rcases sgn_cases this with q | q | q | q | q <;> subst q <;> decide
theorem words_shape {zs : List Str} (h : ∀ z ∈ zs, isWordS z = true) : ∀ d ∈ zs.map PyData.str, d.canLay0 = true ∧ d.depth ≤ 60 := fun d hd => by
  obtain ⟨z, hz, rfl⟩ := List.mem_map.mp hd
  exact ⟨by rw [PyData.canLay0]; exact word_ok (h z hz), by rw [PyData.depth]; omega⟩
theorem bools_shape (bs : List Bool) : ∀ d ∈ bs.map PyData.bool, d.canLay0 = true ∧ d.depth ≤ 60 := fun d hd => by
  obtain ⟨z, hz, rfl⟩ := List.mem_map.mp hd
  exact ⟨by rw [PyData.canLay0], by rw [PyData.depth]; omega⟩
theorem inV_strs (z : Str) (zs : List Str) : inV (.str z) (zs.map V.str) = decide (z ∈ zs) := by
  unfold inV
  rw [List.any_map]
  by_cases h : z ∈ zs
  · rw [decide_eq_true h]
    exact List.any_eq_true.mpr ⟨z, h, by simp [eqV]⟩
  · rw [decide_eq_false h]
    refine List.any_eq_false.mpr fun y hy => ?_
    simp only [Function.comp_def, eqV, beq_iff_eq]
    exact fun e => h (e ▸ hy)
theorem flat_strs (zs : List Str) : (zs.map V.str).all flatV = true := by
  rw [List.all_map]
  exact List.all_eq_true.mpr fun z _ => rfl
theorem cut_strs (zs : List Str) (lo hi : Option Int) : ∃ ys : List Str, cutV (zs.map V.str) lo hi = ys.map V.str ∧ (∀ y ∈ ys, y ∈ zs) ∧ ys.length ≤ zs.length := by
  refine ⟨(zs.drop (HT.sIx zs.length 0 lo)).take (HT.sIx zs.length zs.length hi - HT.sIx zs.length 0 lo), ?_, fun y hy => List.mem_of_mem_drop (List.mem_of_mem_take hy), ?_⟩
  · unfold cutV
    rw [List.length_map, List.map_take, List.map_drop]
  · rw [List.length_take, List.length_drop]
    omega
theorem perm_strs {ys : List V} {zs : List Str} (h : ys.Perm (zs.map V.str)) : ∃ ws : List Str, ys = ws.map V.str ∧ ∀ z, z ∈ ws ↔ z ∈ zs := by
  have all : ∀ v ∈ ys, ∃ z, v = V.str z := fun v hv => by
    obtain ⟨z, _, rfl⟩ := List.mem_map.mp (h.mem_iff.mp hv)
    exact ⟨z, rfl⟩
  have e : ys = (ys.map fun v => match v with | V.str z => z | _ => "").map V.str := by
    rw [List.map_map]
    have : ∀ v ∈ ys, (V.str ∘ fun v => match v with | V.str z => z | _ => "") v = v := fun v hv => by
      obtain ⟨z, rfl⟩ := all v hv
      rfl
    rw [List.map_congr_left this, List.map_id']
  refine ⟨_, e, fun z => ?_⟩
  have hm := h.mem_iff (a := V.str z)
  have inj : ∀ l : List Str, V.str z ∈ l.map V.str ↔ z ∈ l := fun l => by
    constructor
    · intro q
      obtain ⟨y, hy, e⟩ := List.mem_map.mp q
      injection e with e
      exact e ▸ hy
    · exact fun q => List.mem_map.mpr ⟨z, q, rfl⟩
  rw [e, inj, inj] at hm
  exact hm
section
variable {P : Program} {w : World} {K : PySem.W.Frag} {mg : Str → Option Value} {base : Heap}
def spPotTrue : Sp := fun vs H Q _ => ∃ p, vs = [.ref p] ∧ Pot H p ∧ ∀ H', Ex p H H' → Q (.bl true) H'
abbrev N_law_order_right : List Str := ["_law_pot", "_law_words", "_law_turn", "_law_found", "_law_kept", "_law_word_here", "_law_pairs", "_law_at"]
theorem sc_law_order_right : FnScope N_law_order_right ["_law_pot"] (defScope (top 37)) := ⟨rfl, rfl, rfl, by decide +kernel, rfl, by decide +kernel, by decide +kernel⟩
theorem c_law_order_right (A : At K mg "_law_order_right" (top 37)) (B : Blt mg) (c_law_dip : Cal P w K mg base 1 "_law_dip" spDip) (c_law_choose : Cal P w K mg base 2 "_law_choose" (spChoose K)) (c_law_word : Cal P w K mg base 3 "_law_word" spLWord)
    (c_law_shuffled : Cal P w K mg base 2 "_law_shuffled" (spShuf K)) (c_ordered : Cal P w K mg base 3 "ordered" (spOrdered K)) (c_law_is_ahead : Cal P w K mg base 1 "_law_is_ahead" spAhead) : Cal P w K mg base 4 "_law_order_right" spPotTrue := by
  refine cal_of A sc_law_order_right (fun _ _ _ _ _ _ us hl => match us, hl with | [_], _ => rfl) (fun vs H Q E h => ?_) (fun _ cdv A outer s H vs Q E hr h => ?_)
  · obtain ⟨_, rfl, _⟩ := h; rfl
  · obtain ⟨p, rfl, hp, hQ⟩ := h
    refine ⟨_, (pss_cons (ps_set (i := 1) sc_law_order_right.nd rfl (Or.inr rfl) (pe_lc (own := [("_law_turn", 2)]) (g := gName 2) (tt := tYes) (by rfl) sc_law_order_right.nd (pi_range1 (by rfl) B.range (pa_cons (pe_c c_law_dip hr (by decide) (by rfl) (pa_cons (pv 0) (pa_cons pe_int pa_nil))) pa_nil)) (blkOk_by (own := [("_law_turn", 2)]) (N := N_law_order_right) (sc := defScope (top 37)) (by decide +kernel)) (fun _ _ _ _ _ => (pg_name (i := 2) sc_law_order_right.nd rfl (Or.inl rfl))) (fun _ _ _ _ _ => pts_nil) (fun _ _ _ _ _ => (pe_c c_law_word hr (by decide) (by rfl) (pa_cons (pv 0) (pa_cons (pe_c c_law_choose hr (by decide) (by rfl) (pa_cons (pv 0) (pa_cons (pe_lst (pa_cons pe_int (pa_cons pe_int (pa_cons pe_int pa_nil)))) pa_nil))) pa_nil))))))
      (pss_cons (ps_set (i := 1) sc_law_order_right.nd rfl (Or.inr rfl) (pe_callTy call_tuple_of (by rfl) B.tuple (by decide +kernel) (pa_cons (pe_c c_law_shuffled hr (by decide) (by rfl) (pa_cons (pv 0) (pa_cons (pe_op op_cat (pv 1) (pe_slice sl_list (pv 1) po_none (po_some (pe_c c_law_dip hr (by decide) (by rfl) (pa_cons (pv 0) (pa_cons pe_int pa_nil)))))) pa_nil))) pa_nil)))
      (pss_cons (ps_asg (pe_tup (pa_cons (pe_c c_ordered hr (by decide) (by rfl) (pa_cons (pv 1) pa_nil)) (pa_cons (pe_c c_ordered hr (by decide) (by rfl) (pa_cons (pv 1) pa_nil)) pa_nil))) (pg_tup rfl (pgs_cons (pg_name (i := 3) sc_law_order_right.nd rfl (Or.inr rfl)) (pgs_cons (pg_name (i := 4) sc_law_order_right.nd rfl (Or.inl rfl)) pgs_nil))))
      (pss_cons (ps_if (PW.pt (pw_or (pt_not (pt_val (pe_callB call_isi (by rfl) B.isinstance (by decide +kernel) (pa_cons (pv 3) (pa_cons (pe_bltn (v := .ty "tuple") (by rfl) B.tuple (by decide +kernel) rfl) pa_nil))))) (pw_or (pt_cmpR (op_neD hr.units) (pv 3) (pv 4) (nomark _)) (pw_or (pt_cmpR (op_neD hr.units) (pe_c c_ordered hr (by decide) (by rfl) (pa_cons (pv 3) pa_nil)) (pv 3) (nomark _)) (pw_or1 (pt_cmpR (op_neD hr.units) (pe_c c_ordered hr (by decide) (by rfl) (pa_cons (pe_revT (pv 1)) pa_nil)) (pv 3) (nomark _)))))))
        (pss_one (ps_ret pe_bl))
        pss_nil)
      (pss_cons (ps_if (PW.pt (pw_or (pt_cmpR (op_neD hr.units) (pe_lc (own := [("_law_word_here", 5)]) (g := gName 5) (by rfl) sc_law_order_right.nd (pi_tup (pv 3)) (blkOk_by (own := [("_law_word_here", 5)]) (N := N_law_order_right) (sc := defScope (top 37)) (by decide +kernel)) (fun _ _ _ _ _ => (pg_name (i := 5) sc_law_order_right.nd rfl (Or.inl rfl))) (fun _ _ _ _ _ => pts_one (pt_cmpR (notInSeqK (K := K) rfl) (pv 5) (pv 1) (by rfl))) (fun _ _ _ _ _ => (pv 5))) (pe_lst pa_nil) (nomark _)) (pw_or1 (pt_cmpR (op_neD hr.units) (pe_lc (own := [("_law_word_here", 5)]) (g := gName 5) (by rfl) sc_law_order_right.nd (pi_tup (pv 1)) (blkOk_by (own := [("_law_word_here", 5)]) (N := N_law_order_right) (sc := defScope (top 37)) (by decide +kernel)) (fun _ _ _ _ _ => (pg_name (i := 5) sc_law_order_right.nd rfl (Or.inl rfl))) (fun _ _ _ _ _ => pts_one (pt_cmpR (notInSeqK (K := K) rfl) (pv 5) (pv 3) (by rfl))) (fun _ _ _ _ _ => (pv 5))) (pe_lst pa_nil) (nomark _)))))
        (pss_one (ps_ret pe_bl))
        pss_nil)
      (pss_cons (ps_setLc (i := 6) (own := [("_law_at", 7)]) (g := gName 7) (tt := tYes) (by rfl) sc_law_order_right.nd rfl rfl (sw_true rfl rfl rfl (by decide +kernel)) (pi_range1 (by rfl) B.range (pa_cons (pe_op op_sub (pe_callB call_len_seq (by rfl) B.len (by decide +kernel) (pa_cons (pv 3) pa_nil)) pe_int) pa_nil)) (blkOk_by (own := [("_law_at", 7)]) (N := N_law_order_right) (sc := defScope (top 37)) (by decide +kernel)) (fun _ _ _ _ _ => (pg_name (i := 7) sc_law_order_right.nd rfl (Or.inl rfl))) (fun _ _ _ _ _ => pts_nil) (fun _ _ _ _ _ => (pe_c c_law_is_ahead hr (by decide) (by rfl) (pa_cons (pe_ix (ixTK (K := K) rfl) (pv 3) (pv 7) (fun _ _ => rfl)) (pa_cons (pe_ix (ixTK (K := K) rfl) (pv 3) (pe_op op_add (pv 7) pe_int) (fun _ _ => rfl)) pa_nil)))))
      (pss_one (ps_ret (pe_ifExp (pt_cmpR (op_neD hr.units) (pv 3) (pe_tup pa_nil) (nomark _)) (pe_cmpR (op_eqD hr.units) (pv 6) (pe_op op_rep (pe_lst (pa_cons pe_bl pa_nil)) (pe_op op_sub (pe_callB call_len_seq (by rfl) B.len (by decide +kernel) (pa_cons (pv 3) pa_nil)) pe_int)) (nomark _)) (pe_cmpR (op_eqD hr.units) (pv 1) (pe_tup pa_nil) (nomark _))))))))))), ?_⟩
    obtain ⟨a0, b0, c0, hp0⟩ := id hp
    -- the drawn words
    refine ⟨_, rfl, p, _, a0, b0, c0, rfl, hp0, by omega, by omega, fun r a1 b1 c1 r0 r1 => ⟨_, rfl, by omega, by omega, fun D hD => ?_⟩⟩
    have hDp : D ≠ p := fun z => by rw [z, upd_same] at hD; cases hD
    have hD0 : H D = none := by rw [upd_ne hDp] at hD; exact hD
    refine lc_it (walk_range (lo := 0)) (fun i H' => Ex p H H' ∧ ∃ zs : List Str, zs.length = i ∧ (∀ z ∈ zs, isWordS z = true ∧ z.length ≤ 5) ∧ H' D = some (.lst (zs.map V.str))) ⟨Ex.turn.new hD, [], rfl, by simp, upd_same⟩ (fun _ _ _ _ => trivial) (fun i x H1 H2 hi e y => ?_) (fun H1 e => ?_)
    · obtain ⟨rfl, rfl⟩ := y
      obtain ⟨ex, zs, hl, hw, hD1⟩ := e
      refine ⟨rfl, yes_q (iteT ⟨_, rfl, _, rfl, (by show 3 ≤ sizeLine; decide), fun q hq => ⟨p, _, rfl, (ex.new hq).pot, .inr ⟨q, _, rfl, ?_, SqL.of upd_same, by decide, by decide, fun v a' b' c' hv => ?_⟩⟩⟩)⟩
      · obtain ⟨a, b, c, h⟩ := ex.pot
        exact (ne_of_none h hq).symm
      · obtain ⟨k, rfl, k0, k1⟩ : ∃ k : Int, v = .int k ∧ 0 ≤ k ∧ k ≤ 5 := by
          simp only [List.mem_cons, List.not_mem_nil, or_false] at hv
          rcases hv with rfl | rfl | rfl
          · exact ⟨1, rfl, by omega, by omega⟩
          · exact ⟨2, rfl, by omega, by omega⟩
          · exact ⟨5, rfl, by omega, by omega⟩
        refine ⟨p, k, rfl, Pot.upd, k0, by omega, fun z H3 hz hzl ex3 => ?_⟩
        have ex4 : Ex p H H3 := ((ex.new hq).trans Ex.turn).trans ex3
        have hDq : D ≠ q := ne_of_none hD1 hq
        refine ⟨_, ex3.keep _ _ hDp (by rw [upd_ne hDp, upd_ne hDq]; exact hD1), ?_, ?_⟩
        · rw [List.length_map]
          have : 100 < sizeLine := by decide
          have hi' : (i : Int) < r := by omega
          omega
        · refine ⟨ex4.put hD0 hDp, zs ++ [z], by simp [hl], fun y hy => ?_, by rw [upd_same]; simp⟩
          rcases List.mem_append.mp hy with q | q
          · exact hw y q
          · rw [List.mem_singleton] at q
            subst q
            exact ⟨hz, by omega⟩
    -- some of them twice, in a drawn order
    obtain ⟨ex1, zs, hzl, hzw, hD1⟩ := e
    have hzl8 : zs.length ≤ 8 := by omega
    obtain ⟨a2, b2, c2, hp2⟩ := ex1.pot
    refine ⟨_, rfl, _, rfl, _, rfl, _, rfl, p, _, a2, b2, c2, rfl, hp2, by omega, by omega, fun r2 a3 b3 c3 s0 s1 => ?_⟩
    have ex2 : Ex p H (upd H1 p (potO a3 b3 c3)) := ex1.trans Ex.turn
    refine ⟨r2, rfl, D, _, rfl, SqL.of (by rw [upd_ne hDp]; exact hD1), fun q1 hq1 => ?_⟩
    obtain ⟨ys, hys, hym, hyl⟩ := cut_strs zs none (some r2)
    rw [hys]
    have ex3 := ex2.new (o := .lst (ys.map V.str)) hq1
    have hDq1 : D ≠ q1 := fun z => by rw [← z, upd_ne hDp, hD1] at hq1; cases hq1
    refine ⟨D, q1, _, _, rfl, rfl, by rw [upd_ne hDq1, upd_ne hDp]; exact hD1, upd_same, ?_, fun q2 hq2 => ?_⟩
    · rw [List.length_map, List.length_map]
      have : 100 < sizeLine := by decide
      omega
    rw [← List.map_append]
    have ex4 := ex3.new (o := .lst ((zs ++ ys).map V.str)) hq2
    refine ⟨p, q2, _, rfl, ex4.pot, ?_, SqL.of upd_same, ?_, fun ws q3 H3 hperm hq3 ex5 h3 => ?_⟩
    · obtain ⟨a, b, c, h⟩ := ex3.pot
      exact (ne_of_none h hq2).symm
    · rw [List.length_map, List.length_append]
      omega
    obtain ⟨vs, rfl, hvm⟩ := perm_strs hperm
    have ex6 : Ex p H H3 := ex4.trans ex5
    have hvl : vs.length ≤ 16 := by
      have := hperm.length_eq
      rw [List.length_map, List.length_map, List.length_append] at this
      omega
    have hvw : ∀ z ∈ vs, isWordS z = true ∧ z.length ≤ 100000 := fun z hz => by
      have h5 : isWordS z = true ∧ z.length ≤ 5 := by
        rcases List.mem_append.mp ((hvm z).mp hz) with q | q
        · exact hzw z q
        · exact hzw z (hym z q)
      exact ⟨h5.1, by omega⟩
    refine ⟨q3, _, rfl, .inl ⟨SqL.of h3, fun T hT => ?_⟩⟩
    have ex7 := ex6.new (o := .tup (vs.map V.str)) hT
    have hT7 : upd H3 T (.tup (vs.map V.str)) T = some (.tup (vs.map V.str)) := upd_same
    generalize upd H3 T (.tup (vs.map V.str)) = H7 at ex7 hT7
    -- put in order, twice
    have wT : WordsAt K H7 T vs := ⟨.inl (.inl hT7), by omega, hvw⟩
    have how : ∀ z ∈ ord vs, isWordS z = true ∧ z.length ≤ 100000 := fun z hz => hvw z (mem_ord.mp hz)
    have hol : (ord vs).length ≤ 16 := Nat.le_trans (ord_length vs) hvl
    refine ⟨_, rfl, T, vs, rfl, wT, fun F H8 hF e8 h8 => ?_⟩
    have wT8 : WordsAt K H8 T vs := ⟨.inl (.inl (e8 _ _ hT7)), wT.2⟩
    refine ⟨_, rfl, T, vs, rfl, wT8, fun G H9 hG e9 h9 => ?_⟩
    have ex9 : Ex p H H9 := (ex7.same e8).same e9
    refine ⟨(by show 2 ≤ sizeLine; decide), fun U hU => ?_⟩
    refine ⟨U, _, rfl, .inl (.inl upd_same), rfl, _, _, rfl, _, _, rfl, rfl, ?_⟩
    have ex10 := ex9.new (o := .tup [.ref F, .ref G]) hU
    have hT10 : upd H9 U (.tup [.ref F, .ref G]) T = some (.tup (vs.map V.str)) := same_new hU _ _ (e9 _ _ (e8 _ _ hT7))
    have hF10 : upd H9 U (.tup [.ref F, .ref G]) F = some (.tup ((ord vs).map V.str)) := same_new hU _ _ (e9 _ _ h8)
    have hG10 : upd H9 U (.tup [.ref F, .ref G]) G = some (.tup ((ord vs).map V.str)) := same_new hU _ _ h9
    generalize upd H9 U (.tup [.ref F, .ref G]) = H10 at ex10 hT10 hF10 hG10
    have shO : SeqAt.shaped (.tuple ((ord vs).map PyData.str)) = true := shapedT (words_shape fun z hz => (how z hz).1)
    -- the first test
    refine ⟨_, rfl, .ref F, .ty "tuple", .type "tuple", .type "tuple", true, rfl, .ty _, tyT (.inl (.inl hF10)), kit_ty (by decide +kernel), true, rfl, iteF ?_⟩
    refine ⟨_, rfl, _, rfl, _, _, dpT (.inl (.inl hF10)), dpT (.inl (.inl hG10)), shO, shO, _, rfl, ?_⟩
    rw [eqv_self shO]
    refine iteF ⟨_, rfl, F, ord vs, rfl, ⟨.inl (.inl hF10), by omega, how⟩, fun F2 H11 hF2 e11 h11 => ?_⟩
    rw [ord_ord] at h11
    have hT11 := e11 _ _ hT10
    have hF11 := e11 _ _ hF10
    have ex11 := ex10.same e11
    refine ⟨_, rfl, _, _, dpT (.inl (.inl h11)), dpT (.inl (.inl hF11)), shO, shO, _, rfl, ?_⟩
    rw [eqv_self shO]
    refine iteF ⟨_, rfl, T, _, rfl, .inl (.inl hT11), fun R hR => ?_⟩
    have hR12 : upd H11 R (.tup (vs.map V.str).reverse) R = some (.tup (vs.reverse.map V.str)) := by rw [upd_same, List.map_reverse]
    have hT12 := same_new (o := .tup (vs.map V.str).reverse) hR _ _ hT11
    have hF12 := same_new (o := .tup (vs.map V.str).reverse) hR _ _ hF11
    have ex12 := ex11.new (o := .tup (vs.map V.str).reverse) hR
    refine ⟨R, vs.reverse, rfl, ⟨.inl (.inl hR12), by rw [List.length_reverse]; omega, fun z hz => hvw z (List.mem_reverse.mp hz)⟩, fun F3 H13 hF3 e13 h13 => ?_⟩
    rw [ord_reverse] at h13
    have hT13 := e13 _ _ hT12
    have hF13 := e13 _ _ hF12
    have ex13 := ex12.same e13
    refine ⟨_, rfl, _, _, dpT (.inl (.inl h13)), dpT (.inl (.inl hF13)), shO, shO, _, rfl, ?_⟩
    rw [eqv_self shO]
    refine iteF ?_
    -- the second test
    have shN : SeqAt.shaped (.list (([] : List Str).map PyData.str)) = true := by decide +kernel
    refine ⟨_, rfl, F, rfl, ⟨_, .inl (.inl hF13)⟩, fun D1 hD1' => lc_tpl (.inl (.inl hF13)) hD1' (by simp; omega) (fun x => !inV x (vs.map V.str)) (fun x => x) (fun x _ => rfl) (fun x hx acc Q q => ?_) (fun x hx _ acc Q q => ⟨_, rfl, q⟩) ?_⟩
    · obtain ⟨z, hz, rfl⟩ := List.mem_map.mp hx
      exact ⟨_, rfl, _, rfl, T, _, rfl, .inr (seqT_upd (.inl (.inl hT13)) hD1'), rfl, flat_strs vs, _, rfl, q⟩
    have f1 : ((ord vs).map V.str).filter (fun x => !inV x (vs.map V.str)) = [] := List.filter_eq_nil_iff.mpr fun x hx => by
      obtain ⟨z, hz, rfl⟩ := List.mem_map.mp hx
      rw [inV_strs, decide_eq_true (mem_ord.mp hz)]
      simp
    have f2 : (vs.map V.str).filter (fun x => !inV x ((ord vs).map V.str)) = [] := List.filter_eq_nil_iff.mpr fun x hx => by
      obtain ⟨z, hz, rfl⟩ := List.mem_map.mp hx
      rw [inV_strs, decide_eq_true (mem_ord.mpr hz)]
      simp
    rw [f1]
    have ex14 := ex13.new (o := .lst (([] : List V).map fun x => x)) hD1'
    have hT14 := same_new (o := .lst (([] : List V).map fun x => x)) hD1' _ _ hT13
    have hF14 := same_new (o := .lst (([] : List V).map fun x => x)) hD1' _ _ hF13
    refine ⟨(by show 0 ≤ sizeLine; decide), fun E1 hE1 => ⟨_, _, dpL (zs := []) (.inl (.inl (same_new hE1 _ _ upd_same))), dpL (zs := []) (.inl (.inl upd_same)), shN, shN, _, rfl, ?_⟩⟩
    rw [eqv_self shN]
    have ex15 := ex14.new (o := .lst []) hE1
    have hT15 := same_new (o := .lst []) hE1 _ _ hT14
    have hF15 := same_new (o := .lst []) hE1 _ _ hF14
    refine iteF ⟨_, rfl, T, rfl, ⟨_, .inl (.inl hT15)⟩, fun D2 hD2 => lc_tpl (.inl (.inl hT15)) hD2 (by simp; omega) (fun x => !inV x ((ord vs).map V.str)) (fun x => x) (fun x _ => rfl) (fun x hx acc Q q => ?_) (fun x hx _ acc Q q => ⟨_, rfl, q⟩) ?_⟩
    · obtain ⟨z, hz, rfl⟩ := List.mem_map.mp hx
      exact ⟨_, rfl, _, rfl, F, _, rfl, .inr (seqT_upd (.inl (.inl hF15)) hD2), rfl, flat_strs _, _, rfl, q⟩
    rw [f2]
    have ex16 := ex15.new (o := .lst (([] : List V).map fun x => x)) hD2
    have hT16 := same_new (o := .lst (([] : List V).map fun x => x)) hD2 _ _ hT15
    have hF16 := same_new (o := .lst (([] : List V).map fun x => x)) hD2 _ _ hF15
    refine ⟨(by show 0 ≤ sizeLine; decide), fun E2 hE2 => ⟨_, _, dpL (zs := []) (.inl (.inl (same_new hE2 _ _ upd_same))), dpL (zs := []) (.inl (.inl upd_same)), shN, shN, _, rfl, ?_⟩⟩
    rw [eqv_self shN]
    have ex17 := ex16.new (o := .lst []) hE2
    have hT17 := same_new (o := .lst []) hE2 _ _ hT16
    have hF17 := same_new (o := .lst []) hE2 _ _ hF16
    refine iteF ?_
    -- the pairs
    have sq17 : SqT K _ F ((ord vs).map V.str) := .inl (.inl hF17)
    have hn : (((ord vs).map V.str).length : Int) = (ord vs).length := by rw [List.length_map]
    refine ⟨_, rfl, F, _, rfl, .inr sq17, _, _, rfl, rfl, _, rfl, by omega, by omega, fun D3 hD3 => lc_rng (by omega) (fun _ => true) (fun _ => .bl true) (fun x _ => rfl) (fun x _ acc Q q => q) (fun x hx _ acc Q q => ?_) ?_⟩
    · obtain ⟨i, hi, rfl⟩ := List.mem_map.mp hx
      have hi := List.mem_range.mp hi
      have i1 : i < (ord vs).length := by omega
      have i2 : i + 1 < (ord vs).length := by omega
      have sq := seqT_upd (o := .lst acc) sq17 hD3
      have g1 : atI ((ord vs).map V.str) (i : Int) = some (.str (ord vs)[i]) := atI_nat (by rw [List.getElem?_map, List.getElem?_eq_getElem i1]; rfl)
      have g2 : atI ((ord vs).map V.str) ((i : Int) + 1) = some (.str (ord vs)[i + 1]) := atI_nat (j := i + 1) (by rw [List.getElem?_map, List.getElem?_eq_getElem i2]; rfl)
      have ah : ahead (ord vs)[i] (ord vs)[i + 1] := List.pairwise_iff_getElem.mp (ord_sorted vs) i (i + 1) i1 i2 (by omega)
      have w1 := how _ (List.getElem_mem i1)
      have w2 := how _ (List.getElem_mem i2)
      exact ⟨_, rfl, _, rfl, F, _, _, _, rfl, rfl, sq, g1, _, rfl, _, rfl, _, _, rfl, rfl, F, _, _, _, rfl, rfl, sq, g2, _, _, rfl, ah, w1.1, w2.1, w1.2, w2.2, q⟩
    rw [filter_all]
    have e18 : (rangeV ((((ord vs).map V.str).length : Int) - 1).toNat).map (fun _ => V.bl true) = (List.replicate ((ord vs).length - 1) true).map V.bl := by
      rw [rangeV, List.map_map, List.map_replicate]
      have : (((((ord vs).map V.str).length : Int) - 1).toNat) = (ord vs).length - 1 := by omega
      rw [this]
      apply List.ext_getElem (by simp)
      intro i h1 h2
      simp
    rw [e18]
    have ex18 := ex17.new (o := .lst ((List.replicate ((ord vs).length - 1) true).map V.bl)) hD3
    have hT18 := same_new (o := .lst ((List.replicate ((ord vs).length - 1) true).map V.bl)) hD3 _ _ hT17
    have hF18 := same_new (o := .lst ((List.replicate ((ord vs).length - 1) true).map V.bl)) hD3 _ _ hF17
    have hP18 : ∀ Hx : Hp, upd Hx D3 (.lst ((List.replicate ((ord vs).length - 1) true).map V.bl)) D3 = some (.lst ((List.replicate ((ord vs).length - 1) true).map V.bl)) := fun Hx => upd_same
    refine ⟨_, rfl, (by show 0 ≤ sizeLine; decide), fun E3 hE3 => ?_⟩
    have ex19 := ex18.new (o := .tup []) hE3
    have hT19 := same_new (o := .tup []) hE3 _ _ hT18
    have hF19 := same_new (o := .tup []) hE3 _ _ hF18
    have hP19 := same_new (o := .tup []) hE3 _ _ (hP18 _)
    have shE : SeqAt.shaped (.tuple (([] : List Str).map PyData.str)) = true := by decide +kernel
    refine ⟨_, _, dpT (.inl (.inl hF19)), dpT (zs := []) (.inl (.inl upd_same)), shO, shE, _, rfl, ?_⟩
    have hempty : ord vs = [] → vs = [] := fun h => by
      cases vs with
      | nil => rfl
      | cons z zs =>
        have : z ∈ ord (z :: zs) := mem_ord.mpr List.mem_cons_self
        rw [h] at this
        cases this
    by_cases hz : ord vs = []
    · have hv0 := hempty hz
      have e1 : PyData.eqv (.tuple ((ord vs).map PyData.str)) (.tuple (([] : List Str).map PyData.str)) = true := by rw [hz]; exact eqv_self shE
      rw [e1]
      refine iteF ⟨_, rfl, (by show 0 ≤ sizeLine; decide), fun E4 hE4 => ?_⟩
      have hT20 := same_new (o := .tup []) hE4 _ _ hT19
      have e2 : PyData.eqv (.tuple (vs.map PyData.str)) (.tuple (([] : List Str).map PyData.str)) = true := by rw [hv0]; exact eqv_self shE
      refine ⟨_, _, dpT (.inl (.inl hT20)), dpT (zs := []) (.inl (.inl upd_same)), shapedT (words_shape fun z hz => (hvw z hz).1), shE, ?_⟩
      rw [e2]
      exact hQ _ (ex19.new hE4)
    · have e1 : PyData.eqv (.tuple ((ord vs).map PyData.str)) (.tuple (([] : List Str).map PyData.str)) = false := by
        cases ho : ord vs with
        | nil => exact absurd ho hz
        | cons z zs => rfl
      rw [e1]
      have hpos : 0 < (ord vs).length := List.length_pos_iff.mpr hz
      refine iteT ⟨_, rfl, (by show 1 ≤ sizeLine; decide), fun E4 hE4 => ?_⟩
      have ex20 := ex19.new (o := .lst [.bl true]) hE4
      have hF20 := same_new (o := .lst [.bl true]) hE4 _ _ hF19
      have hP20 := same_new (o := .lst [.bl true]) hE4 _ _ hP19
      refine ⟨_, rfl, F, _, rfl, .inr (.inl (.inl hF20)), _, _, rfl, rfl, E4, _, _, rfl, rfl, upd_same, by omega, by omega, ?_, fun E5 hE5 => ?_⟩
      · have : 100 < sizeLine := by decide
        have h1 : ([V.bl true] : List V).length = 1 := rfl
        rw [h1]
        omega
      have e2 : (List.replicate (((((ord vs).map V.str).length : Int)) - 1).toNat [V.bl true]).flatten = (List.replicate ((ord vs).length - 1) true).map V.bl := by
        have : (((((ord vs).map V.str).length : Int) - 1).toNat) = (ord vs).length - 1 := by omega
        rw [this, List.map_replicate]
        apply List.ext_getElem (by simp)
        intro i h1 h2
        simp
      rw [e2]
      have hP21 := same_new (o := .lst ((List.replicate ((ord vs).length - 1) true).map V.bl)) hE5 _ _ hP20
      have shB : SeqAt.shaped (.list ((List.replicate ((ord vs).length - 1) true).map PyData.bool)) = true := shapedL (bools_shape _)
      refine ⟨_, _, dpB (.inl (.inl hP21)), dpB (.inl (.inl upd_same)), shB, shB, ?_⟩
      rw [eqv_self shB]
      exact hQ _ (ex20.new hE5)
end
end MN
/-! _law_value -/
namespace MN
open PySem PySem.Spec PyProof.Rows L2
/-- a value that is not the pot -/
inductive GV (K : PySem.W.Frag) (p : Addr) (H : Hp) : V → Prop where
  | str {z : Str} (h : z.length ≤ 100000) : GV K p H (.str z)
  | non : GV K p H .non
  | int (i : Int) : GV K p H (.int i)
  | bl (b : Bool) : GV K p H (.bl b)
  | lst {a : Addr} {xs : List V} (n : a ≠ p) (h : H a = some (.lst xs)) : GV K p H (.ref a)
  | tup {a : Addr} {xs : List V} (n : a ≠ p) (h : H a = some (.tup xs)) : GV K p H (.ref a)
  | dct {a : Addr} {kvs : List (Key × V)} (n : a ≠ p) (h : H a = some (.dK kvs)) : GV K p H (.ref a)
  | slt {a C dx : Addr} {ws : List (Option V)} (n : a ≠ p) (n2 : dx ≠ p) (h : Sl2 H a C dx ws) (h1 : SlX.SCls K C) (h2 : SlX.SIsi K C) (h3 : PySem.W.kitOne K (.ref C) (.type "str") = some false) : GV K p H (.ref a)
theorem GV.ok {K : PySem.W.Frag} {p : Addr} {H : Hp} {v : V} (h : GV K p H v) : ValOk K H v := by
  cases h with
  | str h => exact .inl ⟨_, rfl, h⟩
  | non => exact .inr ⟨(fun z q => by cases q), .ty (.base .non) (by decide +kernel)⟩
  | int i => exact .inr ⟨(fun z q => by cases q), .ty (.base (.int i)) (by decide +kernel)⟩
  | bl b => exact .inr ⟨(fun z q => by cases q), .ty (.base (.bl b)) (by decide +kernel)⟩
  | lst n h => exact .inr ⟨(fun z q => by cases q), .ty (.base (.lst h)) (by decide +kernel)⟩
  | tup n h => exact .inr ⟨(fun z q => by cases q), .ty (.base (.tup h)) (by decide +kernel)⟩
  | dct n h => exact .inr ⟨(fun z q => by cases q), .ty (.base (.dK h)) (by decide +kernel)⟩
  | slt n n2 h h1 h2 h3 => exact .inr ⟨(fun z q => by cases q), .inr ⟨rfl, _, _, _, _, rfl, .inr h, h1, h2, h3⟩⟩
theorem GV.keep {K : PySem.W.Frag} {p : Addr} {H H' : Hp} {v : V} (h : GV K p H v) (e : ∀ b o, b ≠ p → H b = some o → H' b = some o) : GV K p H' v := by
  cases h with
  | str h => exact .str h
  | non => exact .non
  | int i => exact .int i
  | bl b => exact .bl b
  | lst n h => exact .lst n (e _ _ n h)
  | tup n h => exact .tup n (e _ _ n h)
  | dct n h => exact .dct n (e _ _ n h)
  | slt n n2 h h1 h2 h3 =>
    exact .slt n n2 ⟨e _ _ n h.1, e _ _ n2 h.2⟩ h1 h2 h3
theorem GV.same {K : PySem.W.Frag} {p : Addr} {H H' : Hp} {v : V} (h : GV K p H v) (e : Same H H') : GV K p H' v := h.keep fun b o _ q => e b o q
section
variable {P : Program} {w : World} {K : PySem.W.Frag} {mg : Str → Option Value} {base : Heap}
/-- a new object, in a word -/
theorem laid {H : Hp} {q : Addr} (o : HO) (h : H q = none) : Same H (upd H q o) ∧ upd H q o q = some o := ⟨same_new h, upd_same⟩
theorem r_even0 {C : Addr} (PC : PriceC K C) (B : Blt mg) (G1 : GlC mg "MAX_PRICE" (.int 9)) (c_are_prices : Cal P w K mg base 3 "are_prices" spArePrices0) (c_require_signs : Cal P w K mg base 3 "require_signs" (spReqSigns K)) (c_require_number : Cal P w K mg base 2 "require_number" spReqNumber) :
    ∃ mc p g, ClX.CRead K C mc ∧ ClX.CMet K C mc "even" p g ∧ FnR P w K mg base CX0 6 g (fun vs H Q E => spEven0 K C (vs ++ [.int 1]) H Q E) := by
  obtain ⟨mc, p, g, fd, r, c, F⟩ := PC.evn
  obtain ⟨ds, hd, hb⟩ := F.binds1 (ps := ["cls", "signs", "price"]) 2 0 (by simp) rfl fun T kV doc pm an cdv ct us its l1 l2 => by
    match us, its, l1, l2 with
    | [_, _], [_], _, _ => exact ⟨_, rfl, rfl⟩
  exact ⟨mc, p, g, r, c, (f_even0 PC F B G1 c_are_prices c_require_signs c_require_number).raw hb hd⟩
def spValue (K : PySem.W.Frag) : Sp := fun vs H Q _ => ∃ p, vs = [.ref p] ∧ Pot H p ∧ ∀ v H', GV K p H' v → Ex p H H' → Q v H'
abbrev N_law_value : List Str := ["_law_pot", "_law_word_here", "_law_at", "_law_char", "_law_near", "_law_values"]
theorem sc_law_value : FnScope N_law_value ["_law_pot"] (defScope (top 33)) := ⟨rfl, rfl, rfl, by decide +kernel, rfl, by decide +kernel, by decide +kernel⟩
theorem c_law_value {C : Addr} (A : At K mg "_law_value" (top 33)) (B : Blt mg) (hC : mg "Prices" = some (.ref C)) (PC : PriceC K C)
    (ev : ∃ mc p g, ClX.CRead K C mc ∧ ClX.CMet K C mc "even" p g ∧ FnR P w K mg base CX0 6 g (fun vs H Q E => spEven0 K C (vs ++ [.int 1]) H Q E))
    (c_law_dip : Cal P w K mg base 1 "_law_dip" spDip) (c_law_choose : Cal P w K mg base 2 "_law_choose" (spChoose K)) (c_law_word : Cal P w K mg base 3 "_law_word" spLWord) : Cal P w K mg base 7 "_law_value" (spValue K) := by
  refine cal_of A sc_law_value (fun _ _ _ _ _ _ us hl => match us, hl with | [_], _ => rfl) (fun vs H Q E h => ?_) (fun _ cdv A outer s H vs Q E hr h => ?_)
  · obtain ⟨_, rfl, _⟩ := h; rfl
  · obtain ⟨p, rfl, hp, hQ⟩ := h
    obtain ⟨mc, pm, g, rd, cm, Fe⟩ := ev
    refine ⟨_, (pss_cons (ps_set (i := 1) sc_law_value.nd rfl (Or.inl rfl) (pe_c c_law_word hr (by decide) (by rfl) (pa_cons (pv 0) (pa_cons pe_int pa_nil))))
      (pss_cons (ps_set (i := 2) sc_law_value.nd rfl (Or.inl rfl) (pe_c c_law_dip hr (by decide) (by rfl) (pa_cons (pv 0) (pa_cons (pe_op op_add (pe_callB call_len_str (by rfl) B.len (by decide +kernel) (pa_cons (pv 1) pa_nil)) pe_int) pa_nil))))
      (pss_cons (ps_set (i := 3) sc_law_value.nd rfl (Or.inl rfl) (pe_c c_law_choose hr (by decide) (by rfl) (pa_cons (pv 0) (pa_cons (pe_lst (pa_cons pe_str (pa_cons pe_str (pa_cons pe_str (pa_cons pe_str (pa_cons pe_str (pa_cons pe_str (pa_cons pe_str (pa_cons pe_str (pa_cons pe_str (pa_cons pe_str (pa_cons pe_str (pa_cons pe_str (pa_cons pe_str pa_nil)))))))))))))) pa_nil))))
      (pss_cons (ps_set (i := 4) sc_law_value.nd rfl (Or.inl rfl) (pe_op op_add_str (pe_op op_add_str (pe_slice sl_str (pv 1) po_none (po_some (pv 2))) (pv 3)) (pe_slice sl_str (pv 1) (po_some (pv 2)) po_none)))
      (pss_cons (ps_set (i := 5) sc_law_value.nd rfl (Or.inl rfl) (pe_lst (pa_cons (pv 1) (pa_cons (pv 4) (pa_cons (pv 4) (pa_cons (pv 3) (pa_cons (pe_c c_law_choose hr (by decide) (by rfl) (pa_cons (pv 0) (pa_cons pe_str pa_nil))) (pa_cons (pe_op op_repS (pv 1) pe_int) (pa_cons (pe_tup (pa_cons (pv 1) pa_nil)) (pa_cons (pe_lst (pa_cons (pv 1) pa_nil)) (pa_cons (pe_disp (pps_cons (pv 1) pe_int pps_nil) rfl rfl (by decide) (by decide)) (pa_cons pe_non pa_nil))))))))))))
      (pss_cons (ps_set (i := 5) sc_law_value.nd rfl (Or.inl rfl) (pe_op op_cat (pv 5) (pe_lst (pa_cons pe_int (pa_cons pe_int (pa_cons pe_bl (pa_cons pe_bl (pa_cons (pe_tup pa_nil) (pa_cons (pe_lst pa_nil) (pa_cons pe_dnewK (pa_cons (pe_tup (pa_cons pe_str (pa_cons pe_str pa_nil))) (pa_cons (pe_tup (pa_cons pe_str pa_nil)) (pa_cons pe_int (pa_cons (pe_op op_repS pe_str pe_int) (pa_cons (pe_op op_add_str (pe_op op_repS pe_str pe_int) pe_str) (pa_cons (pe_lst (pa_cons pe_str pa_nil)) pa_nil))))))))))))))))
      (pss_one (ps_ret (pe_c c_law_choose hr (by decide) (by rfl) (pa_cons (pv 0) (pa_cons (pe_op op_cat (pv 5) (pe_lst (pa_cons (ClX.pe_cmeth (pe_glob (v := .ref C) (by rfl) hC rfl) rd cm Fe (hr.mono (by decide)) pass0 (pa_cons (pe_tup (pa_cons pe_str pa_nil)) pa_nil)) (pa_cons (pe_upper (pv 1)) (pa_cons (pe_op op_add_str (pv 1) pe_str) (pa_cons (pe_op op_add_str pe_str (pv 1)) pa_nil)))))) pa_nil))))))))))), ?_⟩
    have big : 200000 ≤ sizeLine := by decide
    have notp : ∀ {H1 : Hp} {q : Addr}, Ex p H H1 → H1 q = none → q ≠ p := fun ex hq z => by
      obtain ⟨a, b, c, h⟩ := ex.pot
      rw [z, h] at hq; cases hq
    -- _law_word_here
    refine ⟨_, rfl, p, 4, rfl, hp, by decide, by decide, fun z H1 hz hzl ex1 => ?_⟩
    have hl4 : z.length ≤ 4 := by omega
    -- _law_at
    obtain ⟨a1, b1, c1, hp1⟩ := ex1.pot
    refine ⟨_, rfl, _, rfl, _, rfl, by omega, _, _, rfl, rfl, p, _, a1, b1, c1, rfl, hp1, by omega, by omega, fun r a2 b2 c2 r0 r1 => ?_⟩
    have ex2 := ex1.trans (Ex.turn (H := H1) (a := a2) (b := b2) (c := c2))
    generalize upd H1 p (potO a2 b2 c2) = H2 at ex2 ⊢
    -- _law_char
    refine ⟨_, rfl, (show 13 ≤ sizeLine by decide), fun q3 hq3 => ?_⟩
    have ex3 := ex2.new (o := .lst [.str "f", .str "A", .str " ", .str "`", .str "0", .str "E", .str "z", .str "\n", .str "*", .str "-", .str "a", .str "e", .str ""]) hq3
    refine ⟨p, _, rfl, ex3.pot, .inr ⟨q3, _, rfl, notp ex2 hq3, SqL.of upd_same, (show 0 < 13 by decide), (show 13 < 100000 by decide), fun v a4 b4 c4 hv => ?_⟩⟩
    obtain ⟨ch, rfl, hch⟩ : ∃ ch : Str, v = .str ch ∧ ch.length ≤ 1 := by
      simp only [List.mem_cons, List.not_mem_nil, or_false] at hv
      rcases hv with rfl | rfl | rfl | rfl | rfl | rfl | rfl | rfl | rfl | rfl | rfl | rfl | rfl <;> exact ⟨_, rfl, by decide +kernel⟩
    have ex4 := ex3.trans (Ex.turn (a := a4) (b := b4) (c := c4))
    generalize upd (upd H2 q3 (.lst [.str "f", .str "A", .str " ", .str "`", .str "0", .str "E", .str "z", .str "\n", .str "*", .str "-", .str "a", .str "e", .str ""])) p (potO a4 b4 c4) = H4 at ex4 ⊢
    -- _law_near
    have hc1 := cutS_length z none (some r)
    have hc2 := cutS_length z (some r) none
    refine ⟨_, rfl, _, rfl, _, rfl, z, rfl, by omega, _, rfl, _, _, rfl, rfl, by omega, _, rfl, _, rfl, _, rfl, z, rfl, by omega, _, _, rfl, rfl, by rw [Str.length_append]; omega, ?_⟩
    have hnear : (cutS z none (some r) ++ ch ++ cutS z (some r) none).length ≤ 100000 := by rw [Str.length_append, Str.length_append]; omega
    generalize cutS z none (some r) ++ ch ++ cutS z (some r) none = near at hnear ⊢
    -- the values
    refine ⟨_, rfl, _, rfl, _, rfl, _, rfl, _, rfl, p, _, rfl, ex4.pot, .inl ⟨"abcde", rfl, by decide +kernel, by decide +kernel, fun c5 a5 b5 c5' _ => ?_⟩⟩
    have ex5 := ex4.trans (Ex.turn (H := H4) (a := a5) (b := b5) (c := c5'))
    generalize upd H4 p (potO a5 b5 c5') = H5 at ex5 ⊢
    refine ⟨_, rfl, z, 60, rfl, rfl, by decide, by decide, by omega, _, rfl, (show 1 ≤ sizeLine by decide), fun q6 hq6 => ?_⟩
    have n6 := notp ex5 hq6
    obtain ⟨s6, u6⟩ := laid (.tup [.str z]) hq6
    have ex6 := ex5.same s6
    generalize upd H5 q6 (.tup [.str z]) = H6 at s6 u6 ex6 ⊢
    refine ⟨_, rfl, (show 1 ≤ sizeLine by decide), fun q7 hq7 => ?_⟩
    have n7 := notp ex6 hq7
    obtain ⟨s7, u7⟩ := laid (.lst [.str z]) hq7
    have ex7 := ex6.same s7
    generalize upd H6 q7 (.lst [.str z]) = H7 at s7 u7 ex7 ⊢
    refine fun q8 hq8 => ⟨_, rfl, upd_same, [(.inr z, .int 1)], rfl, (show 1 ≤ 15 by decide), ?_⟩
    have n8 := notp ex7 hq8
    rw [upd_upd]
    obtain ⟨s8, u8⟩ := laid (.dK (mergeK [] [(.inr z, .int 1)])) hq8
    have ex8 := ex7.same s8
    generalize upd H7 q8 (.dK (mergeK [] [(.inr z, .int 1)])) = H8 at s8 u8 ex8 ⊢
    refine ⟨(show 10 ≤ sizeLine by decide), fun q9 hq9 => ?_⟩
    have n9 := notp ex8 hq9
    have g8 : ∀ v ∈ [V.str z, .str near, .str near, .str ch, .str ⟨#[c5]⟩, .str (repS z 60), .ref q6, .ref q7, .ref q8, .non], GV K p H8 v := by
      have hr60 : (repS z 60).length ≤ 100000 := by
        rw [repS_length]
        have : (60 : Int).toNat * z.length ≤ 60 * 4 := Nat.mul_le_mul (by decide) hl4
        omega
      intro v hv
      simp only [List.mem_cons, List.not_mem_nil, or_false] at hv
      rcases hv with rfl | rfl | rfl | rfl | rfl | rfl | rfl | rfl | rfl | rfl
      · exact .str (by omega)
      · exact .str hnear
      · exact .str hnear
      · exact .str (by omega)
      · exact .str (show 1 ≤ 100000 by decide)
      · exact .str hr60
      · exact (GV.tup n6 u6).same (s7.trans s8)
      · exact (GV.lst n7 u7).same s8
      · exact GV.dct n8 u8
      · exact .non
    generalize hxs : [V.str z, .str near, .str near, .str ch, .str ⟨#[c5]⟩, .str (repS z 60), .ref q6, .ref q7, .ref q8, .non] = xs1 at g8 ⊢
    have l1 : xs1.length = 10 := by rw [← hxs]; rfl
    clear hxs
    obtain ⟨s9, u9⟩ := laid (.lst xs1) hq9
    have ex9 := ex8.same s9
    have g9 := fun v hv => (g8 v hv).same s9
    generalize upd H8 q9 (.lst xs1) = H9 at s9 u9 ex9 g9 ⊢
    clear g8 s8 u8 s7 u7 s6 u6 s9
    -- more values
    refine ⟨_, rfl, (show 0 ≤ sizeLine by decide), fun q10 hq10 => ?_⟩
    have n10 := notp ex9 hq10
    obtain ⟨s10, u10⟩ := laid (.tup []) hq10
    have ex10 := ex9.same s10
    generalize upd H9 q10 (.tup []) = H10 at s10 u10 ex10 ⊢
    refine ⟨(show 0 ≤ sizeLine by decide), fun q11 hq11 => ?_⟩
    have n11 := notp ex10 hq11
    obtain ⟨s11, u11⟩ := laid (.lst []) hq11
    have ex11 := ex10.same s11
    generalize upd H10 q11 (.lst []) = H11 at s11 u11 ex11 ⊢
    refine fun q12 hq12 => ?_
    have n12 := notp ex11 hq12
    obtain ⟨s12, u12⟩ := laid (.dK []) hq12
    have ex12 := ex11.same s12
    generalize upd H11 q12 (.dK []) = H12 at s12 u12 ex12 ⊢
    refine ⟨(show 2 ≤ sizeLine by decide), fun q13 hq13 => ?_⟩
    have n13 := notp ex12 hq13
    obtain ⟨s13, u13⟩ := laid (.tup [.str "a", .str "b"]) hq13
    have ex13 := ex12.same s13
    generalize upd H12 q13 (.tup [.str "a", .str "b"]) = H13 at s13 u13 ex13 ⊢
    refine ⟨(show 1 ≤ sizeLine by decide), fun q14 hq14 => ?_⟩
    have n14 := notp ex13 hq14
    obtain ⟨s14, u14⟩ := laid (.tup [.str ""]) hq14
    have ex14 := ex13.same s14
    generalize upd H13 q14 (.tup [.str ""]) = H14 at s14 u14 ex14 ⊢
    have la : (repS "ab" 4500).length = 9000 := by rw [repS_length]; decide +kernel
    have lb : (repS "ab" 4499).length = 8998 := by rw [repS_length]; decide +kernel
    refine ⟨_, _, rfl, rfl, by decide, by decide, by decide +kernel, _, _, rfl, rfl, by decide, by decide, by decide +kernel, _, _, rfl, rfl, by rw [lb]; decide +kernel, (show 1 ≤ sizeLine by decide), fun q15 hq15 => ?_⟩
    have n15 := notp ex14 hq15
    obtain ⟨s15, u15⟩ := laid (.lst [.str "a"]) hq15
    have ex15 := ex14.same s15
    generalize upd H14 q15 (.lst [.str "a"]) = H15 at s15 u15 ex15 ⊢
    have lc : (repS "ab" 4499 ++ ("f" : Str)).length ≤ 100000 := by rw [Str.length_append, lb]; decide +kernel
    generalize repS "ab" 4500 = zz at la ⊢
    generalize repS "ab" 4499 ++ ("f" : Str) = zf at lc ⊢
    refine ⟨(show 13 ≤ sizeLine by decide), fun q16 hq16 => ?_⟩
    have g15 : ∀ v ∈ [V.int 0, .int 1, .bl true, .bl false, .ref q10, .ref q11, .ref q12, .ref q13, .ref q14, .int 97, .str zz, .str zf, .ref q15], GV K p H15 v := by
      intro v hv
      simp only [List.mem_cons, List.not_mem_nil, or_false] at hv
      rcases hv with rfl | rfl | rfl | rfl | rfl | rfl | rfl | rfl | rfl | rfl | rfl | rfl | rfl
      · exact .int _
      · exact .int _
      · exact .bl _
      · exact .bl _
      · exact (GV.tup n10 u10).same ((((s11.trans s12).trans s13).trans s14).trans s15)
      · exact (GV.lst n11 u11).same (((s12.trans s13).trans s14).trans s15)
      · exact (GV.dct n12 u12).same ((s13.trans s14).trans s15)
      · exact (GV.tup n13 u13).same (s14.trans s15)
      · exact (GV.tup n14 u14).same s15
      · exact .int _
      · exact .str (by omega)
      · exact .str lc
      · exact .lst n15 u15
    generalize hxs : [V.int 0, .int 1, .bl true, .bl false, .ref q10, .ref q11, .ref q12, .ref q13, .ref q14, .int 97, .str zz, .str zf, .ref q15] = xs2 at g15 ⊢
    have l2 : xs2.length = 13 := by rw [← hxs]; rfl
    clear hxs
    have s9' := ((((s10.trans s11).trans s12).trans s13).trans s14).trans s15
    obtain ⟨s16, u16⟩ := laid (.lst xs2) hq16
    have ex16 := ex15.same s16
    have g16 : ∀ v ∈ xs1 ++ xs2, GV K p (upd H15 q16 (.lst xs2)) v := fun v hv => by
      rcases List.mem_append.mp hv with h | h
      · exact (g9 v h).same (s9'.trans s16)
      · exact (g15 v h).same s16
    have u9' := s16 _ _ (s9' _ _ u9)
    generalize upd H15 q16 (.lst xs2) = H16 at s16 u16 ex16 g16 u9' ⊢
    refine ⟨q9, q16, xs1, xs2, rfl, rfl, u9', u16, by omega, fun q17 hq17 => ?_⟩
    have n17 := notp ex16 hq17
    obtain ⟨s17, u17⟩ := laid (.lst (xs1 ++ xs2)) hq17
    have ex17 := ex16.same s17
    have g17 := fun v hv => (g16 v hv).same s17
    generalize upd H16 q17 (.lst (xs1 ++ xs2)) = H17 at s17 u17 ex17 g17 ⊢
    have l3 : (xs1 ++ xs2).length = 23 := by rw [List.length_append]; omega
    generalize xs1 ++ xs2 = xs3 at g17 u17 l3 ⊢
    clear g16 g15 g9 u9' u16 u9 s16 s15 s14 s13 s12 s11 s10 s9' u10 u11 u12 u13 u14 u15
    -- the last ones
    refine ⟨_, rfl, _, rfl, rfl, (show 1 ≤ sizeLine by decide), fun q18 hq18 => ?_⟩
    obtain ⟨s18, u18⟩ := laid (.tup [.str "a"]) hq18
    have ex18 := ex17.same s18
    generalize upd H17 q18 (.tup [.str "a"]) = H18 at s18 u18 ex18 ⊢
    refine ⟨q18, rfl, .inl (.inl u18), fun x dx ws H19 s19 h19 => ?_⟩
    have ex19 := ex18.same s19
    have gx : GV K p H19 (.ref x) := by
      obtain ⟨a, b, c, h⟩ := ex19.pot
      refine .slt (fun z => ?_) (fun z => ?_) h19 PC.sc PC.si PC.no
      · have := h19.1
        rw [z, h] at this
        cases this
      · have := h19.2
        rw [z, h] at this
        cases this
    have hup : (Txt.upper z).length ≤ 100000 := by
      have := PyProof.Rows.len_upper z
      omega
    refine ⟨_, rfl, ⟨_, rfl⟩, z, rfl, rfl, by omega, _, rfl, _, _, rfl, rfl, ?_, _, rfl, _, _, rfl, rfl, ?_, (show 4 ≤ sizeLine by decide), fun q20 hq20 => ?_⟩
    · have : ("F" : Str).length = 1 := by decide +kernel
      omega
    · have : ("_" : Str).length = 1 := by decide +kernel
      omega
    have lF : (z ++ ("F" : Str)).length ≤ 100000 := by
      rw [Str.length_append]
      have : ("F" : Str).length = 1 := by decide +kernel
      omega
    have lU : (("_" : Str) ++ z).length ≤ 100000 := by
      rw [Str.length_append]
      have : ("_" : Str).length = 1 := by decide +kernel
      omega
    have g19 : ∀ v ∈ [V.ref x, .str (Txt.upper z), .str (z ++ ("F" : Str)), .str (("_" : Str) ++ z)], GV K p H19 v := by
      intro v hv
      simp only [List.mem_cons, List.not_mem_nil, or_false] at hv
      rcases hv with rfl | rfl | rfl | rfl
      · exact gx
      · exact .str hup
      · exact .str lF
      · exact .str lU
    generalize hxs : [V.ref x, .str (Txt.upper z), .str (z ++ ("F" : Str)), .str (("_" : Str) ++ z)] = xs4 at g19 ⊢
    have l4 : xs4.length = 4 := by rw [← hxs]; rfl
    clear hxs
    obtain ⟨s20, u20⟩ := laid (.lst xs4) hq20
    have ex20 := ex19.same s20
    have s17' := (s18.trans s19).trans s20
    have g20 : ∀ v ∈ xs3 ++ xs4, GV K p (upd H19 q20 (.lst xs4)) v := fun v hv => by
      rcases List.mem_append.mp hv with h | h
      · exact (g17 v h).same s17'
      · exact (g19 v h).same s20
    have u17' := s17' _ _ u17
    generalize upd H19 q20 (.lst xs4) = H20 at s20 u20 ex20 g20 u17' ⊢
    refine ⟨q17, q20, xs3, xs4, rfl, rfl, u17', u20, by omega, fun q21 hq21 => ?_⟩
    have n21 := notp ex20 hq21
    obtain ⟨s21, u21⟩ := laid (.lst (xs3 ++ xs4)) hq21
    have ex21 := ex20.same s21
    refine ⟨p, _, rfl, ex21.pot, .inr ⟨q21, _, rfl, n21, SqL.of u21, by rw [List.length_append]; omega, by rw [List.length_append]; omega, fun v a b c hv => ?_⟩⟩
    refine hQ v _ (((g20 v hv).same s21).keep Ex.turn.keep) (ex21.trans Ex.turn)
end
end MN
/-! _law_values_right -/
namespace MN
open PySem PySem.Spec PyProof.Rows L2
/-- two truths shown -/
theorem show2 (b c : Bool) : PyData.showable (.list [.bool b, .bool c]) = true ∧ PyData.hasDict (.list [.bool b, .bool c]) = false ∧ PyData.depth (.list [.bool b, .bool c]) ≤ 60 ∧ (PyData.shown (.list [.bool b, .bool c])).length ≤ sizeLine := by
  refine ⟨?_, ?_, ?_, ?_⟩ <;> cases b <;> cases c <;> decide +kernel
theorem dp2 {K : PySem.W.Frag} {H : Hp} {D : Addr} {b c : Bool} (h : SqL K H D [.bl b, .bl c]) : Dp K H (.ref D) (.list [.bool b, .bool c]) := .lst h (.cons (.bl b) (.cons (.bl c) .nil))
theorem due {v : V} {H : Hp} {Q : VK} {σ : L2.St} {tl : TE} (hl : ∀ z (Q : VK), v = .str z → Q (.bl (decide (V.int ((z.length : Nat) : Int) = V.int 1))) H → tl σ H Q) (hR : Q (.bl (isSign v)) H) : if isWord v = true then tl σ H Q else Q (.bl false) H := by
  cases hv : isWord v with
  | false =>
    refine iteF ?_
    have : isSign v = false := by
      cases v with
      | str z =>
        have hz : isWordS z = false := hv
        simp [isSign, hz]
      | _ => rfl
    rw [this] at hR
    exact hR
  | true =>
    refine iteT ?_
    cases v with
    | str z =>
      refine hl z Q rfl ?_
      have hz : isWordS z = true := hv
      have : isSign (.str z) = decide (V.int ((z.length : Nat) : Int) = V.int 1) := by
        simp only [isSign, hz, Bool.and_true]
        by_cases h1 : z.length = 1
        · rw [decide_eq_true h1, decide_eq_true (by rw [h1]; rfl)]
        · rw [decide_eq_false h1, decide_eq_false (fun q => h1 (by injection q with q; omega))]
      rw [← this]
      exact hR
    | _ => cases hv
section
variable {P : Program} {w : World} {K : PySem.W.Frag} {mg : Str → Option Value} {base : Heap}
abbrev N_law_values_right : List Str := ["_law_pot", "_law_turn", "_law_value_here", "_law_due", "_law_again"]
theorem sc_law_values_right : FnScope N_law_values_right ["_law_pot"] (defScope (top 36)) := ⟨rfl, rfl, rfl, by decide +kernel, rfl, by decide +kernel, by decide +kernel⟩
theorem c_law_values_right (A : At K mg "_law_values_right" (top 36)) (B : Blt mg) (c_law_value : Cal P w K mg base 7 "_law_value" (spValue K)) (c_law_is_word : Cal P w K mg base 1 "_law_is_word" (spLIsWord K)) (c_is_sign : Cal P w K mg base 1 "is_sign" (spIsSign K)) (c_is_word : Cal P w K mg base 1 "is_word" (spIsWord K)) :
    CalG P w K mg base 8 "_law_values_right" spPotTrue := by
  refine calG_of A sc_law_values_right (fun _ _ _ _ _ _ us hl => match us, hl with | [_], _ => rfl) (fun vs H Q E h => ?_) (fun _ cdv A outer s H vs Q E gd hr h => ?_)
  · obtain ⟨_, rfl, _⟩ := h; rfl
  · obtain ⟨p, rfl, hp, hQ⟩ := h
    refine ⟨_, (pss_cons (ps_for PassesOwn.never rfl (pi_range1 (by rfl) B.range (pa_cons pe_int pa_nil)) (pg_name (i := 1) sc_law_values_right.nd rfl (Or.inl rfl))
      (pss_cons (ps_set (i := 2) sc_law_values_right.nd rfl (Or.inl rfl) (pe_c c_law_value hr (by decide) (by rfl) (pa_cons (pv 0) pa_nil)))
      (pss_cons (ps_set (i := 3) sc_law_values_right.nd rfl (Or.inl rfl) (pe_lst (pa_cons (pe_and (pe_c c_law_is_word hr (by decide) (by rfl) (pa_cons (pv 2) pa_nil)) (pe_one (pe_cmpR op_eq (pe_callB call_len_str (by rfl) B.len (by decide +kernel) (pa_cons (pv 2) pa_nil)) pe_int (nomark _)))) (pa_cons (pe_c c_law_is_word hr (by decide) (by rfl) (pa_cons (pv 2) pa_nil)) pa_nil))))
      (pss_one (ps_for PassesOwn.never rfl (pi_range1 (by rfl) B.range (pa_cons pe_int pa_nil)) (pg_name (i := 4) sc_law_values_right.nd rfl (Or.inl rfl))
        (pss_one (ps_if (pt_cmpR op_ne (pe_callB (call_repr gd hr.units) (by rfl) B.repr (by decide +kernel) (pa_cons (pe_lst (pa_cons (pe_c c_is_sign hr (by decide) (by rfl) (pa_cons (pv 2) pa_nil)) (pa_cons (pe_c c_is_word hr (by decide) (by rfl) (pa_cons (pv 2) pa_nil)) pa_nil))) pa_nil)) (pe_callB (call_repr gd hr.units) (by rfl) B.repr (by decide +kernel) (pa_cons (pv 3) pa_nil)) (nomark _))
          (pss_one (ps_ret pe_bl))
          pss_nil)))))))
      (pss_one (ps_ret pe_bl))), ?_⟩
    refine ⟨4, rfl, by omega, by omega, for_it (walk_range (lo := 0)) (fun i σ H' => Ex p H H' ∧ ∃ o1 o2 o3 o4, σ = [some (.ref p), o1, o2, o3, o4]) ⟨.refl hp, _, _, _, _, rfl⟩ (fun _ _ _ _ _ => trivial) (fun i x σ H1 H1' hi e y => ?_) (fun σ H' e => hQ _ e.1)⟩
    obtain ⟨rfl, rfl⟩ := y
    obtain ⟨ex, o1, o2, o3, o4, rfl⟩ := e
    refine ⟨_, rfl, p, rfl, ex.pot, fun v H2 gv ex2 => ?_⟩
    have ex2 := ex.trans ex2
    -- _law_due
    refine ⟨_, rfl, v, rfl, gv.ok, _, rfl, ?_⟩
    refine due (fun z Q e q => ?_) ?_
    · subst e
      obtain ⟨z', e, hz⟩ | ⟨hn, _⟩ := gv.ok
      · cases e
        exact ⟨_, rfl, z, rfl, Nat.le_trans hz (by decide), rfl, q⟩
      · exact absurd rfl (hn z)
    refine ⟨_, rfl, v, rfl, gv.ok, (show 2 ≤ sizeLine by decide), fun D hD => ?_⟩
    have nD : D ≠ p := fun z => by
      obtain ⟨a, b, c, h⟩ := ex2.pot
      rw [z, h] at hD; cases hD
    obtain ⟨s3, u3⟩ := laid (.lst [.bl (isSign v), .bl (isWord v)]) hD
    have ex3 := ex2.same s3
    have gv3 := gv.same s3
    generalize upd H2 D (.lst [.bl (isSign v), .bl (isWord v)]) = H3 at s3 u3 ex3 gv3 ⊢
    -- twice
    refine ⟨2, rfl, by omega, by omega, for_it (walk_range (lo := 0)) (fun i σ H' => Same H3 H' ∧ ∃ o1 o4, σ = [some (.ref p), o1, some v, some (.ref D), o4]) ⟨Same.refl _, _, _, rfl⟩ (fun _ _ _ _ _ => trivial) (fun i x σ H1 H1' hi e y => ?_) (fun σ H' e => ?_)⟩
    · obtain ⟨rfl, rfl⟩ := y
      obtain ⟨s4, o1, o4, rfl⟩ := e
      have gv4 := gv3.same s4
      refine ⟨_, rfl, v, rfl, gv4.ok, _, rfl, v, rfl, gv4.ok, fun H5 s5 => ⟨(show 2 ≤ sizeLine by decide), fun D2 hD2 => ?_⟩⟩
      obtain ⟨s6, u6⟩ := laid (.lst [.bl (isSign v), .bl (isWord v)]) hD2
      have s7 := (s4.trans s5).trans s6
      generalize upd H5 D2 (.lst [.bl (isSign v), .bl (isWord v)]) = H6 at s6 u6 s7 ⊢
      obtain ⟨w1, w2, w3, w4⟩ := show2 (isSign v) (isWord v)
      refine ⟨.ref D2, _, rfl, dp2 (SqL.of u6), rfl, w1, w2, w3, w4, _, rfl, .ref D, _, rfl, dp2 (SqL.of (s7 _ _ u3)), rfl, w1, w2, w3, w4, ?_⟩
      refine ⟨rfl, false, by simp, ?_⟩
      exact iteF ⟨s7, _, _, rfl⟩
    · obtain ⟨s4, o1, o4, rfl⟩ := e
      exact ⟨ex3.same s4, _, _, _, _, rfl⟩
end
end MN
/-! law -/
namespace MN
open PySem PySem.Spec PyProof.Rows L2
def longS : Str := repS "ab" 600
theorem longS_len : longS.length = 1200 := by unfold longS; rw [repS_length]; decide +kernel
theorem one_len {c : Nat} : (⟨#[c]⟩ : Str).length = 1 := rfl
theorem app_len (z : Str) (c : Nat) : (z ++ ⟨#[c]⟩).length = z.length + 1 := by rw [Str.length_append]; rfl
theorem lt_app {xs : List Nat} {c d : Nat} (h : c < d) : xs ++ [c] < xs ++ [d] := by
  induction xs with
  | nil => exact List.Lex.rel h
  | cons x xs ih => exact List.Lex.cons ih
theorem app_cps (z : Str) (c : Nat) : (z ++ ⟨#[c]⟩ : Str).cps.toList = z.cps.toList ++ [c] := by
  show (z.cps ++ #[c]).toList = _
  simp
theorem ord_long : ord [longS ++ ("b" : Str), ("e" : Str), longS ++ ("a" : Str), "", longS ++ ("b" : Str)] = [("" : Str), "e", longS ++ ("a" : Str), longS ++ ("b" : Str)] := by
  have hb : (longS ++ ("b" : Str)).length = 1201 := by rw [Str.length_append, longS_len]; decide +kernel
  have ha : (longS ++ ("a" : Str)).length = 1201 := by rw [Str.length_append, longS_len]; decide +kernel
  have he : ("e" : Str).length = 1 := by decide +kernel
  have h0 : ("" : Str).length = 0 := by decide +kernel
  have hlt : (longS ++ ("a" : Str)).cps.toList < (longS ++ ("b" : Str)).cps.toList := by
    have e1 : ("a" : Str) = ⟨#[97]⟩ := by decide +kernel
    have e2 : ("b" : Str) = ⟨#[98]⟩ := by decide +kernel
    rw [e1, e2, app_cps, app_cps]
    exact lt_app (by decide)
  refine (ord_eq (ys := [("" : Str), "e", longS ++ ("a" : Str), longS ++ ("b" : Str)]) fun z => ?_).trans (ord_of ?_)
  · simp only [List.mem_cons, List.not_mem_nil, or_false]
    constructor
    · rintro (h | h | h | h | h) <;> simp [h]
    · rintro (h | h | h | h) <;> simp [h]
  · refine .cons (fun y hy => ?_) (.cons (fun y hy => ?_) (.cons (fun y hy => ?_) (.cons (fun y hy => ?_) .nil)))
    · simp only [List.mem_cons, List.not_mem_nil, or_false] at hy
      rcases hy with rfl | rfl | rfl
      · exact .inl (by omega)
      · exact .inl (by omega)
      · exact .inl (by omega)
    · simp only [List.mem_cons, List.not_mem_nil, or_false] at hy
      rcases hy with rfl | rfl
      · exact .inl (by omega)
      · exact .inl (by omega)
    · simp only [List.mem_cons, List.not_mem_nil, or_false] at hy
      subst hy
      exact .inr ⟨by omega, hlt⟩
    · exact nomatch hy
theorem long_word : isWordS longS = true := by unfold longS isWordS repS; simp [List.all_flatten, sgn]; decide +kernel
theorem word_app {a b : Str} (ha : isWordS a = true) (hb : isWordS b = true) : isWordS (a ++ b) = true := by
  unfold isWordS at *
  show ((a.cps ++ b.cps).toList.all sgn) = true
  rw [Array.toList_append, List.all_append, ha, hb]
  rfl
section
variable {P : Program} {w : World} {K : PySem.W.Frag} {mg : Str → Option Value} {base : Heap}
/-- as many lists of two truths -/
theorem dp_tt {H : Hp} : ∀ {ds : List Addr}, (∀ d ∈ ds, H d = some (.lst [.bl true, .bl true])) → DpAll K H (ds.map V.ref) (List.replicate ds.length (.list [.bool true, .bool true]))
  | [], _ => .nil
  | d :: ds, h => .cons (dp2 (SqL.of (h d List.mem_cons_self))) (dp_tt fun e he => h e (List.mem_cons_of_mem _ he))
def spLaw (K : PySem.W.Frag) : Sp := fun vs H Q _ => ∃ (a : Addr) (ns : List Int), vs = [.ref a] ∧ SqL K H a (ns.map V.int) ∧ ns.length ≤ 1000 ∧ ∀ H', Q (.bl true) H'
abbrev N_law : List Str := ["_law_script", "_law_at", "_law_pot", "_law_told", "_law_long", "_law_one"]
theorem sc_law : FnScope N_law ["_law_script"] (defScope (top 38)) := ⟨rfl, rfl, rfl, by decide +kernel, rfl, by decide +kernel, by decide +kernel⟩
theorem f_law {f : Addr} {fd : FuncData} (F : FunD K "law" "law" (defArgs (top 38)) (defBody (top 38)) (defScope (top 38)) [] [] f fd) (B : Blt mg) (GW : GlC mg "MAX_WORD" (.int 1000)) (c_law_filled : Cal P w K mg base 1 "_law_filled" (spFilled K)) (c_law_values_right : CalG P w K mg base 8 "_law_values_right" spPotTrue) (c_law_order_right : Cal P w K mg base 4 "_law_order_right" spPotTrue)
    (c_is_sign : Cal P w K mg base 1 "is_sign" (spIsSign K)) (c_is_word : Cal P w K mg base 1 "is_word" (spIsWord K)) (c_ordered : Cal P w K mg base 3 "ordered" (spOrdered K)) : FnG P w K mg base 9 f fd ["_law_script"] (spLaw K) := by
  refine fnG_of F sc_law (fun vs H Q E h => ?_) (fun cdv A outer s H vs Q E gd hr h => ?_)
  · obtain ⟨_, _, rfl, _⟩ := h; rfl
  · obtain ⟨a, ns, rfl, ha, hn, hQ⟩ := h
    refine ⟨_, (pss_cons (ps_for PassesOwn.never rfl (pi_range1 (by rfl) B.range (pa_cons (pe_callB (call_max2 rfl) (by rfl) B.max (by decide +kernel) (pa_cons pe_int (pa_cons (pe_callB (call_min2 rfl) (by rfl) B.min (by decide +kernel) (pa_cons pe_int (pa_cons (pe_callB call_len_seq (by rfl) B.len (by decide +kernel) (pa_cons (pv 0) pa_nil)) pa_nil))) pa_nil))) pa_nil)) (pg_name (i := 1) sc_law.nd rfl (Or.inl rfl))
        (pss_cons (ps_set (i := 2) sc_law.nd rfl (Or.inl rfl) (pe_c c_law_filled hr (by decide) (by rfl) (pa_cons (pv 0) (pa_cons (pv 1) pa_nil))))
        (pss_one (ps_if (PW.pt (pw_or (pt_not (pt_val (pe_cG c_law_values_right gd hr (by decide) (by rfl) (pa_cons (pv 2) pa_nil)))) (pw_or1 (pt_not (pt_val (pe_c c_law_order_right hr (by decide) (by rfl) (pa_cons (pv 2) pa_nil)))))))
          (pss_one (ps_ret pe_bl))
          pss_nil))))
      (pss_cons (ps_par (i := 3) (j := 4) (by rfl) sc_law.nd rfl rfl (by decide) rfl rfl (pa_cons (pe_lc (own := [("_law_one", 5)]) (g := gName 5) (tt := tYes) (by rfl) sc_law.nd (pi_str (pe_gl (by rfl) B.SIGNS)) (blkOk_by (own := [("_law_one", 5)]) (N := N_law) (sc := defScope (top 38)) (by decide +kernel)) (fun _ _ _ _ _ => (pg_name (i := 5) sc_law.nd rfl (Or.inl rfl))) (fun _ _ _ _ _ => pts_nil) (fun _ _ _ _ _ => (pe_lst (pa_cons (pe_c c_is_sign hr (by decide) (by rfl) (pa_cons (pv 5) pa_nil)) (pa_cons (pe_c c_is_word hr (by decide) (by rfl) (pa_cons (pv 5) pa_nil)) pa_nil))))) (pa_cons (pe_op op_repS pe_str pe_int) pa_nil)) (by rfl))
      (pss_cons (ps_if (pt_cmpR (op_neD hr.units) (pe_c c_ordered hr (by decide) (by rfl) (pa_cons (pe_tup (pa_cons (pe_op op_add_str (pv 4) pe_str) (pa_cons pe_str (pa_cons (pe_op op_add_str (pv 4) pe_str) (pa_cons pe_str (pa_cons (pe_op op_add_str (pv 4) pe_str) pa_nil)))))) pa_nil)) (pe_tup (pa_cons pe_str (pa_cons pe_str (pa_cons (pe_op op_add_str (pv 4) pe_str) (pa_cons (pe_op op_add_str (pv 4) pe_str) pa_nil))))) (nomark _))
        (pss_one (ps_ret pe_bl))
        pss_nil)
      (pss_one (ps_ret (pe_and (pe_cmpR (op_eqD hr.units) (pv 3) (pe_op op_rep (pe_lst (pa_cons (pe_lst (pa_cons pe_bl (pa_cons pe_bl pa_nil))) pa_nil)) pe_int) (nomark _)) (pe_and (pe_cmpR op_eq (pe_gl (by rfl) B.SIGNS) pe_str (nomark _)) (pe_and (pe_cmpR op_eq (pe_gl (by rfl) GW) pe_int (nomark _)) (pe_and (pe_c c_is_word hr (by decide) (by rfl) (pa_cons pe_str pa_nil)) (pe_one (pe_not (pe_c c_is_sign hr (by decide) (by rfl) (pa_cons pe_str pa_nil))))))))))))), ?_⟩
    -- the turns
    refine ⟨_, rfl, a, _, rfl, .inl ha, _, _, rfl, _, _, rfl, _, rfl, ?_, ?_, for_it (walk_range (lo := 0)) (fun i σ H' => SqL K H' a (ns.map V.int) ∧ ∃ o1 o2, σ = [some (.ref a), o1, o2, none, none, none]) ⟨ha, _, _, rfl⟩ (fun _ _ _ _ _ => trivial) (fun i x σ H1 H1' hi e y => ?_) (fun σ H1 e => ?_)⟩
    · rw [List.length_map]; split <;> split <;> omega
    · rw [List.length_map]; split <;> split <;> omega
    · obtain ⟨rfl, rfl⟩ := y
      obtain ⟨ha1, o1, o2, rfl⟩ := e
      have hi6 : i < 10 := by
        rw [List.length_map] at hi
        split at hi <;> split at hi <;> omega
      refine ⟨_, rfl, _, rfl, a, _, ns, rfl, ha1, by omega, by omega, fun q H2 hq s2 hp2 => ?_⟩
      refine ⟨_, rfl, q, rfl, hp2, fun H3 ex3 => ⟨_, rfl, iteF ⟨_, rfl, q, rfl, ex3.pot, fun H4 ex4 => ⟨_, rfl, iteF ?_⟩⟩⟩⟩
      have ex5 := ex3.trans ex4
      refine ⟨?_, _, _, rfl⟩
      rcases ha1 with (h | ⟨o, h⟩) | h
      · exact .inl (.inl (ex5.keep _ _ (ne_of_none h hq) (s2 _ _ h)))
      · exact .inl (.inr ⟨o, ex5.keep _ _ (ne_of_none h hq) (s2 _ _ h)⟩)
      · exact .inr h
    obtain ⟨-, o1, o2, rfl⟩ := e
    -- the signs
    refine ⟨"abcde", rfl, fun D hD => lc_it walk_str (fun i H' => Same H1 H' ∧ ∃ ds : List Addr, ds.length = i ∧ H' D = some (.lst (ds.map V.ref)) ∧ ∀ d ∈ ds, d ≠ D ∧ H' d = some (.lst [.bl true, .bl true])) ⟨same_new hD, [], rfl, upd_same, by simp⟩ (fun _ _ _ _ => trivial) (fun i x H2 H2' hi e y => ?_) (fun H2 e => ?_)⟩
    · obtain ⟨rfl, c, hc, rfl⟩ := y
      obtain ⟨s2, ds, hl, h2, hd⟩ := e
      have hc' : isSign (.str ⟨#[c]⟩) = true ∧ isWord (.str ⟨#[c]⟩) = true := by
        have hm : c ∈ ("abcde" : Str).cps.toList := by
          have : ("abcde" : Str).cps.toList[i]? = some c := by simpa using hc
          exact List.mem_of_getElem? this
        constructor
        · simp [isSign, isWordS, Str.length, sgn, hm]
        · simp [isWord, isWordS, sgn, hm]
      refine ⟨rfl, yes_q (iteT ⟨_, rfl, _, rfl, .str (show 1 ≤ 100000 by decide), _, rfl, _, rfl, .str (show 1 ≤ 100000 by decide), fun H3 s3 => ⟨(show 2 ≤ sizeLine by decide), fun q hq => ?_⟩⟩)⟩
      rw [hc'.1, hc'.2]
      have hDq : D ≠ q := ne_of_none (s3 _ _ h2) hq
      have hi5 : i < 5 := hi
      refine ⟨_, (by rw [upd_ne hDq]; exact s3 _ _ h2), ?_, fun b o e => ?_, ds ++ [q], by simp [hl], by rw [upd_same]; simp, fun d hd' => ?_⟩
      · rw [List.length_map]
        have : 100 < sizeLine := by decide
        omega
      · rw [upd_ne (ne_of_none e hD)]
        exact same_new hq _ _ (s3 _ _ (s2 _ _ e))
      · rcases List.mem_append.mp hd' with h | h
        · refine ⟨(hd d h).1, ?_⟩
          rw [upd_ne (hd d h).1]
          exact same_new hq _ _ (s3 _ _ (hd d h).2)
        · rw [List.mem_singleton] at h
          subst h
          exact ⟨hDq.symm, by rw [upd_ne hDq.symm, upd_same]⟩
    obtain ⟨s2, ds, hl, h2, hd⟩ := e
    have hl5 : ds.length = 5 := hl
    refine ⟨_, _, rfl, rfl, by decide, by decide, by decide +kernel, _, _, rfl, ?_⟩
    rw [show repS (("ab" : Str)) 600 = longS from rfl]
    -- words put in order
    have l1 : ∀ z : Str, z.length = 1 → longS.length + z.length ≤ sizeLine := fun z hz => by
      rw [longS_len, hz]; decide
    refine ⟨_, rfl, _, _, rfl, rfl, l1 _ (by decide +kernel), _, rfl, _, _, rfl, rfl, l1 _ (by decide +kernel), _, rfl, _, _, rfl, rfl, l1 _ (by decide +kernel), (show 5 ≤ sizeLine by decide), fun T hT => ?_⟩
    have wl : ∀ z : Str, z.length ≤ 1 → isWordS z = true → isWordS (longS ++ z) = true ∧ (longS ++ z).length ≤ 100000 := fun z h1 h2 => ⟨word_app long_word h2, by rw [Str.length_append, longS_len]; omega⟩
    have ws : ∀ z ∈ [longS ++ ("b" : Str), ("e" : Str), longS ++ ("a" : Str), ("" : Str), longS ++ ("b" : Str)], isWordS z = true ∧ z.length ≤ 100000 := by
      intro z hz
      simp only [List.mem_cons, List.not_mem_nil, or_false] at hz
      rcases hz with rfl | rfl | rfl | rfl | rfl
      · exact wl _ (by decide +kernel) (by decide +kernel)
      · exact ⟨by decide +kernel, by decide +kernel⟩
      · exact wl _ (by decide +kernel) (by decide +kernel)
      · exact ⟨by decide +kernel, by decide +kernel⟩
      · exact wl _ (by decide +kernel) (by decide +kernel)
    refine ⟨T, [longS ++ ("b" : Str), ("e" : Str), longS ++ ("a" : Str), ("" : Str), longS ++ ("b" : Str)], rfl, ⟨.inl (.inl upd_same), by decide, ws⟩, fun F H3 hF s3 h3 => ?_⟩
    rw [ord_long] at h3
    have s3' := (s2.trans (same_new hT)).trans s3
    refine ⟨_, rfl, _, _, rfl, rfl, l1 _ (by decide +kernel), _, rfl, _, _, rfl, rfl, l1 _ (by decide +kernel), (show 4 ≤ sizeLine by decide), fun T2 hT2 => ?_⟩
    have h4 := same_new (o := .tup [.str "", .str "e", .str (longS ++ ("a" : Str)), .str (longS ++ ("b" : Str))]) hT2 _ _ h3
    have s4 := s3'.trans (same_new (o := .tup [.str "", .str "e", .str (longS ++ ("a" : Str)), .str (longS ++ ("b" : Str))]) hT2)
    have hd4 : ∀ d ∈ ds, upd H3 T2 (.tup [.str "", .str "e", .str (longS ++ ("a" : Str)), .str (longS ++ ("b" : Str))]) d = some (.lst [.bl true, .bl true]) := fun d h => same_new hT2 _ _ (s3 _ _ (same_new hT _ _ (hd d h).2))
    have hD4 := same_new (o := .tup [.str "", .str "e", .str (longS ++ ("a" : Str)), .str (longS ++ ("b" : Str))]) hT2 _ _ (s3 _ _ (same_new hT _ _ h2))
    have h5 : upd H3 T2 (.tup [.str "", .str "e", .str (longS ++ ("a" : Str)), .str (longS ++ ("b" : Str))]) T2 = some (.tup (([("" : Str), "e", longS ++ ("a" : Str), longS ++ ("b" : Str)]).map V.str)) := upd_same
    have shO : SeqAt.shaped (.tuple ([("" : Str), "e", longS ++ ("a" : Str), longS ++ ("b" : Str)].map PyData.str)) = true := shapedT (words_shape fun z hz => by
      simp only [List.mem_cons, List.not_mem_nil, or_false] at hz
      rcases hz with rfl | rfl | rfl | rfl
      · decide +kernel
      · decide +kernel
      · exact (wl _ (by decide +kernel) (by decide +kernel)).1
      · exact (wl _ (by decide +kernel) (by decide +kernel)).1)
    generalize upd H3 T2 (.tup [.str "", .str "e", .str (longS ++ ("a" : Str)), .str (longS ++ ("b" : Str))]) = H4 at h4 s4 hd4 hD4 h5 ⊢
    refine ⟨_, _, dpT (.inl (.inl h4)), dpT (.inl (.inl h5)), shO, shO, false, by rw [eqv_self shO]; rfl, iteF ?_⟩
    -- the truths
    refine ⟨_, rfl, (show 2 ≤ sizeLine by decide), fun q5 hq5 => ⟨(show 1 ≤ sizeLine by decide), fun q6 hq6 => ?_⟩⟩
    obtain ⟨s5, u5⟩ := laid (.lst [.bl true, .bl true]) hq5
    obtain ⟨s6, u6⟩ := laid (.lst [.ref q5]) hq6
    refine ⟨q6, 5, [.ref q5], rfl, rfl, u6, by decide, by decide, (show 1 * 5 ≤ sizeLine by decide), fun q7 hq7 => ?_⟩
    obtain ⟨s7, u7⟩ := laid (.lst (List.replicate (5 : Int).toNat [V.ref q5]).flatten) hq7
    have s8 := (s5.trans s6).trans s7
    have u5' := s7 _ _ (s6 _ _ u5)
    generalize upd (upd (upd H4 q5 (.lst [.bl true, .bl true])) q6 (.lst [.ref q5])) q7 (.lst (List.replicate (5 : Int).toNat [V.ref q5]).flatten) = H8 at s7 u7 s8 u5' ⊢
    have sh5 : SeqAt.shaped (.list (List.replicate 5 (.list [.bool true, .bool true]))) = true := by decide +kernel
    have d1 : Dp K H8 (.ref D) (.list (List.replicate 5 (.list [.bool true, .bool true]))) := by
      have := dp_tt (K := K) (H := H8) (ds := ds) fun d h => s8 _ _ (hd4 d h)
      rw [hl5] at this
      exact .lst (SqL.of (s8 _ _ hD4)) this
    have d2 : Dp K H8 (.ref q7) (.list (List.replicate 5 (.list [.bool true, .bool true]))) :=
      .lst (SqL.of u7) (dp_tt (K := K) (H := H8) (ds := [q5, q5, q5, q5, q5]) fun d h => by
        have : d = q5 := by simpa using h
        rw [this]; exact u5')
    refine ⟨_, _, d1, d2, sh5, sh5, true, by rw [eqv_self sh5], iteT ?_⟩
    refine ⟨rfl, _, rfl, iteT ⟨rfl, _, rfl, iteT ⟨_, rfl, .str (by decide +kernel), fun H9 s9 => ⟨_, rfl, iteT ⟨_, rfl, .str (by decide +kernel), _, rfl, hQ _⟩⟩⟩⟩⟩
end
end MN
/-! the head's facts: defs at any address, one more Bool -/
namespace MN
open PySem PySem.Spec PyProof.Rows L2
def obsX (ex : PySem.W.Frag → Bool) (fn : List He5.DefA) (K : PySem.W.Frag) : He.AlD := (ex K && fn.all fun d => d.ok K, fn.map fun d => He5.fnA K (d.at_ K))
def SaysX (ex : PySem.W.Frag → Bool) (fn : List He5.DefA) (K : PySem.W.Frag) : Prop := obsX ex fn K = He5.valA fn
def obsXG (n : Nat) (ex : PySem.W.Frag → Bool) (fn : List He5.DefA) (g : Addr → Option Obj) : He.AlD := obsX ex fn (He.frG g (He5.asA g n))
def hookX (n : Nat) (ex : PySem.W.Frag → Bool) (fn : List He5.DefA) : PySem.W.Hook where
  α := He.AlD
  obs := fun s => obsXG n ex fn s.heap.get?
  val := fun _ => He5.valA fn
  says := fun _ h => ∃ K : PySem.W.Frag, K.In h ∧ SaysX ex fn K
  of := fun _ _ e => ⟨_, He.frG_in, e⟩
  keeps := fun _ _ _ ⟨K, hK, c⟩ k => ⟨K, PySem.W.Frag.In.keeps hK k, c⟩
theorem obsXG_eq {n : Nat} {ex : PySem.W.Frag → Bool} {fn : List He5.DefA} {g : Addr → Option Obj} {s : Shared} (h : ∀ a, g a = s.heap.get? a) : obsXG n ex fn g = (hookX n ex fn).obs s := by
  have e : g = s.heap.get? := funext h
  rw [e] <;> rfl
section
variable {ex : PySem.W.Frag → Bool} {fn : List He5.DefA} {K : PySem.W.Frag}
theorem SaysX.all (c : SaysX ex fn K) : ex K = true := (He.ba (show (ex K && fn.all fun d => d.ok K) = true from congrArg (fun z : He.AlD => z.1) c)).1
theorem SaysX.def_ (c : SaysX ex fn K) (i : Nat) {d : He5.DefA} (h : fn[i]? = some d := by rfl) : ∃ fd, L2.FunD K d.name d.qual d.params d.body d.scope (d.dvs K) (d.kws K) (d.at_ K) fd := by
  have c2 := (He.ba (show (ex K && fn.all fun d => d.ok K) = true from congrArg (fun z : He.AlD => z.1) c)).2
  have e : fn.map (fun d => He5.fnA K (d.at_ K)) = fn.map He5.DefA.val := congrArg (fun z : He.AlD => z.2) c
  have e2 : (fn.map fun d => He5.fnA K (d.at_ K))[i]? = (fn.map He5.DefA.val)[i]? := by rw [e]
  rw [List.getElem?_map, List.getElem?_map, h] at e2
  exact He5.DefA.funD (Option.some.inj e2) (List.all_eq_true.mp c2 d (List.mem_of_getElem? h))
end
/-- a def of the top -/
def gDef (x : Str) (st : Stmt) : He5.DefA := { at_ := fun K => He.ga K x, name := x, qual := x, params := defArgs st, body := defBody st, scope := defScope st }
/-! ### a class with slots -/
def scB (K : PySem.W.Frag) (C : Addr) : Bool := PySem.W.plainGet K C Str.empty && (PySem.W.isClsIn K C && (PySem.W.plainOver K C && He.eqO (PySem.W.findIn K (.ref C) "__setattr__") (some (some (.builtin "object.__setattr__")))))
theorem scB_ok {K : PySem.W.Frag} {C : Addr} (h : scB K C = true) : SlX.SCls K C := by
  obtain ⟨h1, h⟩ := He.ba h
  obtain ⟨h2, h⟩ := He.ba h
  obtain ⟨h3, h4⟩ := He.ba h
  exact ⟨h1, h2, h3, He.eqO_ok h4⟩
def siB (K : PySem.W.Frag) (C : Addr) : Bool := He.eqO (PySem.W.findIn K (.ref C) "__class__") (some (some (.builtin "object.__class__"))) && (He.eqO (PySem.W.specialIn K (.builtin "object.__class__") "__get__") (some (some (.builtin "getset_descriptor.__get__"))) &&
  (decide (PySem.W.takesIn K (.builtin "object.__class__") = some true) && decide (PySem.W.mroIn K C (.type "object") = some true)))
theorem siB_ok {K : PySem.W.Frag} {C : Addr} (h : siB K C = true) : SlX.SIsi K C := by
  obtain ⟨h1, h⟩ := He.ba h
  obtain ⟨h2, h⟩ := He.ba h
  obtain ⟨h3, h4⟩ := He.ba h
  exact ⟨He.eqO_ok h1, He.eqO_ok h2, of_decide_eq_true h3, of_decide_eq_true h4⟩
def slB (K : PySem.W.Frag) (C : Addr) (f : Str) : Bool := He.eqO (PySem.W.findIn K (.ref C) f) (some (some (.ref (He.ma K C f)))) && (He.eqO (PySem.W.specialIn K (.ref (He.ma K C f)) "__get__") (some (some (.builtin "member_descriptor.__get__"))) &&
  (decide (PySem.W.takesIn K (.ref (He.ma K C f)) = some true) && (decide (PySem.W.typeIn K (.ref (He.ma K C f)) = some (.type "member_descriptor")) && (match PySem.W.slotIn K (He.ma K C f) C with
    | some i => decide (i < 1000)
    | none => false))))
theorem slB_ok {K : PySem.W.Frag} {C : Addr} {f : Str} (h : slB K C f = true) : ∃ p i, SlX.Slot1 K C f p i := by
  obtain ⟨h1, h⟩ := He.ba h
  obtain ⟨h2, h⟩ := He.ba h
  obtain ⟨h3, h⟩ := He.ba h
  obtain ⟨h4, h5⟩ := He.ba h
  cases e : PySem.W.slotIn K (He.ma K C f) C with
  | none =>
    rw [e] at h5
    cases h5
  | some i =>
    rw [e] at h5
    exact ⟨_, i, He.eqO_ok h1, He.eqO_ok h2, of_decide_eq_true h3, of_decide_eq_true h4, e, of_decide_eq_true h5⟩
/-- attributes and classmethods read off the class -/
def rdB (K : PySem.W.Frag) (C : Addr) : Bool := PySem.W.readsIn K C (.type "type") && He.eqO (PySem.W.specialIn K (.ref C) "__getattribute__") (some (some (.builtin "type.__getattribute__")))
theorem rdB_ok {K : PySem.W.Frag} {C : Addr} (h : rdB K C = true) : ClX.CRead K C (.type "type") := by
  obtain ⟨h1, h2⟩ := He.ba h
  exact ⟨h1, He.eqO_ok h2⟩
def cmB (K : PySem.W.Frag) (C : Addr) (m : Str) : Bool := He5.wrapB K C "classmethod" "classmethod.__get__" m && PySem.W.fnIn K (He5.wf K C "classmethod" m)
theorem cmB_ok {K : PySem.W.Frag} {C : Addr} {m : Str} (h : cmB K C m = true) : ClX.CMet K C (.type "type") m (He.ma K C m) (He5.wf K C "classmethod" m) := by
  obtain ⟨h1, h2⟩ := He.ba h
  exact He5.cmet_of h1 h2
/-! ### names -/
def freeAll (K : PySem.W.Frag) (xs : List Str) : Bool := xs.all fun x => (He.Fa.free x).ok K
def gloAll (K : PySem.W.Frag) (xs : List Str) : Bool := xs.all fun x => (He.Fa.glo x).ok K
section
variable {K : PySem.W.Frag} {h : Heap} {mg : Str → Option Value}
theorem freeAll_ok (X : K.In h) (G : h.Ns mainGlobals mg) {xs : List Str} (c : freeAll K xs = true) : ∀ x ∈ xs, mg x = none := fun x hx => He.free_ok X G (List.all_eq_true.mp c x hx)
theorem gloAll_ok (X : K.In h) (G : h.Ns mainGlobals mg) {xs : List Str} (c : gloAll K xs = true) {x : Str} (hx : x ∈ xs) : mg x = some (.ref (He.ga K x)) := He.glo_ok X G (List.all_eq_true.mp c x hx)
theorem intC_ok (X : K.In h) (G : h.Ns mainGlobals mg) {x : Str} {i : Int} (c : (He.Fa.int x i).ok K = true) : ∃ u, mg x = some u ∧ RelV (.int i) u := by
  obtain ⟨t, e⟩ := He.int_ok X G c
  exact ⟨_, e, t, rfl⟩
theorem strC_ok (X : K.In h) (G : h.Ns mainGlobals mg) {x z : Str} (c : (He.Fa.str x z).ok K = true) : ∃ u, mg x = some u ∧ RelV (.str z) u := by
  obtain ⟨t, e⟩ := He.str_ok X G c
  exact ⟨_, e, t, rfl⟩
end
end MN
/-! the run of the head -/
namespace MN
open PySem PySem.Spec PyProof.Rows L2
def defs00 : List He5.DefA := [gDef "is_integer" (top 10), gDef "is_sign" (top 11), gDef "is_word" (top 12), gDef "are_signs" (top 13), gDef "require_signs" (top 14), gDef "require_words" (top 15), gDef "require_number" (top 16),
  gDef "word_rank" (top 17), gDef "by_words" (top 18), gDef "ordered" (top 19), gDef "is_price" (top 23), gDef "are_prices" (top 25),
  gDef "_law_filled" (top 28), gDef "_law_dip" (top 29), gDef "_law_choose" (top 30), gDef "_law_shuffled" (top 31), gDef "_law_word" (top 32), gDef "_law_value" (top 33), gDef "_law_is_word" (top 34), gDef "_law_is_ahead" (top 35),
  gDef "_law_values_right" (top 36), gDef "_law_order_right" (top 37), gDef "law" (top 38),
  { at_ := fun K => He.ma K (He.ga K "Prices") "__init__", name := "__init__", qual := "Prices.__init__", params := defArgs (inClass (top 26) 1), body := defBody (inClass (top 26) 1), scope := defScope (inClass (top 26) 1) },
  { at_ := fun K => He5.wf K (He.ga K "Prices") "classmethod" "even", name := "even", qual := "Prices.even", params := defArgs (inClass (top 26) 2), body := defBody (inClass (top 26) 2), scope := defScope (inClass (top 26) 2), dfl := [.int 1] }]
def gloN : List Str := ([("is_integer" : Str), ("is_sign" : Str), ("is_word" : Str), ("are_signs" : Str), ("require_signs" : Str), ("require_words" : Str), ("require_number" : Str), ("word_rank" : Str)] : List Str) ++ ([("by_words" : Str), ("ordered" : Str), ("is_price" : Str), ("are_prices" : Str), ("_law_filled" : Str), ("_law_dip" : Str), ("_law_choose" : Str), ("_law_shuffled" : Str)] : List Str) ++ ([("_law_word" : Str), ("_law_value" : Str), ("_law_is_word" : Str), ("_law_is_ahead" : Str), ("_law_values_right" : Str), ("_law_order_right" : Str), ("law" : Str), ("Prices" : Str)] : List Str)
def ex00 (K : PySem.W.Frag) : Bool := gloAll K gloN && (freeAll K bltNames && ((He.Fa.str "SIGNS" "abcde").ok K && ((He.Fa.int "GREATEST" (10 ^ 60)).ok K && ((He.Fa.int "MAX_WORD" 1000).ok K && ((He.Fa.int "MAX_PRICE" 9).ok K &&
  (scB K (He.ga K "Prices") && (siB K (He.ga K "Prices") && (decide (PySem.W.kitOne K (.ref (He.ga K "Prices")) (.type "str") = some false) && (slB K (He.ga K "Prices") "own_put" && (slB K (He.ga K "Prices") "own_out" && (slB K (He.ga K "Prices") "own_swap" &&
  ((He.Fa.mkr "Prices").ok K && (rdB K (He.ga K "Prices") && cmB K (He.ga K "Prices") "even")))))))))))))
abbrev R00 : PySem.W.OpenRow := PySem.W.OpenLaw.row PySem.Challenge.rw_mendnumber_k00_words_judged_and_ordered
abbrev hk00 : PySem.W.Hook := hookX 6 ex00 defs00
def ob00 (s : PySem.W.SharedT) : He.AlD := obsXG 6 ex00 defs00 (HandSHeadRun.getT s)
theorem ob00_eq (s : PySem.W.SharedT) : ob00 s = hk00.obs s.abs := obsXG_eq (HandSHeadRun.getT_eq s)
def names00 : List Str := ([("_wall" : Str), ("MendError" : Str), ("InvalidWord" : Str), ("InvalidPrices" : Str), ("InvalidNumber" : Str), ("SIGNS" : Str), ("MAX_WORD" : Str), ("GREATEST" : Str)] : List Str) ++ ([("is_integer" : Str), ("is_sign" : Str), ("is_word" : Str), ("are_signs" : Str), ("require_signs" : Str), ("require_words" : Str), ("require_number" : Str), ("word_rank" : Str)] : List Str) ++ ([("by_words" : Str), ("ordered" : Str), ("MAX_PRICE" : Str), ("MAX_SWAP" : Str), ("is_price" : Str), ("is_pair" : Str), ("are_prices" : Str), ("Prices" : Str)] : List Str) ++ ([("_law_filled" : Str), ("_law_dip" : Str), ("_law_choose" : Str), ("_law_shuffled" : Str), ("_law_word" : Str), ("_law_value" : Str), ("_law_is_word" : Str), ("_law_is_ahead" : Str)] : List Str) ++ ([("_law_values_right" : Str), ("_law_order_right" : Str)] : List Str)
set_option maxHeartbeats 0 in
theorem run00 (w : World) : HandSHeadRun.RunEq R00 (PySem.W.view R00.prog [38]) hk00 ob00 4000 names00 w := by
  intro os
  kernel_rfl
end MN
/-! the facts and the end -/
namespace MN
open PySem PySem.Spec PyProof.Rows L2
section
variable {P : Program} {w : World} {K : PySem.W.Frag} {h : Heap} {mg : Str → Option Value}
theorem at00 (X : K.In h) (G : h.Ns mainGlobals mg) (c : SaysX ex00 defs00 K) (i : Nat) (x : Str) (st : Stmt) (hi : defs00[i]? = some (gDef x st)) (hx : x ∈ gloN) : At K mg x st := by
  obtain ⟨fd, F⟩ := c.def_ i hi
  exact ⟨_, fd, F, gloAll_ok X G (He.ba c.all).1 hx⟩
theorem price00 (c : SaysX ex00 defs00 K) : PriceC K (He.ga K "Prices") := by
  obtain ⟨_, e⟩ := He.ba c.all
  obtain ⟨_, e⟩ := He.ba e
  obtain ⟨_, e⟩ := He.ba e
  obtain ⟨_, e⟩ := He.ba e
  obtain ⟨_, e⟩ := He.ba e
  obtain ⟨_, e⟩ := He.ba e
  obtain ⟨e1, e⟩ := He.ba e
  obtain ⟨e2, e⟩ := He.ba e
  obtain ⟨e3, e⟩ := He.ba e
  obtain ⟨e4, e⟩ := He.ba e
  obtain ⟨e5, e⟩ := He.ba e
  obtain ⟨e6, e⟩ := He.ba e
  obtain ⟨e7, e⟩ := He.ba e
  obtain ⟨e8, e9⟩ := He.ba e
  obtain ⟨fi, Fi⟩ := c.def_ 23
  obtain ⟨fe, Fe⟩ := c.def_ 24
  exact ⟨scB_ok e1, siB_ok e2, of_decide_eq_true e3, slB_ok e4, slB_ok e5, slB_ok e6, ⟨_, fi, He.mkr_ok e7, Fi⟩, ⟨_, _, _, fe, rdB_ok e8, cmB_ok e9, Fe⟩⟩
theorem facts00 {f : Addr} (X : K.In h) (G : h.Ns mainGlobals mg) (hfa : mg ("law" : Str) = some (.ref f)) (c : SaysX ex00 defs00 K) :
    ∃ fd : FuncData, (∀ (s : Shared) (v : Value), BindsTo s fd ⟨[v], []⟩ [("_law_script", v)]) ∧ ∀ base : Heap, K.In base → base.Ns mainGlobals mg → FnG P w K mg base 9 f fd ["_law_script"] (spLaw K) := by
  obtain ⟨e0, e⟩ := He.ba c.all
  obtain ⟨e1, e⟩ := He.ba e
  obtain ⟨e2, e⟩ := He.ba e
  obtain ⟨e3, e⟩ := He.ba e
  obtain ⟨e4, e⟩ := He.ba e
  obtain ⟨e5, e⟩ := He.ba e
  have B : Blt mg := Blt.of (freeAll_ok X G e1) (strC_ok X G e2)
  have GG : GlC mg "GREATEST" (.int big) := intC_ok X G e3
  have GW : GlC mg "MAX_WORD" (.int 1000) := intC_ok X G e4
  have GP : GlC mg "MAX_PRICE" (.int 9) := intC_ok X G e5
  have PC := price00 c
  have hC : mg "Prices" = some (.ref (He.ga K "Prices")) := gloAll_ok X G e0 (by decide +kernel)
  obtain ⟨fd, F⟩ := c.def_ 22
  have e := hfa.symm.trans (gloAll_ok X G e0 (x := "law") (by decide +kernel))
  cases e
  have b := FunD.bindsA (ps := ["_law_script"]) F fun _ _ _ _ _ _ us hl => match us, hl with | [_], _ => rfl
  refine ⟨fd, fun s v => b s [v] rfl, fun base _ _ => ?_⟩
  have a := fun i x st hi hx => at00 (mg := mg) X G c i x st hi hx
  have c_is_sign : Cal P w K mg base 1 "is_sign" (spIsSign K) := MN.c_is_sign (a 1 _ _ rfl (by decide +kernel)) B
  have c_is_word : Cal P w K mg base 1 "is_word" (spIsWord K) := MN.c_is_word (a 2 _ _ rfl (by decide +kernel)) B
  have c_is_integer : Cal P w K mg base 1 "is_integer" (spIsInt K) := MN.c_is_integer (a 0 _ _ rfl (by decide +kernel)) B GG
  have c_are_signs : Cal P w K mg base 2 "are_signs" (spAreSigns K) := MN.c_are_signs (a 3 _ _ rfl (by decide +kernel)) B c_is_sign
  have c_require_signs : Cal P w K mg base 3 "require_signs" (spReqSigns K) := MN.c_require_signs (a 4 _ _ rfl (by decide +kernel)) c_are_signs
  have c_require_words : Cal P w K mg base 2 "require_words" (spReqWords K) := MN.c_require_words (a 5 _ _ rfl (by decide +kernel)) B c_is_word
  have c_require_number : Cal P w K mg base 2 "require_number" spReqNumber := MN.c_require_number (a 6 _ _ rfl (by decide +kernel)) c_is_integer
  obtain ⟨fk, hk1, _, Fk⟩ := key_rank (P := P) (w := w) (a 7 _ _ rfl (by decide +kernel)) B.len
  have c_by_words : Cal P w K mg base 1 "by_words" (spByWords K) := MN.c_by_words (a 8 _ _ rfl (by decide +kernel)) B hk1 Fk
  have c_ordered : Cal P w K mg base 3 "ordered" (spOrdered K) := MN.c_ordered (a 9 _ _ rfl (by decide +kernel)) B c_require_words c_by_words
  have c_is_price : Cal P w K mg base 2 "is_price" (spIsPrice K) := MN.c_is_price (a 10 _ _ rfl (by decide +kernel)) c_is_integer
  have c_are_prices : Cal P w K mg base 3 "are_prices" spArePrices0 := c_are_prices0 (a 11 _ _ rfl (by decide +kernel)) B GP c_is_sign c_is_price
  have c_law_filled : Cal P w K mg base 1 "_law_filled" (spFilled K) := MN.c_law_filled (a 12 _ _ rfl (by decide +kernel)) B
  have c_law_dip : Cal P w K mg base 1 "_law_dip" spDip := MN.c_law_dip (a 13 _ _ rfl (by decide +kernel)) B
  have c_law_choose : Cal P w K mg base 2 "_law_choose" (spChoose K) := MN.c_law_choose (a 14 _ _ rfl (by decide +kernel)) B c_law_dip
  have c_law_shuffled : Cal P w K mg base 2 "_law_shuffled" (spShuf K) := MN.c_law_shuffled (a 15 _ _ rfl (by decide +kernel)) B c_law_dip
  have c_law_word : Cal P w K mg base 3 "_law_word" spLWord := MN.c_law_word (a 16 _ _ rfl (by decide +kernel)) B c_law_dip c_law_choose
  have c_law_value : Cal P w K mg base 7 "_law_value" (spValue K) := MN.c_law_value (a 17 _ _ rfl (by decide +kernel)) B hC PC (r_even0 PC B GP c_are_prices c_require_signs c_require_number) c_law_dip c_law_choose c_law_word
  have c_law_is_word : Cal P w K mg base 1 "_law_is_word" (spLIsWord K) := MN.c_law_is_word (a 18 _ _ rfl (by decide +kernel)) B
  have c_law_is_ahead : Cal P w K mg base 1 "_law_is_ahead" spAhead := MN.c_law_is_ahead (a 19 _ _ rfl (by decide +kernel)) B
  have c_law_values_right : CalG P w K mg base 8 "_law_values_right" spPotTrue := MN.c_law_values_right (a 20 _ _ rfl (by decide +kernel)) B c_law_value c_law_is_word c_is_sign c_is_word
  have c_law_order_right : Cal P w K mg base 4 "_law_order_right" spPotTrue := MN.c_law_order_right (a 21 _ _ rfl (by decide +kernel)) B c_law_dip c_law_choose c_law_word c_law_shuffled c_ordered c_law_is_ahead
  exact f_law F B GW c_law_filled c_law_values_right c_law_order_right c_is_sign c_is_word c_ordered
end
end MN
open PySem PySem.W PySem.Calls PyProof.Rows
set_option maxHeartbeats 0 in
theorem PySem.Challenge.cw_mendnumber_k00_words_judged_and_ordered_holds : PySem.Challenge.rw_mendnumber_k00_words_judged_and_ordered.Holds := by
  w_on; o_law
  refine HandSHeadRun.head_any (r := OpenLaw.row PySem.Challenge.rw_mendnumber_k00_words_judged_and_ordered) (q := view (OpenLaw.row PySem.Challenge.rw_mendnumber_k00_words_judged_and_ordered).prog [38]) (H := MN.hk00) (ob := MN.ob00) (M := 4000) (loose := MN.names00) (d := HandSHeadRun.topDef (OpenLaw.row PySem.Challenge.rw_mendnumber_k00_words_judged_and_ordered).prog 38) (kwd := []) MN.ob00_eq
    (by kernel_rfl) (fun s => by kernel_rfl) MN.run00 (by kernel_rfl) (by kernel_rfl) (by kernel_rfl) (by rfl) (by first | assumption | decide +kernel) (by decide +kernel) ⟨rfl, rfl, rfl, rfl, rfl, by decide +kernel⟩ ?hw ?hc
  case hw => w_witness2
  case hc =>
    refine MN.walk_g (l := PySem.Challenge.rw_mendnumber_k00_words_judged_and_ordered) (n := 63) (k := 9) (x := "_law_script") rfl (by decide) (by kernel_rfl) ⟨rfl, by decide, by decide⟩ ?F
    intro w mg fa h Y G hmg0
    obtain ⟨K, KX, c⟩ := Y
    have hmg : mg ("law" : PySem.Str) = some (.ref fa) := by
      have e : (HandSHeadRun.topDef (OpenLaw.row PySem.Challenge.rw_mendnumber_k00_words_judged_and_ordered).prog 38).name = ("law" : PySem.Str) := by kernel_rfl
      rw [← e]
      exact hmg0
    obtain ⟨fd, hb, hF⟩ := MN.facts00 (P := (PySem.Challenge.rw_mendnumber_k00_words_judged_and_ordered).prog) (w := w) KX G hmg c
    exact ⟨K, fd, MN.spLaw K, KX, hb, fun H a ns hl _ hS => ⟨a, ns, rfl, hS, Nat.le_trans hl (by decide), fun _ => rfl⟩, hF⟩
