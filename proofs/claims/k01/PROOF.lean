import PyProof.Rows.All
import Wide.All
import OpenK.AllK
import Wide.FinOn
import KE.KStateDown
import KE.SortKeyHeap
import KE.GoesMore
import KE.GoesNew
import KE.KDictZip
import Lean
import HandS.ForMost
import HandS.More
import HandS.Walk
import HandS.Flow
import HandS.Style
import HandS.Conv
import HandS.Defaults
import HandS.IsInst
import HandS.DictComp
import HandS.SortKw
import HandS.Slots
import HandS.SlotsOwn
import HandS.ClsMeth
import HandS.MakeKwOnly
import HandS.Zip
import HandS.TupAny
import HandS.ListItems
import HandS.SetFor
import HandS.Strs
import HandS.CallLocal
import HandS.WordsExc
import HandS.WordsDict
import HandS.Small
import HandS.Head0
import HandS.Head1
import HandS.Head2
import HandS.HeadEnd
import HandS.HeadHook1
import HandS.HeadHook2
import HandS.HeadNt
import HandS.GenList
import PySem.Challenge.RW_mendnumber_k01_whole_all_words_in_order
set_option Elab.async false
set_option linter.all false
set_option maxRecDepth 100000
set_option maxHeartbeats 4000000
/-! defs by their names; promises that hold while nothing is being shown (repr) -/
namespace MN
open PySem PySem.Spec PyProof.Rows L2
/-- the def x of the text st, under its name -/
def At (K : PySem.W.Frag) (mg : Str → Option Value) (x : Str) (st : Stmt) : Prop := ∃ f fd, FunD K x x (defArgs st) (defBody st) (defScope st) [] [] f fd ∧ mg x = some (.ref f)
abbrev BindEq (x : Str) (st : Stmt) (ps : List Str) : Prop := ∀ (kV doc pm : Value) (an : Option Addr) (cdv ct : Value) (us : List Value), us.length = ps.length → bindArgs (PySem.W.fnOf x x (defArgs st) (defBody st) (defScope st) .none kV doc pm an cdv ct) ⟨us, []⟩ = pure (ps.zip us)
/-- a def that may be called by its name -/
structure Cal (P : Program) (w : World) (K : PySem.W.Frag) (mg : Str → Option Value) (base : Heap) (k : Nat) (x : Str) (sp : Sp) : Prop where
  ex : ∃ (f : Addr) (fd : FuncData) (ps : List Str), FnOk P w K mg base CX0 k f fd ps sp ∧ mg x = some (.ref f) ∧ PySem.W.keepIn K (.ref f) = true ∧ Binds K fd ps []
/-- FnOk for calls under which nothing is being shown -/
structure FnG (P : Program) (w : World) (K : PySem.W.Frag) (mg : Str → Option Value) (base : Heap) (k : Nat) (f : Addr) (fd : FuncData) (ps : List Str) (sp : Sp) : Prop where
  len : ∀ vs H Q E, sp vs H Q E → vs.length = ps.length
  run : ∀ (A : Around) (outer : List Env) (s : Shared) (H : Hp) (args : Args) (us : List Value) (vs : List V) (Q : VK) (E : XK), A.guards = some [] → Room k A → Env0 P w K mg base A outer s H →
    BindsTo s fd args (ps.zip us) → Vals vs us → sp vs H Q E → codeAny (model P w) A (.call (.ref f) args) (CR CX0 outer P w H s Q E) s
structure CalG (P : Program) (w : World) (K : PySem.W.Frag) (mg : Str → Option Value) (base : Heap) (k : Nat) (x : Str) (sp : Sp) : Prop where
  ex : ∃ (f : Addr) (fd : FuncData) (ps : List Str), FnG P w K mg base k f fd ps sp ∧ mg x = some (.ref f) ∧ PySem.W.keepIn K (.ref f) = true ∧ Binds K fd ps []
section
variable {X : Cx} {k j : Nat} {x : Str} {sp : Sp} {p pos : Pos} {e : Expr} {es : List Expr} {t : TA}
theorem pe_c (c : Cal X.prog X.w X.K X.mg X.base k x sp) (hr : Room j X.A) (hk : k ≤ j) (hg : Gl X x) (ha : PA X (e :: es) t)
    (hdb : (x == ("__debug__" : Str)) = false := by decide) (he : starEach (e :: es) X.env = (false, eval e X.env) :: starEach es X.env := by rfl)
    (hpl : (backTo pos (starEach es X.env)).any (·.1) = false := by rfl) : PE X (.Call (.Name x p) (e :: es) [] pos) (tCall sp [] E0 t) := by
  obtain ⟨f, fd, ps, F, hm, kp, b⟩ := c.ex
  exact pe_call F (hr.mono hk) hg hm kp b .nil pass0 ha hdb he hpl
theorem run_g {f : Addr} {fd : FuncData} {ps : List Str} {pins : List (Addr × Obj)} {σ : L2.St} {H : Hp} {s : Shared} {Q : VK} {us : List Value} {vs : List V} (F : FnG X.prog X.w X.K X.mg X.base k f fd ps sp) (gd : X.A.guards = some []) (hr : Room k X.A)
    (hb : Binds X.K fd ps []) (I : Inv X pins σ H s) (r : Vals vs us) (h : sp vs H Q E0) : wpAny (model X.prog X.w) X.A (call (.ref f) us) (EP X pins σ Q) X.xe s := by
  have hl : us.length = ps.length := r.length.symm.trans (F.len _ _ _ _ h)
  have hb' := hb s us I.kIn (by rw [List.append_nil]; exact hl)
  rw [List.append_nil] at hb'
  refine wpAny_call (codeAny_mono (F.run X.A X.stack s H ⟨us, []⟩ us vs Q E0 gd hr I.env0 hb' r h) fun r s' hq => ?_)
  match r, hq with
  | .ok (.ret u), hq => exact I.after hq
theorem pe_cG (c : CalG X.prog X.w X.K X.mg X.base k x sp) (gd : X.A.guards = some []) (hr : Room j X.A) (hk : k ≤ j) (hg : Gl X x) (ha : PA X (e :: es) t)
    (hdb : (x == ("__debug__" : Str)) = false := by decide) (he : starEach (e :: es) X.env = (false, eval e X.env) :: starEach es X.env := by rfl)
    (hpl : (backTo pos (starEach es X.env)).any (·.1) = false := by rfl) : PE X (.Call (.Name x p) (e :: es) [] pos) (tCall sp [] E0 t) := by
  obtain ⟨f, fd, ps, F, hm, kp, b⟩ := c.ex
  refine ⟨fun pins s σ H Q I h => ?_⟩
  refine wpAny_Call_Name_kw (ld_glob I hg hm ?_ hdb)
  refine PySem.W.callWith_K (h₀ := X.base) I.ok.mod.kin kp (thn (ha.run pos pins s σ H _ I h) fun us s1 ⟨vs, H1, I1, r, q⟩ => ⟨I1.kIn, ?_⟩) he hpl
  exact run_g F gd (hr.mono hk) b I1 r (List.append_nil vs ▸ (show sp (vs ++ []) H1 Q E0 from q))
/-- a constant of the module -/
theorem pe_gl {v : V} (hg : Gl X x) (h : ∃ u, X.mg x = some u ∧ RelV v u) (hd : (x == ("__debug__" : Str)) = false := by decide) : PE X (.Name x pos) (tC v) := by
  obtain ⟨u, hm, r⟩ := h
  exact pe_glob hg hm r hd
end
section
variable {P : Program} {w : World} {K : PySem.W.Frag} {mg : Str → Option Value} {base : Heap}
theorem Cal.g {k : Nat} {x : Str} {sp : Sp} (c : Cal P w K mg base k x sp) : CalG P w K mg base k x sp := by
  obtain ⟨f, fd, ps, F, hm, kp, b⟩ := c.ex
  exact ⟨f, fd, ps, ⟨F.len, fun A outer s H args us vs Q E _ => F.run A outer s H args us vs Q E⟩, hm, kp, b⟩
theorem cal_of {x : Str} {st : Stmt} {N ps : List Str} {k : Nat} {sp : Sp} (A : At K mg x st) (S : FnScope N ps (defScope st)) (hb : BindEq x st ps)
    (len : ∀ vs H Q E, sp vs H Q E → vs.length = ps.length)
    (hbody : ∀ (f : Addr) (cdv : Value) (A : Around) (outer : List Env) (s : Shared) (H : Hp) (vs : List V) (Q : VK) (E : XK), Room k (A.deeper (envOfC x (defScope st) s.heap.objs.size f cdv)) → sp vs H Q E →
      ∃ t, PSs (cxOf CX0 P w K mg base N x (defScope st) f cdv A outer s H E).nox (defBody st) t ∧ t { nx := fun _ H' => Q .non H', rt := Q } (start N vs) H) : Cal P w K mg base (k + 1) x sp := by
  obtain ⟨f, fd, F, hm⟩ := A
  refine ⟨f, fd, ps, F.ok S len fun cdv A outer s H vs Q E hr h => ?_, hm, F.kp, F.bindsN hb⟩
  obtain ⟨t, h1, h2⟩ := hbody f cdv A outer s H vs Q E hr h
  exact ⟨t, h1.nox, h2⟩
theorem fnG_of {x : Str} {st : Stmt} {N ps : List Str} {k : Nat} {sp : Sp} {f : Addr} {fd : FuncData} (F : FunD K x x (defArgs st) (defBody st) (defScope st) [] [] f fd) (S : FnScope N ps (defScope st))
    (len : ∀ vs H Q E, sp vs H Q E → vs.length = ps.length)
    (hbody : ∀ (cdv : Value) (A : Around) (outer : List Env) (s : Shared) (H : Hp) (vs : List V) (Q : VK) (E : XK), (A.deeper (envOfC x (defScope st) s.heap.objs.size f cdv)).guards = some [] → Room k (A.deeper (envOfC x (defScope st) s.heap.objs.size f cdv)) → sp vs H Q E →
      ∃ t, PSs (cxOf CX0 P w K mg base N x (defScope st) f cdv A outer s H E).nox (defBody st) t ∧ t { nx := fun _ H' => Q .non H', rt := Q } (start N vs) H) : FnG P w K mg base (k + 1) f fd ps sp := by
  refine ⟨len, fun A outer s H args us vs Q E gd hr e0 hb r hsp => ?_⟩
  obtain ⟨oc, od, dV, kV, doc, pm, an, cdv, ct, osl, rfl, lk, hcd, -, -⟩ := F.ex
  have kin : ∀ b o, base.get? b = some o → s.heap.get? b = some o := fun b o e => (e0.bs b o e).1
  have KX : K.In s.heap := e0.mod.kin.keeps kin
  refine codeAny_call_function hr.depth (KX _ _ lk) rfl S.co S.gen rfl (PySem.W.codeRec_of KX hcd) (hb _ _ _ _ ?_)
  refine wpAny_newFunctionEnv_cells S.kind (fun y hy => (S.par y.1 (List.of_mem_zip hy).1).imp id fun q => ⟨q, PySem.W.cellsFrom_some _ _ _ (.inl q)⟩) fun env he s1 ic => ?_
  cases he
  refine ⟨(e0.mod.nolimit.keeps kin).keeps ic.toInCall.keep, codeAny_func ?_⟩
  obtain ⟨t, ht, hq⟩ := hbody cdv A outer s H vs Q E gd (hr.deeper _) hsp
  have I : Inv (cxOf CX0 P w K mg base N x (defScope st) f cdv A outer s H E) [] (start N vs) H s1 := inv_start S hr.hd e0 (len _ _ _ _ hsp) r ic
  refine wpAny_mono (ht.nox.run [] s1 (start N vs) H _ I hq) (fun fl s' hs => ?_) fun _ _ hs => hs
  match fl, hs with
  | .ret u, ⟨v, σ', H', J, rv, q⟩ => exact ⟨v, H', J.os, J.bare, J.base, J.hok, rv, q⟩
  | .next, ⟨σ', H', J, q⟩ => exact ⟨V.non, H', J.os, J.bare, J.base, J.hok, rfl, q⟩
  | .brk, ⟨_, _, _, q⟩ => exact q.elim
  | .cont, ⟨_, _, _, q⟩ => exact q.elim
theorem calG_of {x : Str} {st : Stmt} {N ps : List Str} {k : Nat} {sp : Sp} (A : At K mg x st) (S : FnScope N ps (defScope st)) (hb : BindEq x st ps)
    (len : ∀ vs H Q E, sp vs H Q E → vs.length = ps.length)
    (hbody : ∀ (f : Addr) (cdv : Value) (A : Around) (outer : List Env) (s : Shared) (H : Hp) (vs : List V) (Q : VK) (E : XK), (A.deeper (envOfC x (defScope st) s.heap.objs.size f cdv)).guards = some [] → Room k (A.deeper (envOfC x (defScope st) s.heap.objs.size f cdv)) → sp vs H Q E →
      ∃ t, PSs (cxOf CX0 P w K mg base N x (defScope st) f cdv A outer s H E).nox (defBody st) t ∧ t { nx := fun _ H' => Q .non H', rt := Q } (start N vs) H) : CalG P w K mg base (k + 1) x sp := by
  obtain ⟨f, fd, F, hm⟩ := A
  exact ⟨f, fd, ps, fnG_of F S len (hbody f), hm, F.kp, F.bindsN hb⟩
end
end MN
/-! the end of a law's row: its def called where nothing is being shown -/
namespace MN
open PySem PySem.Spec PyProof.Rows L2
theorem law_g {P : Program} {w : World} {K : PySem.W.Frag} {mg mb : Str → Option Value} {k : Nat} {fa a : Addr} {fd : FuncData} {x : Str} {sp : Sp} {s₁ : Shared} {vs : List Value} {ns : List Int}
    (KX : K.In s₁.heap) (hns : s₁.heap.Ns mainGlobals mg) (hb : s₁.heap.Ns builtinsNs mb) (hbb : ∀ x : Str, x ≠ "__name__" → mb x = bootBuiltins x) (hlim : s₁.heap.NoLimit) (hg : s₁.gens = #[])
    (ha : s₁.heap.get? a = some { cls := .type "list", data := .seq vs.toArray }) (hi : IntsAre vs ns) (hl : ns.length ≤ sizeLine) (hr : Room k callerA)
    (F : ∀ base : Heap, K.In base → base.Ns mainGlobals mg → FnG P w K mg base k fa fd [x] sp) (hbind : ∀ (s : Shared) (u : Value), BindsTo s fd ⟨[u], []⟩ [(x, u)])
    (hsp : ∀ H : Hp, Only H → SqL K H a (ns.map V.int) → sp [.ref a] H (fun v _ => v = .bl true) E0) :
    codeAny (model P w) callerA (.call (.ref fa) ⟨[.ref a], []⟩) (fun r s' => r = .ok (.ret (.bool true)) ∧ OldK s₁.heap s'.heap ∧ s'.os = s₁.os ∧ AllBare s'.gens) s₁ := by
  have rv := vals_ints hi
  have core : ∀ H : Hp, Only H → SqL K H a (ns.map V.int) → HOk P w H s₁.heap → (∀ b u, H b = some u → b = a ∧ K.lookup a = none) →
      codeAny (model P w) callerA (.call (.ref fa) ⟨[.ref a], []⟩) (fun r s' => r = .ok (.ret (.bool true)) ∧ OldK s₁.heap s'.heap ∧ s'.os = s₁.os ∧ AllBare s'.gens) s₁ := by
    intro H hO hS hok hA
    have free : ∀ {b : Addr}, b ≠ a → H b = none := fun {b} hb => by
      cases q : H b with
      | none => rfl
      | some u => exact absurd (hA b u q).1 hb
    have nsK : ∀ {b : Addr} {m : Str → Option Value}, s₁.heap.Ns b m → (hidT s₁.heap H).Ns b m := fun {b m} ⟨o, es, ep, e, d, r⟩ => by
      refine ⟨o, es, ep, hidT_get e (free fun z => ?_), d, r⟩
      rw [z, ha] at e
      cases e
      cases (show Data.seq vs.toArray _ = Data.dict es ep from d)
    have hKb : K.In (hidT s₁.heap H) := fun b o e => by
      refine hidT_get (KX b o e) ?_
      cases q : H b with
      | none => rfl
      | some u =>
        obtain ⟨z, zk⟩ := hA b u q
        rw [z, zk] at e
        cases e
    have hM : Mod K mg (hidT s₁.heap H) := by
      obtain ⟨mc, h1, h2⟩ := hlim
      exact ⟨hKb, nsK hns, ⟨mb, nsK hb, hbb⟩, ⟨mc, nsK h1, h2⟩⟩
    have e0 : Env0 P w K mg (hidT s₁.heap H) callerA [] s₁ H := by
      refine ⟨rfl, hM, fun b o e => of_hidT e, Nat.le_of_eq (hidT_size _ _), trivial, fun b hb => ?_, hok, .of_eq hg⟩
      cases (show b ∈ ([] : List Addr) from hb)
    refine codeAny_mono ((F _ hKb (nsK hns)).run callerA [] s₁ H ⟨[.ref a], []⟩ [.ref a] [.ref a] _ _ rfl hr e0 (hbind s₁ (.ref a)) (.cons rfl .nil) (hsp H hO hS)) fun r s' h => ?_
    match r, h with
    | .ok (.ret u), ⟨v, H', os, bare, un, hok', r', q⟩ =>
      cases (show v = .bl true from q)
      cases (show u = Value.bool true from r')
      refine ⟨rfl, OldK.of_keep fun b o e => ?_, os, bare⟩
      rcases hO b with z | ⟨ob, xs, z⟩
      · exact un.keep b o e z (fun y => nomatch (show b ∈ ([] : List Addr) from y)) (fun y => nomatch (show b ∈ ([] : List Addr) from y))
      · have e1 := (hok b _ z).1
        have e2 := (hok' b _ (un.frzs b ob _ z)).1
        rw [e] at e1
        cases e1
        exact e2
  cases hk : K.lookup a with
  | some o =>
    have e := KX a o hk
    rw [ha] at e
    cases e
    refine core (fun _ => none) (fun _ => .inl rfl) (.inr ⟨_, vs.toArray, _, hk, rfl, rfl, rfl, ?_, by simpa using rv⟩) (fun _ _ z => nomatch z) (fun _ _ z => nomatch z)
    rw [List.size_toArray, hi.length]
    exact hl
  | none =>
    let o : Obj := { cls := .type "list", data := .seq vs.toArray }
    have at_ : ∀ b u, upd (fun _ => none) a (.frz o (.lst (ns.map V.int))) b = some u → b = a ∧ u = .frz o (.lst (ns.map V.int)) := fun b u q => by
      by_cases z : b = a
      · subst z
        rw [upd_same] at q
        exact ⟨rfl, (Option.some.inj q).symm⟩
      · rw [upd_ne z] at q
        cases q
    refine core (upd (fun _ => none) a (.frz o (.lst (ns.map V.int)))) (fun b => ?_) (.inl (.inr ⟨o, upd_same⟩)) (fun b u q => ?_) (fun b u q => ⟨(at_ b u q).1, hk⟩)
    · by_cases z : b = a
      · subst z; exact .inr ⟨_, _, upd_same⟩
      · exact .inl (upd_ne z)
    · obtain ⟨rfl, rfl⟩ := at_ b u q
      exact ⟨ha, by rw [List.length_map]; exact hl, vs, _, rv, ha⟩
theorem walk_g {l : PySem.W.OpenLaw} {n k : Nat} {q : Program} {loose : List Str} {XP : (Str → Option Value) → Heap → Prop} {YP : World → Heap → Prop} {d : DefRec} {x : Str}
    (hn : l.most = some n) (hn2 : n ≤ sizeLine) (hdf : d.params.defaults = []) (hr : Room k callerA)
    (F : ∀ (w : World) (mg : Str → Option Value) (fa : Addr) (h : Heap), YP w h → h.Ns mainGlobals mg → mg d.name = some (.ref fa) →
      ∃ (K : PySem.W.Frag) (fd : FuncData) (sp : Sp), K.In h ∧ (∀ (s : Shared) (u : Value), BindsTo s fd ⟨[u], []⟩ [(x, u)]) ∧
        (∀ (H : Hp) (a : Addr) (ns : List Int), ns.length ≤ n → Only H → SqL K H a (ns.map V.int) → sp [.ref a] H (fun v _ => v = .bl true) E0) ∧
        ∀ base : Heap, K.In base → base.Ns mainGlobals mg → FnG l.prog w K mg base k fa fd [x] sp) :
    PySem.W.WalkO q loose XP YP l.row.toRowW d [] (fun f vs => PySem.call f vs) := by
  refine Att.attach_call hn hdf fun w s₀ s₁ mg mb fa o pm cd doc a vs ns G Y ho hd hcd hmg hobj hints hlen hg => ?_
  obtain ⟨K, fd, sp, KX, hb, hsp, hF⟩ := F w mg fa _ Y G.T.g hmg
  exact law_g KX G.T.g G.T.b G.T.builtins G.T.nolimit hg hobj hints (Nat.le_trans hlen hn2) hr hF hb fun H hO hS => hsp H a ns hlen hO hS
end MN
namespace MN
open PySem L2
def top (i : Nat) : Stmt := PySem.Challenge.pw_mendnumber_k01_whole_all_words_in_order.main.body.getD i (.Pass ⟨0, 0, 0, 0⟩)
end MN
/-! comprehensions whose tests and items leave the heap as it is -/
namespace MN
open PySem PySem.Spec PyProof.Rows L2
theorem seqL_upd {K : PySem.W.Frag} {H : Hp} {a D : Addr} {xs : List V} {o : HO} (h : SqL K H a xs) (hD : H D = none) : SqL K (upd H D o) a xs := by
  rcases h with (h | ⟨o, h⟩) | h
  · exact .inl (.inl (by rw [upd_ne (ne_of_none h hD)]; exact h))
  · exact .inl (.inr ⟨o, by rw [upd_ne (ne_of_none h hD)]; exact h⟩)
  · exact .inr h
theorem seqT_upd {K : PySem.W.Frag} {H : Hp} {a D : Addr} {xs : List V} {o : HO} (h : SqT K H a xs) (hD : H D = none) : SqT K (upd H D o) a xs := by
  rcases h with (h | ⟨o, h⟩) | h
  · exact .inl (.inl (by rw [upd_ne (ne_of_none h hD)]; exact h))
  · exact .inl (.inr ⟨o, by rw [upd_ne (ne_of_none h hD)]; exact h⟩)
  · exact .inr h
theorem Same.seqT {K : PySem.W.Frag} {H H' : Hp} {a : Addr} {xs : List V} (e : Same H H') (h : SqT K H a xs) : SqT K H' a xs := by
  rcases h with (h | ⟨o, h⟩) | h
  · exact .inl (.inl (e _ _ h))
  · exact .inl (.inr ⟨o, e _ _ h⟩)
  · exact .inr h
/-- the reading of a comprehension, from where its source's walk is known -/
abbrev LcGoal (J : It) (g : TG) (tt : TT) (te : TE) (vs : List Nat) (σ : L2.St) (H1 : Hp) (D : Addr) (Qd : Hp → Prop) : Prop := ∃ W : Nat → Nat → Hp → Prop, (∃ m, W 0 m (upd H1 D (.lst []))) ∧ ∀ i m H, W i m H →
  (J.stop i H ∧ Qd H) ∨ (J.go i H ∧ ∃ Nx : Hp → Prop, (∀ H', Nx H' → ∃ m', m' < m ∧ W (i + 1) m' H') ∧ ∀ x H', J.yld i H x H' → g x (wipe σ vs) H' fun σ2 H2 => wipe σ2 vs = wipe σ vs ∧ tt σ2 H2 fun b H3 =>
    if b = true then te σ2 H3 fun y H4 => ∃ acc, H4 D = some (.lst acc) ∧ acc.length < sizeLine ∧ Nx (upd H4 D (.lst (acc ++ [y]))) else Nx H3)
theorem lc_pure {J : It} {n : Nat} {G : Hp → Prop} {Y : Nat → Hp → V → Hp → Prop} (w : Walk J n G Y) (xs : List V) (hn : xs.length = n) (hz : n ≤ 1000000) (hY : ∀ i H x H', i < n → Y i H x H' → H' = H ∧ xs[i]? = some x)
    {j : Nat} {tt : TT} {te : TE} {vs : List Nat} {σ : L2.St} {H1 : Hp} {D : Addr} {Qd : Hp → Prop} (f : V → Bool) (v : V → V) (hG : ∀ acc, G (upd H1 D (.lst acc)))
    (hw : ∀ x ∈ xs, wipe ((wipe σ vs).set j (some x)) vs = wipe σ vs)
    (ht : ∀ x ∈ xs, ∀ (acc : List V) (Q : Bool → Hp → Prop), Q (f x) (upd H1 D (.lst acc)) → tt ((wipe σ vs).set j (some x)) (upd H1 D (.lst acc)) Q)
    (he : ∀ x ∈ xs, f x = true → ∀ (acc : List V) (Q : VK), Q (v x) (upd H1 D (.lst acc)) → te ((wipe σ vs).set j (some x)) (upd H1 D (.lst acc)) Q)
    (hd : Qd (upd H1 D (.lst ((xs.filter f).map v)))) : LcGoal J (gName j) tt te vs σ H1 D Qd := by
  refine lc_it w (fun i H' => H' = upd H1 D (.lst (((xs.take i).filter f).map v))) (by rw [List.take_zero]; rfl) (fun i H' _ e => by rw [e]; exact hG _) (fun i x H H' hi e y => ?_) (fun H' e => ?_)
  · obtain ⟨rfl, hx⟩ := hY i H x H' hi y
    subst e
    have hm : x ∈ xs := List.mem_of_getElem? hx
    have tk : xs.take (i + 1) = xs.take i ++ [x] := by rw [List.take_add_one, hx]; rfl
    refine ⟨hw x hm, ht x hm _ _ ?_⟩
    cases hf : f x with
    | false =>
      refine iteF ?_
      rw [tk, List.filter_append, List.filter_cons, hf]
      simp
    | true =>
      refine iteT (he x hm hf _ _ ⟨_, upd_same, ?_, ?_⟩)
      · rw [List.length_map]
        refine Nat.lt_of_le_of_lt (List.length_filter_le _ _) (Nat.lt_of_le_of_lt (List.length_take_le _ _) ?_)
        have : 1000000 < sizeLine := by decide
        omega
      · rw [upd_upd, tk, List.filter_append, List.filter_cons, hf]
        simp
  · rw [e, ← hn, List.take_length]
    exact hd
section
variable {K : PySem.W.Frag} {j : Nat} {tt : TT} {te : TE} {vs : List Nat} {σ : L2.St} {H1 : Hp} {D a : Addr} {Qd : Hp → Prop}
def signsOf (z : Str) : List V := z.cps.toList.map fun c => V.str ⟨#[c]⟩
theorem lc_str {z : Str} (hz : z.length ≤ 1000000) (f : V → Bool) (v : V → V) (hw : ∀ x ∈ signsOf z, wipe ((wipe σ vs).set j (some x)) vs = wipe σ vs)
    (ht : ∀ x ∈ signsOf z, ∀ (acc : List V) (Q : Bool → Hp → Prop), Q (f x) (upd H1 D (.lst acc)) → tt ((wipe σ vs).set j (some x)) (upd H1 D (.lst acc)) Q)
    (he : ∀ x ∈ signsOf z, f x = true → ∀ (acc : List V) (Q : VK), Q (v x) (upd H1 D (.lst acc)) → te ((wipe σ vs).set j (some x)) (upd H1 D (.lst acc)) Q)
    (hd : Qd (upd H1 D (.lst (((signsOf z).filter f).map v)))) : LcGoal (Its z) (gName j) tt te vs σ H1 D Qd := by
  refine lc_pure walk_str (signsOf z) (by simp [signsOf]) hz (fun i H x H' hi y => ?_) f v (fun _ => trivial) hw ht he hd
  obtain ⟨e, c, hc, rfl⟩ := y
  refine ⟨e, ?_⟩
  simp [signsOf, hc]
theorem lc_lst {xs : List V} (hs : SqL K H1 a xs) (hD : H1 D = none) (hz : xs.length ≤ 1000000) (f : V → Bool) (v : V → V) (hw : ∀ x ∈ xs, wipe ((wipe σ vs).set j (some x)) vs = wipe σ vs)
    (ht : ∀ x ∈ xs, ∀ (acc : List V) (Q : Bool → Hp → Prop), Q (f x) (upd H1 D (.lst acc)) → tt ((wipe σ vs).set j (some x)) (upd H1 D (.lst acc)) Q)
    (he : ∀ x ∈ xs, f x = true → ∀ (acc : List V) (Q : VK), Q (v x) (upd H1 D (.lst acc)) → te ((wipe σ vs).set j (some x)) (upd H1 D (.lst acc)) Q)
    (hd : Qd (upd H1 D (.lst ((xs.filter f).map v)))) : LcGoal (Itl K a) (gName j) tt te vs σ H1 D Qd :=
  lc_pure walk_list xs rfl hz (fun _ _ _ _ _ y => y) f v (fun _ => seqL_upd hs hD) hw ht he hd
theorem lc_tpl {xs : List V} (hs : SqT K H1 a xs) (hD : H1 D = none) (hz : xs.length ≤ 1000000) (f : V → Bool) (v : V → V) (hw : ∀ x ∈ xs, wipe ((wipe σ vs).set j (some x)) vs = wipe σ vs)
    (ht : ∀ x ∈ xs, ∀ (acc : List V) (Q : Bool → Hp → Prop), Q (f x) (upd H1 D (.lst acc)) → tt ((wipe σ vs).set j (some x)) (upd H1 D (.lst acc)) Q)
    (he : ∀ x ∈ xs, f x = true → ∀ (acc : List V) (Q : VK), Q (v x) (upd H1 D (.lst acc)) → te ((wipe σ vs).set j (some x)) (upd H1 D (.lst acc)) Q)
    (hd : Qd (upd H1 D (.lst ((xs.filter f).map v)))) : LcGoal (Itt K a) (gName j) tt te vs σ H1 D Qd :=
  lc_pure walk_tup xs rfl hz (fun _ _ _ _ _ y => y) f v (fun _ => seqT_upd hs hD) hw ht he hd
def rangeV (n : Nat) : List V := (List.range n).map fun (i : Nat) => V.int (i : Int)
theorem lc_rng {n : Nat} (hz : n ≤ 1000000) (f : V → Bool) (v : V → V) (hw : ∀ x ∈ rangeV n, wipe ((wipe σ vs).set j (some x)) vs = wipe σ vs)
    (ht : ∀ x ∈ rangeV n, ∀ (acc : List V) (Q : Bool → Hp → Prop), Q (f x) (upd H1 D (.lst acc)) → tt ((wipe σ vs).set j (some x)) (upd H1 D (.lst acc)) Q)
    (he : ∀ x ∈ rangeV n, f x = true → ∀ (acc : List V) (Q : VK), Q (v x) (upd H1 D (.lst acc)) → te ((wipe σ vs).set j (some x)) (upd H1 D (.lst acc)) Q)
    (hd : Qd (upd H1 D (.lst (((rangeV n).filter f).map v)))) : LcGoal (Itr 0 n) (gName j) tt te vs σ H1 D Qd := by
  refine lc_pure (walk_range (lo := 0)) (rangeV n) (by simp [rangeV]) hz (fun i H x H' hi y => ?_) f v (fun _ => trivial) hw ht he hd
  obtain ⟨e1, e2⟩ := y
  refine ⟨e1, ?_⟩
  simp [rangeV, hi, e2]
end
/-- tests and items may lay new objects -/
theorem lc_ext {J : It} {n : Nat} {G : Hp → Prop} {Y : Nat → Hp → V → Hp → Prop} (w : Walk J n G Y) (xs : List V) (hn : xs.length = n) (hz : n ≤ 1000000) (hY : ∀ i H x H', i < n → Y i H x H' → H' = H ∧ xs[i]? = some x)
    {j : Nat} {tt : TT} {te : TE} {vs : List Nat} {σ : L2.St} {H1 : Hp} {D : Addr} {Qd : Hp → Prop} (hD : H1 D = none) (f : V → Bool) (v : V → V) (hG : ∀ H', Same H1 H' → G H')
    (hw : ∀ x ∈ xs, wipe ((wipe σ vs).set j (some x)) vs = wipe σ vs)
    (ht : ∀ x ∈ xs, ∀ H2, Same H1 H2 → ∀ (Q : Bool → Hp → Prop), (∀ H3, Same H2 H3 → Q (f x) H3) → tt ((wipe σ vs).set j (some x)) H2 Q)
    (he : ∀ x ∈ xs, f x = true → ∀ H2, Same H1 H2 → ∀ (Q : VK), (∀ H3, Same H2 H3 → Q (v x) H3) → te ((wipe σ vs).set j (some x)) H2 Q)
    (hd : ∀ H', Same H1 H' → H' D = some (.lst ((xs.filter f).map v)) → Qd H') : LcGoal J (gName j) tt te vs σ H1 D Qd := by
  refine lc_it w (fun i H' => Same H1 H' ∧ H' D = some (.lst (((xs.take i).filter f).map v))) ⟨fun b o e => by rw [upd_ne (ne_of_none e hD)]; exact e, by rw [List.take_zero]; exact upd_same⟩ (fun i H' _ e => hG _ e.1) (fun i x H H' hi e y => ?_) (fun H' e => ?_)
  · obtain ⟨rfl, hx⟩ := hY i H x H' hi y
    obtain ⟨e1, e2⟩ := e
    have hm : x ∈ xs := List.mem_of_getElem? hx
    have tk : xs.take (i + 1) = xs.take i ++ [x] := by rw [List.take_add_one, hx]; rfl
    refine ⟨hw x hm, ht x hm _ e1 _ fun H3 e3 => ?_⟩
    cases hf : f x with
    | false =>
      refine iteF ⟨e1.trans e3, ?_⟩
      rw [tk, List.filter_append, List.filter_cons, hf]
      simpa using e3 _ _ e2
    | true =>
      refine iteT (he x hm hf _ (e1.trans e3) _ fun H4 e4 => ⟨_, e4 _ _ (e3 _ _ e2), ?_, fun b o q => ?_, ?_⟩)
      · rw [List.length_map]
        refine Nat.lt_of_le_of_lt (List.length_filter_le _ _) (Nat.lt_of_le_of_lt (List.length_take_le _ _) ?_)
        have : 1000000 < sizeLine := by decide
        omega
      · rw [upd_ne (ne_of_none q hD)]
        exact e4 _ _ (e3 _ _ (e1 _ _ q))
      · rw [upd_same, tk, List.filter_append, List.filter_cons, hf]
        simp
  · rw [← hn, List.take_length] at e
    exact hd H' e.1 e.2
section
variable {K : PySem.W.Frag} {j : Nat} {tt : TT} {te : TE} {vs : List Nat} {σ : L2.St} {H1 : Hp} {D a : Addr} {Qd : Hp → Prop}
theorem lc_tplE {xs : List V} (hs : SqT K H1 a xs) (hD : H1 D = none) (hz : xs.length ≤ 1000000) (f : V → Bool) (v : V → V) (hw : ∀ x ∈ xs, wipe ((wipe σ vs).set j (some x)) vs = wipe σ vs)
    (ht : ∀ x ∈ xs, ∀ H2, Same H1 H2 → ∀ (Q : Bool → Hp → Prop), (∀ H3, Same H2 H3 → Q (f x) H3) → tt ((wipe σ vs).set j (some x)) H2 Q)
    (he : ∀ x ∈ xs, f x = true → ∀ H2, Same H1 H2 → ∀ (Q : VK), (∀ H3, Same H2 H3 → Q (v x) H3) → te ((wipe σ vs).set j (some x)) H2 Q)
    (hd : ∀ H', Same H1 H' → H' D = some (.lst ((xs.filter f).map v)) → Qd H') : LcGoal (Itt K a) (gName j) tt te vs σ H1 D Qd :=
  lc_ext walk_tup xs rfl hz (fun _ _ _ _ _ y => y) hD f v (fun _ e => Same.seqT e hs) hw ht he hd
theorem lc_lstE {xs : List V} (hs : SqL K H1 a xs) (hD : H1 D = none) (hz : xs.length ≤ 1000000) (f : V → Bool) (v : V → V) (hw : ∀ x ∈ xs, wipe ((wipe σ vs).set j (some x)) vs = wipe σ vs)
    (ht : ∀ x ∈ xs, ∀ H2, Same H1 H2 → ∀ (Q : Bool → Hp → Prop), (∀ H3, Same H2 H3 → Q (f x) H3) → tt ((wipe σ vs).set j (some x)) H2 Q)
    (he : ∀ x ∈ xs, f x = true → ∀ H2, Same H1 H2 → ∀ (Q : VK), (∀ H3, Same H2 H3 → Q (v x) H3) → te ((wipe σ vs).set j (some x)) H2 Q)
    (hd : ∀ H', Same H1 H' → H' D = some (.lst ((xs.filter f).map v)) → Qd H') : LcGoal (Itl K a) (gName j) tt te vs σ H1 D Qd :=
  lc_ext walk_list xs rfl hz (fun _ _ _ _ _ y => y) hD f v (fun _ e => Same.seq e hs) hw ht he hd
end
theorem yes_q {σ : L2.St} {H : Hp} {Q : Bool → Hp → Prop} (h : Q true H) : tYes σ H Q := h
theorem filter_all {xs : List V} : xs.filter (fun _ => true) = xs := by simp
end MN
namespace MN
open PySem PySem.Spec PyProof.Rows L2
/-- the built-in names that no def of the module hides; the signs -/
structure Blt (mg : Str → Option Value) : Prop where
  isinstance : mg "isinstance" = none
  str : mg "str" = none
  len : mg "len" = none
  all : mg "all" = none
  tuple : mg "tuple" = none
  int : mg "int" = none
  bool : mg "bool" = none
  list : mg "list" = none
  dict : mg "dict" = none
  range : mg "range" = none
  sorted : mg "sorted" = none
  zip : mg "zip" = none
  max : mg "max" = none
  min : mg "min" = none
  abs : mg "abs" = none
  repr : mg "repr" = none
  sum : mg "sum" = none
  any : mg "any" = none
  set : mg "set" = none
  enumerate : mg "enumerate" = none
  SIGNS : ∃ u, mg "SIGNS" = some u ∧ RelV (.str "abcde") u
def bltNames : List Str := ([("isinstance" : Str), ("str" : Str), ("len" : Str), ("all" : Str), ("tuple" : Str), ("int" : Str), ("bool" : Str), ("list" : Str)] : List Str) ++ ([("dict" : Str), ("range" : Str), ("sorted" : Str), ("zip" : Str), ("max" : Str), ("min" : Str), ("abs" : Str), ("repr" : Str)] : List Str) ++ ([("sum" : Str), ("any" : Str), ("set" : Str), ("enumerate" : Str)] : List Str)
theorem Blt.of {mg : Str → Option Value} (h : ∀ x ∈ bltNames, mg x = none) (hs : ∃ u, mg "SIGNS" = some u ∧ RelV (.str "abcde") u) : Blt mg := by
  refine ⟨h _ ?_, h _ ?_, h _ ?_, h _ ?_, h _ ?_, h _ ?_, h _ ?_, h _ ?_, h _ ?_, h _ ?_, h _ ?_, h _ ?_, h _ ?_, h _ ?_, h _ ?_, h _ ?_, h _ ?_, h _ ?_, h _ ?_, h _ ?_, hs⟩ <;> simp [bltNames]
end MN
/-! rules of one's own: repr of data, powers, texts repeated, a tuple turned round -/
namespace MN
open PySem PySem.Spec PyProof.Rows L2
section
variable {X : Cx}
/-- repr of lists and tuples of data -/
def rRepr (K : PySem.W.Frag) : List V → Hp → VK → Prop := fun xs H Q => ∃ (x : V) (d : PyData), xs = [x] ∧ Dp K H x d ∧ isDisplay d = true ∧ d.showable = true ∧ d.hasDict = false ∧ d.depth ≤ 60 ∧ d.shown.length ≤ sizeLine ∧ Q (.str d.shown) H
theorem call_repr (gd : X.A.guards = some []) (hu : X.A.units + 64 < cLine) : CallR X (.builtin "repr") (rRepr X.K) := by
  intro pins s σ H vs us Q I r h
  obtain ⟨x, d, rfl, hd, h1, h2, h3, h4, h5, q⟩ := h
  cases r with
  | cons rx rn =>
    cases rn
    obtain ⟨as, rd⟩ := Dp.reads I d x _ hd rx
    obtain ⟨a, rfl⟩ := isRef_of_reads rd h1
    refine repr_of_reads' rd h2 (PyData.noDict_hsm h3) gd (by omega) (fun _ _ e => e) (fun h' u tk hk => ?_) h5
    exact ⟨.str d.shown, H, I.kept hk, ⟨u, rfl⟩, q⟩
/-- i ** j, as far as the bits go -/
theorem op_powB : OpR X (binaryOp .Pow) (rI (fun i j => 0 ≤ j ∧ (Builtin.Int.intBits i : Int) * j ≤ 2 ^ 27) fun i j => .int (i ^ j.toNat)) := opI fun _ _ _ _ _ _ _ hc q => pow_int hc.1 hc.2 q
/-- s * n -/
def repS (z : Str) (n : Int) : Str := ⟨((List.replicate n.toNat z.cps.toList).flatten).toArray⟩
theorem foldl_app (l : List (Array Nat)) : ∀ a : Array Nat, (l.foldl (· ++ ·) a).toList = a.toList ++ (l.map Array.toList).flatten := by
  induction l with
  | nil => intro a; simp
  | cons x l ih => intro a; rw [List.foldl_cons, ih]; simp
theorem repS_length (z : Str) (n : Int) : (repS z n).length = n.toNat * z.length := by
  simp [repS, Str.length]
def rRepS : R2 := fun x y H Q => ∃ (z : Str) (n : Int), x = .str z ∧ y = .int n ∧ 0 ≤ n ∧ n ≤ 100000 ∧ z.length ≤ 100 ∧ Q (.str (repS z n)) H
theorem op_repS : OpR X (binaryOp .Mult) rRepS := by
  intro pins s σ H x y v u Q I rx ry h
  obtain ⟨z, n, rfl, rfl, h0, h1, h2, q⟩ := h
  obtain ⟨t, rfl⟩ := rx
  obtain ⟨t2, rfl⟩ := ry
  have hb : z.length * n.toNat ≤ 100 * 100000 := Nat.mul_le_mul h2 (by omega)
  have hl : Builtin.Str.tooLong (z.length * n.toNat) = false := by
    have h9 : z.length * n.toNat ≤ sizeLine := Nat.le_trans hb (by decide)
    exact decide_eq_false (by omega)
  have hdiv : ¬ n < 1 → ¬ ((z.length : Int) > (2 ^ 63 - 1) / n) := fun hn => by
    have e : (100 : Int) ≤ (2 ^ 63 - 1) / n := (Int.le_ediv_iff_mul_le (by omega)).mpr (by omega)
    omega
  refine P.mul_str (by simp only [Bool.or_eq_false_iff, decide_eq_false_iff_not]; omega) (fun hn _ => hdiv hn) (fun _ _ => hl) ?_
  by_cases c1 : n < 1
  · have e : repS z n = Str.empty := by
      have : n.toNat = 0 := by omega
      simp [repS, this, Str.empty]
    rw [if_pos c1]
    rw [e] at q
    exact ⟨by decide, .str Str.empty, H, I.tok _, ⟨_, rfl⟩, q⟩
  · rw [if_neg c1]
    by_cases c2 : (n == 1 || z.length == 0) = true
    · rw [if_pos c2]
      have e : repS z n = z := by
        rw [Bool.or_eq_true] at c2
        rcases c2 with c2 | c2
        · have : n = 1 := eq_of_beq c2
          subst this
          simp [repS]
        · have hz : z.cps.toList = [] := by
            have : z.cps.size = 0 := eq_of_beq c2
            simpa using this
          obtain ⟨⟨l⟩⟩ := z
          cases hz
          simp [repS]
      rw [e] at q
      exact ⟨.str z, H, I, ⟨_, rfl⟩, q⟩
    · rw [if_neg c2]
      have e : (⟨(List.replicate n.toNat z.cps).foldl (· ++ ·) #[]⟩ : Str) = repS z n := by
        have := foldl_app (List.replicate n.toNat z.cps) #[]
        simp only [repS]
        congr 1
        apply Array.toList_inj.mp
        rw [this]
        simp
      rw [e]
      refine ⟨?_, .str (repS z n), H, I.tok _, ⟨_, rfl⟩, q⟩
      show (repS z n).length ≤ sizeLine
      rw [repS_length, Nat.mul_comm]
      exact Nat.le_trans hb (by decide)
/-! ### rules in a comprehension's block: the text's facts K are given by name -/
section
variable {K : PySem.W.Frag} (hK : X.K = K)
include hK
theorem lenK : CallR X (.builtin "len") (fun xs H Q => ∃ p ys, xs = [.ref p] ∧ (SqL K H p ys ∨ SqT K H p ys) ∧ Q (.int (ys.length : Nat)) H) := hK ▸ call_len_seq
theorem allK (hc : X.calm = true) : CallR X (.builtin "all") (rAll K) := hK ▸ cr_all hc
theorem isiK : CallR X (.builtin "isinstance") (rIsi K) := hK ▸ call_isi
theorem ixLK : IxR X (rIxL K) := hK ▸ ix_list
theorem ixTK : IxR X (rIxT K) := hK ▸ ix_tup
theorem inSeqK : OpR X (compareOp .In) (rIn K false) := hK ▸ op_in_seq
theorem notInSeqK : OpR X (compareOp .NotIn) (rIn K true) := hK ▸ op_notIn_seq
end
/-! ### methods of lists, the context a letter -/
section
variable {o e : Expr} {to te : TE} {apos cpos : Pos}
theorem pe_popAt (K : PySem.W.Frag) (hK : X.K = K) (ho : PE X o to) (he : PE X e te)
    (hbase : attributeBase o "pop" X.env (eval o X.env) = eval o X.env := by rfl)
    (hfew : ((backTo cpos (starEach [e] X.env)).all (fun x => !x.1) && (backToKw cpos (keywordEach [] X.env)).all (fun x => x.1.isSome) && decide ([e].length + ([] : List Keyword).length + (if ([] : List Keyword).isEmpty then 0 else 1) < 30)) = true := by rfl)
    (hline : (apos.endLine == cpos.line) = true := by rfl) (hs : starEach [e] X.env = (false, eval e X.env) :: starEach [] X.env := by rfl) : PE X (.Call (.Attribute o "pop" apos) [e] [] cpos) (tBM K "list" rPopAt to (tCons te tNil)) := hK ▸ pe_bm PySem.F.plainAttrs_list PySem.F.slot_list_pop PySem.F.type_list_pop mt_popAt ho (pa_cons he pa_nil hs) hbase hfew hline hs rfl
theorem pe_append (K : PySem.W.Frag) (hK : X.K = K) (ho : PE X o to) (he : PE X e te)
    (hbase : attributeBase o "append" X.env (eval o X.env) = eval o X.env := by rfl)
    (hfew : ((backTo cpos (starEach [e] X.env)).all (fun x => !x.1) && (backToKw cpos (keywordEach [] X.env)).all (fun x => x.1.isSome) && decide ([e].length + ([] : List Keyword).length + (if ([] : List Keyword).isEmpty then 0 else 1) < 30)) = true := by rfl)
    (hline : (apos.endLine == cpos.line) = true := by rfl) (hs : starEach [e] X.env = (false, eval e X.env) :: starEach [] X.env := by rfl) : PE X (.Call (.Attribute o "append" apos) [e] [] cpos) (tBM K "list" rAppend to (tCons te tNil)) := hK ▸ pe_bm PySem.F.plainAttrs_list PySem.F.slot_list_append PySem.F.type_list_append mt_append ho (pa_cons he pa_nil hs) hbase hfew hline hs rfl
end
end
end MN
/-! list(d.values()); a class called through a local name; what is never evaluated -/
namespace MN
open PySem PySem.Spec PyProof.Rows L2
section
variable {X : Cx}
def tNo : TE := fun _ _ _ => False
theorem pe_no {e : Expr} : PE X e tNo := ⟨fun _ _ _ _ _ _ h => h.elim⟩
theorem pi_no {tg e : Expr} : PI X tg e (fun _ _ _ => False) := ⟨fun _ _ _ _ _ _ h => h.elim⟩
def tListVals (te : TE) : TE := fun σ H Q => te σ H fun x H1 => ∃ (d : Addr) (kvs : List (Key × V)), x = .ref d ∧ H1 d = some (.dK kvs) ∧ ∀ q, H1 q = none → Q (.ref q) (upd H1 q (.lst (kvs.map (·.2))))
theorem kv_vals : ∀ {kvs : List (Key × V)} {vs : List (Key × Value)}, KV kvs vs → Vals (kvs.map (·.2)) (vs.map (·.2))
  | [], [], _ => .nil
  | _ :: _, _ :: _, .cons h t => .cons h.2 (kv_vals t)
variable {e : Expr} {te : TE} {p apos cpos pos : Pos}
/-- list(e.values()) -/
theorem pe_listVals (hc : X.calm = true) (he : PE X e te) (hg : Gl X "list") (hm : X.mg "list" = none) (hbase : attributeBase e "values" X.env (eval e X.env) = eval e X.env := by rfl) (hline : (apos.endLine == cpos.line) = true := by rfl)
    (hs : starEach [.Call (.Attribute e "values" apos) [] [] cpos] X.env = (false, eval (.Call (.Attribute e "values" apos) [] [] cpos) X.env) :: starEach [] X.env := by rfl) :
    PE X (.Call (.Name "list" p) [.Call (.Attribute e "values" apos) [] [] cpos] [] pos) (tListVals te) := by
  refine ⟨fun pins s σ H Q I hq => ?_⟩
  refine wpAny_Call_Name_kw (ld_blt I hg hm boot_list ?_)
  refine PyProof.Rows.callWith_type1 ?_ hs rfl
  rw [hs]
  show wpAny _ _ (spliced ((false, eval (.Call (.Attribute e "values" apos) [] [] cpos) X.env) :: backTo pos (starEach [] X.env))) _ _ s
  refine Calls.spliced_cons ?_
  refine wpAny_Call_method (T := "dict") (id := "dict.values") hbase rfl hline F.plainAttrs_dict F.slot_dict_values F.type_dict_values (thn (he.run pins s σ H _ I hq) fun u s1 ⟨x, H1, I1, rx, d, kvs, ex, hd, q⟩ => ?_)
  subst ex
  obtain rfl : u = Value.ref d := rx
  obtain ⟨hz, hs0, vs, kv, hdo⟩ := I1.hok d _ hd
  obtain ⟨ep, hat⟩ := hdo.dictAt
  have lk : kvs.length = vs.length := Paired.length kv
  have I2 : Inv X pins σ H1 { s1 with heap := s1.heap.push { cls := .type "dict_values", data := .fields #[.ref d] } } := I1.kept (t' := s1.toks) fun b ob q => Heap.get?_push_of_some _ q
  refine ⟨hdo.typeIs, hdo.mapOf.noDict, ?_⟩
  show wpAny _ _ (callWith cpos (.builtin "dict.values") [.ref d] [] []) _ X.xe s1
  refine method_meetsIn F.slot_dict_values F.entry_dict_values rfl (PySem.evalArgs_none ⟨rfl, hdo.typeIs, F.args_dict_values_1 _, _, meets_dict_values (mixKind X.prog X.w) d hs0, ⟨vs, hdo⟩, ?_⟩)
  refine Calls.spliced_nil ?_
  refine PySem.W.kdl_call (PySem.W.kdl_values (knd := mixKind X.prog X.w) (kvs := vs) (ep := ep)) (I1.ok.hd hc) ⟨⟨_, Heap.get?_push_size _ rfl, rfl, rfl⟩, hat.push _⟩ (by rw [← lk]; exact hz) fun h' tk acc' c' hkeep hS hacc => ?_
  have el : acc'.toList.length = acc'.size := by simp
  have ev : acc'.toList = vs.map (·.2) := PySem.W.kdl_vals_eq acc'.toList (by rw [el, hacc.1]) fun j v h2 => hacc.2 j v (by rw [← Array.getElem?_toList]; exact h2)
  refine ⟨.ref _, upd H1 _ (.lst (kvs.map (·.2))), I2.laid hkeep (Nat.le_refl _) (show ObjOk X.prog X.w _ _ _ (.lst (kvs.map (·.2))) from ⟨?_, acc'.toList, c', ?_, ?_⟩), rfl, q _ (I2.hok.fresh (Nat.le_refl _))⟩
  · rw [List.length_map]; exact hz
  · rw [ev]; exact kv_vals kv
  · rw [Array.toArray_toList]; exact hS
end
section
variable {X : Cx} {CX : CXT} {k i : Nat} {f C : Addr} {fd : FuncData} {ps ks : List Str} {sp : Sp} {E : XK} {x : Str} {p pos : Pos} {kws : List Keyword} {tk : TA} {g : List Value → List Value → List Value} {gV : List V → List V → List V}
/-- the class that the i-th slot holds, called by keywords alone -/
def tMakeKL (i : Nat) (C : Addr) (m : Nat) (sp : Sp) (gV : List V → List V → List V) (E : XK) (tk : TA) : TE := fun σ H Q => σ[i]? = some (some (.ref C)) ∧ tMakeK C 0 m sp gV E tNil tk σ H Q
theorem pe_makeKL (M : Mk X.K C f) (F : FnOk X.prog X.w X.K X.mg X.base CX k f fd ps sp) (hr : Room (k + 1) X.A) (hN : X.N[i]? = some x) (hv : Vis X.env.scope x) (hb : KBn X.K fd ps 1 ks g gV) (hx : Passes CX X E) (hkw : PK X kws tk)
    (hall : (backToKw pos (keywordEach kws X.env)).all (·.1.isSome) = true := by rfl) (hks : (backToKw pos (keywordEach kws X.env)).filterMap (·.1) = ks := by rfl) (hdb : (x == ("__debug__" : Str)) = false := by decide) (hcd : (x == ("__classdict__" : Str)) = false := by decide)
    (hpl : ((backTo pos (starEach [] X.env)).any (·.1) || (backToKw pos (keywordEach kws X.env)).any (·.1.isNone)) = false := by rfl) :
    PE X (.Call (.Name x p) [] kws pos) (tMakeKL i C ks.length sp gV E tk) := by
  refine ⟨fun pins s σ H Q I h => ?_⟩
  obtain ⟨hs, h⟩ := h
  refine wpAny_Call_Name_kw (thn ((pe_var (pos := p) hN hv hdb hcd).run pins s σ H (fun v H1 => v = .ref C ∧ H1 = H) I ⟨.ref C, hs, rfl, rfl⟩) fun u s1 ⟨v, H1, I1, r1, q1⟩ => ?_)
  obtain ⟨rfl, rfl⟩ := q1
  cases r1
  refine PySem.W.callWith_KW0 (h₀ := X.base) I.ok.mod.kin M.kp hall ?_ hpl
  refine thn (hkw.run pos pins s1 σ _ _ I1 h) fun ws s2 ⟨zs, H2, I2, rz, l1, l2, q2⟩ => ⟨I2.kIn, ?_⟩
  rw [hks]
  exact run_makeK (us := []) (vs := []) M F hr hb hx I2 .nil rz rfl l2 q2
end
/-! ### isinstance(value, str) where value may be an instance with slots -/
/-- an instance with slots, of a class that is no text -/
def SlNo (K : PySem.W.Frag) (H : Hp) (v : V) (u : Value) : Prop := ∃ a C dx vs, v = .ref a ∧ SlX.Slt H a C dx vs ∧ SlX.SCls K C ∧ SlX.SIsi K C ∧ PySem.W.kitOne K (.ref C) u = some false
def IsX (K : PySem.W.Frag) (H : Hp) (v : V) (c : String) (b : Bool) : Prop := (∃ t, TyX K H v t ∧ PySem.W.kitOne K t (.type c) = some b) ∨ (b = false ∧ SlNo K H v (.type c))
theorem IsX.str {K : PySem.W.Frag} {H : Hp} {z : Str} : IsX K H (.str z) "str" true := .inl ⟨_, .base (.str z), kit_ty (by decide +kernel)⟩
def rIsS (K : PySem.W.Frag) : List V → Hp → VK → Prop := fun xs H Q => ∃ x c b, xs = [x, .ty c] ∧ IsX K H x c b ∧ Q (.bl b) H
theorem call_isS {X : Cx} : CallR X (.builtin "isinstance") (rIsS X.K) := by
  intro pins s σ H xs us Q I r h
  obtain ⟨x, c, b, rfl, h | ⟨rfl, a, C, dx, vs, rfl, h1, h2, h3, h4⟩, q⟩ := h
  · obtain ⟨t, h1, h2⟩ := h
    exact call_isi pins s σ H _ us Q I r ⟨x, .ty c, t, .type c, b, rfl, .ty _, h1, h2, q⟩
  · refine SlX.call_isiSl (.type c) pins s σ H _ us Q I r ⟨a, C, dx, vs, .ty c, false, rfl, rfl, fun w e => e, h1, h2, h3, h4, q⟩
end MN
/-! lemmas that hang on no law: walks, locked dicts, instances with slots -/
namespace MN
open PySem PySem.Spec PyProof.Rows L2
theorem same_new {H : Hp} {p : Addr} {o : HO} (h : H p = none) : Same H (upd H p o) := fun b u e => by rw [upd_ne (ne_of_none e h)]; exact e
theorem tyT {K : PySem.W.Frag} {H : Hp} {t : Addr} {xs : List V} (h : SqT K H t xs) : TyX K H (.ref t) (.type "tuple") := by
  rcases h with (h | ⟨o, h⟩) | h
  · exact .base (.tup h)
  · exact .fTuple h
  · obtain ⟨o, its, n, e1, e2, _⟩ := h
    exact .kTuple e1 e2
abbrev GlC (mg : Str → Option Value) (x : Str) (v : V) : Prop := ∃ u, mg x = some u ∧ RelV v u
theorem IsX.ty {K : PySem.W.Frag} {H : Hp} {v : V} {a c : String} {b : Bool} (h : TyX K H v (.type a)) (hk : kitB a c = some b) : IsX K H v c b := .inl ⟨_, h, kit_ty hk⟩
theorem pg_tupK {X : Cx} {pos : Pos} {K : PySem.W.Frag} (hK : X.K = K) {es : List Expr} {k : Nat} {t : TGs} {n : Nat} (hc : X.calm = true) (h : PGs X es t)
    (hn : (assignEach es X.env).length = n := by rfl) (hst : (assignEach es X.env).findIdx? (·.1) = none := by rfl) : PG X (.Tuple es k pos) (gTup K n t) := hK ▸ pg_tup hc h hn hst
theorem isSK {X : Cx} {K : PySem.W.Frag} (hK : X.K = K) : CallR X (.builtin "isinstance") (rIsS K) := hK ▸ call_isS
theorem walk_zipT {K : PySem.W.Frag} {a b : Addr} {xs ys : List V} {n : Nat} (hn : n = min xs.length ys.length) : Walk (RZ.ItzT K a b) n (fun H => SqT K H a xs ∧ SqT K H b ys) (YPair (fun i => xs[i]?) (fun i => ys[i]?)) := by
  subst hn
  refine ⟨fun i _ hi q => ?_, fun _ q => ⟨xs, ys, q.1, q.2, by omega⟩, fun i H v H' _ q y => ?_⟩
  · have h1 : i < xs.length := by omega
    have h2 : i < ys.length := by omega
    exact ⟨xs, ys, xs[i], ys[i], q.1, q.2, by simp [h1], by simp [h2]⟩
  · obtain ⟨T, x, y, h1, h2, h3, h4, h5⟩ := y
    exact ⟨T, x, y, h1, h2, h3, h4 xs q.1, h5 ys q.2⟩
section
variable {j : Nat} {tt : TT} {te : TE} {vs : List Nat} {σ : L2.St} {H1 : Hp} {D d : Addr} {o : Obj} {Qd : Hp → Prop}
theorem lc_keys {kvs : List (Key × V)} (hs : H1 d = some (.frz o (.dK kvs))) (hD : H1 D = none) (hz : kvs.length ≤ 1000000) (f : V → Bool) (v : V → V) (hw : ∀ x ∈ kvs.map (fun kv => kV kv.1), wipe ((wipe σ vs).set j (some x)) vs = wipe σ vs)
    (ht : ∀ x ∈ kvs.map (fun kv => kV kv.1), ∀ (acc : List V) (Q : Bool → Hp → Prop), Q (f x) (upd H1 D (.lst acc)) → tt ((wipe σ vs).set j (some x)) (upd H1 D (.lst acc)) Q)
    (he : ∀ x ∈ kvs.map (fun kv => kV kv.1), f x = true → ∀ (acc : List V) (Q : VK), Q (v x) (upd H1 D (.lst acc)) → te ((wipe σ vs).set j (some x)) (upd H1 D (.lst acc)) Q)
    (hd : Qd (upd H1 D (.lst (((kvs.map fun kv => kV kv.1).filter f).map v)))) : LcGoal (Itk d o kvs) (gName j) tt te vs σ H1 D Qd := by
  refine lc_pure walk_keys (kvs.map fun kv => kV kv.1) (by simp) hz (fun i H x H' hi y => ?_) f v (fun _ => by rw [upd_ne (ne_of_none hs hD)]; exact hs) hw ht he hd
  obtain ⟨e, k, v', h1, rfl⟩ := y
  exact ⟨e, by simp [h1]⟩
theorem dc_it {J : It} {n : Nat} {G : Hp → Prop} {Y : Nat → Hp → V → Hp → Prop} (w : Walk J n G Y) {g : TG} {tk tv : TE} (Pv : Nat → Hp → Prop) (h0 : Pv 0 (upd H1 D (.dK []))) (hG : ∀ i H, i ≤ n → Pv i H → G H)
    (hs : ∀ i x H H', i < n → Pv i H → Y i H x H' → g x (wipe σ vs) H' fun σ2 H2 => wipe σ2 vs = wipe σ vs ∧ tt σ2 H2 fun b H3 =>
      if b = true then tk σ2 H3 fun y H4 => tv σ2 H4 fun z H5 => ∃ kvs k, y = kV k ∧ H5 D = some (.dK kvs) ∧ kvs.length < sizeLine ∧ Pv (i + 1) (upd H5 D (.dK (putK kvs k z))) else Pv (i + 1) H3) (hd : ∀ H, Pv n H → Qd H) :
    ∃ W : Nat → Nat → Hp → Prop, (∃ m, W 0 m (upd H1 D (.dK []))) ∧ ∀ i m H, W i m H →
      (J.stop i H ∧ Qd H) ∨ (J.go i H ∧ ∃ Nx : Hp → Prop, (∀ H', Nx H' → ∃ m', m' < m ∧ W (i + 1) m' H') ∧ ∀ x H', J.yld i H x H' → g x (wipe σ vs) H' fun σ2 H2 => wipe σ2 vs = wipe σ vs ∧ tt σ2 H2 fun b H3 =>
        if b = true then tk σ2 H3 fun y H4 => tv σ2 H4 fun z H5 => ∃ kvs k, y = kV k ∧ H5 D = some (.dK kvs) ∧ kvs.length < sizeLine ∧ Nx (upd H5 D (.dK (putK kvs k z))) else Nx H3) := by
  refine ⟨fun i m H => m = n - i ∧ i ≤ n ∧ Pv i H, ⟨n, by simp, Nat.zero_le _, h0⟩, ?_⟩
  rintro i m H ⟨rfl, hi, p⟩
  have q := hG i H hi p
  by_cases hlt : i < n
  · exact .inr ⟨w.goes i H hlt q, Pv (i + 1), fun H' p' => ⟨n - (i + 1), by omega, rfl, hlt, p'⟩, fun x H' y => hs i x H H' hlt p (w.yields i H x H' hlt q y)⟩
  · obtain rfl : i = n := by omega
    exact .inl ⟨w.stops H q, hd H p⟩
theorem dp_it {J : It} {n : Nat} {G : Hp → Prop} {Y : Nat → Hp → V → Hp → Prop} {o0 : HO} (w : Walk J n G Y) {g : TG} {tk tv : TE} (Pv : Nat → Hp → Prop) (h0 : Pv 0 (upd H1 D o0)) (hG : ∀ i H, i ≤ n → Pv i H → G H)
    (hs : ∀ i x H H', i < n → Pv i H → Y i H x H' → g x (wipe σ vs) H' fun σ2 H2 => wipe σ2 vs = wipe σ vs ∧ tt σ2 H2 fun b H3 =>
      if b = true then tk σ2 H3 fun y H4 => tv σ2 H4 fun z H5 => ∃ H6, DPut H5 D y z H6 ∧ Pv (i + 1) H6 else Pv (i + 1) H3) (hd : ∀ H, Pv n H → Qd H) :
    ∃ W : Nat → Nat → Hp → Prop, (∃ m, W 0 m (upd H1 D o0)) ∧ ∀ i m H, W i m H →
      (J.stop i H ∧ Qd H) ∨ (J.go i H ∧ ∃ Nx : Hp → Prop, (∀ H', Nx H' → ∃ m', m' < m ∧ W (i + 1) m' H') ∧ ∀ x H', J.yld i H x H' → g x (wipe σ vs) H' fun σ2 H2 => wipe σ2 vs = wipe σ vs ∧ tt σ2 H2 fun b H3 =>
        if b = true then tk σ2 H3 fun y H4 => tv σ2 H4 fun z H5 => ∃ H6, DPut H5 D y z H6 ∧ Nx H6 else Nx H3) := by
  refine ⟨fun i m H => m = n - i ∧ i ≤ n ∧ Pv i H, ⟨n, by simp, Nat.zero_le _, h0⟩, ?_⟩
  rintro i m H ⟨rfl, hi, p⟩
  have q := hG i H hi p
  by_cases hlt : i < n
  · exact .inr ⟨w.goes i H hlt q, Pv (i + 1), fun H' p' => ⟨n - (i + 1), by omega, rfl, hlt, p'⟩, fun x H' y => hs i x H H' hlt p (w.yields i H x H' hlt q y)⟩
  · obtain rfl : i = n := by omega
    exact .inl ⟨w.stops H q, hd H p⟩
end
/-- nothing to walk over -/
theorem lc_none {J : It} {g : TG} {tt : TT} {te : TE} {vs : List Nat} {σ : L2.St} {H1 : Hp} {D : Addr} {Qd : Hp → Prop} (h : J.stop 0 (upd H1 D (.lst []))) (q : Qd (upd H1 D (.lst []))) : LcGoal J g tt te vs σ H1 D Qd :=
  ⟨fun i _ H => i = 0 ∧ H = upd H1 D (.lst []), ⟨0, rfl, rfl⟩, fun _ _ _ e => by
    obtain ⟨rfl, rfl⟩ := e
    exact .inl ⟨h, q⟩⟩
/-- locked, a list laid, unlocked -/
theorem same_lock {H : Hp} {a D : Addr} {u : HO} {o : Obj} {x : HO} (h : H a = some u) (hD : (upd H a (.frz o u)) D = none) : Same H (upd (upd (upd H a (.frz o u)) D x) a u) ∧ (upd (upd (upd H a (.frz o u)) D x) a u) D = some x ∧ D ≠ a := by
  have n : D ≠ a := fun z => by rw [z, upd_same] at hD; cases hD
  refine ⟨fun b y e => ?_, by rw [upd_ne n, upd_same], n⟩
  by_cases z : b = a
  · rw [z, upd_same]; rw [z, h] at e; exact e
  · rw [upd_ne z]
    have n2 : b ≠ D := fun q => by rw [upd_ne n] at hD; rw [q, hD] at e; cases e
    rw [upd_ne n2, upd_ne z]; exact e
theorem lc_keysL {j : Nat} {tt : TT} {te : TE} {vs : List Nat} {σ : L2.St} {H1 : Hp} {D a : Addr} {od : Obj} {kvs : List (Key × V)} {Qd : Hp → Prop} (h : H1 a = some (.dK kvs)) (hD : (upd H1 a (.frz od (.dK kvs))) D = none) (hz : kvs.length ≤ 1000000) (f : V → Bool) (v : V → V) (hw : ∀ x ∈ kvs.map (fun kv => kV kv.1), wipe ((wipe σ vs).set j (some x)) vs = wipe σ vs)
    (ht : ∀ x ∈ kvs.map (fun kv => kV kv.1), ∀ H2, H2 a = some (.frz od (.dK kvs)) → (∀ b o, b ≠ a → H1 b = some o → H2 b = some o) → ∀ (Q : Bool → Hp → Prop), Q (f x) H2 → tt ((wipe σ vs).set j (some x)) H2 Q)
    (he : ∀ x ∈ kvs.map (fun kv => kV kv.1), f x = true → ∀ H2, H2 a = some (.frz od (.dK kvs)) → (∀ b o, b ≠ a → H1 b = some o → H2 b = some o) → ∀ (Q : VK), Q (v x) H2 → te ((wipe σ vs).set j (some x)) H2 Q)
    (hd : ∀ H', H' a = some (.frz od (.dK kvs)) → Same H1 (upd H' a (.dK kvs)) → upd H' a (.dK kvs) D = some (.lst (((kvs.map fun kv => kV kv.1).filter f).map v)) → Qd H') :
    LcGoal (Itk a od kvs) (gName j) tt te vs σ (upd H1 a (.frz od (.dK kvs))) D Qd := by
  have n : D ≠ a := fun z => by rw [z, upd_same] at hD; cases hD
  have k1 : ∀ acc, upd (upd H1 a (.frz od (.dK kvs))) D (.lst acc) a = some (.frz od (.dK kvs)) := fun acc => by rw [upd_ne n.symm, upd_same]
  have k2 : ∀ acc b o, b ≠ a → H1 b = some o → upd (upd H1 a (.frz od (.dK kvs))) D (.lst acc) b = some o := fun acc b o nb e => by
    have n2 : b ≠ D := fun q => by rw [upd_ne n] at hD; rw [q, hD] at e; cases e
    rw [upd_ne n2, upd_ne nb]; exact e
  refine lc_keys upd_same hD hz f v hw (fun x hx acc Q q => ht x hx _ (k1 _) (k2 _) Q q) (fun x hx hf acc Q q => he x hx hf _ (k1 _) (k2 _) Q q) ?_
  obtain ⟨s, sD, _⟩ := same_lock (x := .lst (((kvs.map fun kv => kV kv.1).filter f).map v)) h hD
  exact hd _ (k1 _) s sD
theorem slt_same {H H' : Hp} {a C dx : Addr} {vs : List (Option V)} (e : Same H H') (h : SlX.Slt H a C dx vs) : SlX.Slt H' a C dx vs := by
  rcases h with ⟨h, rfl⟩ | ⟨h1, h2⟩
  · exact .inl ⟨e _ _ h, rfl⟩
  · exact .inr ⟨e _ _ h1, e _ _ h2⟩
theorem piTupK {X : Cx} {K : PySem.W.Frag} (hK : X.K = K) {tg l : Expr} {tl : TE} (hl : PE X l tl) : PI X tg l (iTup K tl) := hK ▸ pi_tup hl
theorem putK_le (kvs : List (Key × V)) (k : Key) (v : V) : (putK kvs k v).length ≤ kvs.length + 1 := by
  unfold putK
  split <;> simp
/-- an instance with slots, laid -/
def Sl2 (H : Hp) (a C dx : Addr) (vs : List (Option V)) : Prop := H a = some (SlX.SlO a C dx vs) ∧ H dx = some (.xd [])
theorem slH_sl2 {H : Hp} {a C dx : Addr} {vs : List (Option V)} (h : dx ≠ a) : Sl2 (SlX.slH H a C dx vs) a C dx vs := ⟨upd_same, by unfold SlX.slH; rw [upd_ne h, upd_same]⟩
/-- all but x and dx stays -/
def Kp (x dx : Addr) (H H' : Hp) : Prop := ∀ b o, b ≠ x → b ≠ dx → H b = some o → H' b = some o
theorem Kp.same {x dx : Addr} {H H1 H2 : Hp} (h : Kp x dx H H1) (e : Same H1 H2) : Kp x dx H H2 := fun b o n1 n2 q => e _ _ (h b o n1 n2 q)
theorem Kp.sl {x dx C : Addr} {vs : List (Option V)} {H H1 : Hp} (h : Kp x dx H H1) : Kp x dx H (SlX.slH H1 x C dx vs) := fun b o n1 n2 q => by
  rw [SlX.slH_ne n1 n2]; exact h b o n1 n2 q
section
variable {P : Program} {w : World} {K : PySem.W.Frag} {mg : Str → Option Value} {base : Heap}
theorem fnok_of {x qual : Str} {params : Arguments} {body : List Stmt} {scope : Scope} {dvs : List V} {kws : List (Str × V)} {f : Addr} {fd : FuncData} {N ps : List Str} {k : Nat} {sp : Sp} (F : FunD K x qual params body scope dvs kws f fd) (S : FnScope N ps scope) (len : ∀ vs H Q E, sp vs H Q E → vs.length = ps.length)
    (hbody : ∀ (cdv : Value) (A : Around) (outer : List Env) (s : Shared) (H : Hp) (vs : List V) (Q : VK) (E : XK), Room k (A.deeper (envOfC qual scope s.heap.objs.size f cdv)) → sp vs H Q E →
      ∃ t, PSs (cxOf CX0 P w K mg base N qual scope f cdv A outer s H E).nox body t ∧ t { nx := fun _ H' => Q .non H', rt := Q } (start N vs) H) : FnOk P w K mg base CX0 (k + 1) f fd ps sp :=
  F.ok S len fun cdv A outer s H vs Q E hr h => by
    obtain ⟨t, h1, h2⟩ := hbody cdv A outer s H vs Q E hr h
    exact ⟨t, h1.nox, h2⟩
abbrev FunAt (K : PySem.W.Frag) (x qual : Str) (st : Stmt) (dvs : List V) (f : Addr) (fd : FuncData) : Prop := FunD K x qual (defArgs st) (defBody st) (defScope st) dvs [] f fd
end
/-- a new object, in a word -/
theorem laid {H : Hp} {q : Addr} (o : HO) (h : H q = none) : Same H (upd H q o) ∧ upd H q o q = some o := ⟨same_new h, upd_same⟩
end MN
/-! t[::-1] of a tuple -/
namespace MN
open PySem PySem.Spec PyProof.Rows L2
theorem places_back (n : Nat) : Builtin.Slice.slicePlaces ((n : Int) - 1) (-1) (-1) = n := by
  unfold Builtin.Slice.slicePlaces
  rw [if_neg (by decide)]
  by_cases h : n = 0
  · subst h; rfl
  · rw [if_pos (by omega), Int.neg_neg, Int.ediv_one]
    omega
theorem filterMap_some {α β : Type} {f : α → Option β} {g : α → β} : ∀ {l : List α}, (∀ k ∈ l, f k = some (g k)) → l.filterMap f = l.map g
  | [], _ => rfl
  | x :: l, h => by
    rw [List.filterMap_cons, h x List.mem_cons_self, List.map_cons, filterMap_some fun k hk => h k (List.mem_cons_of_mem _ hk)]
theorem pick_back (xs : Array Value) : ((List.range xs.size).filterMap fun (k : Nat) => xs[(((xs.size : Int) - 1) + (k : Int) * (-1)).toNat]?).toArray = xs.toList.reverse.toArray := by
  congr 1
  have e : ∀ k ∈ List.range xs.size, (fun (k : Nat) => xs[(((xs.size : Int) - 1) + (k : Int) * (-1)).toNat]?) k = some (xs.toList.reverse.getD k .none) := by
    intro k hk
    have hk : k < xs.size := List.mem_range.mp hk
    have i : (((xs.size : Int) - 1) + (k : Int) * (-1)).toNat = xs.size - 1 - k := by omega
    simp only [i]
    have hl : k < xs.toList.reverse.length := by simpa using hk
    rw [List.getD_eq_getElem?_getD, List.getElem?_eq_getElem hl, List.getElem_reverse]
    rw [Array.getElem?_eq_getElem (by omega)]
    simp
  rw [filterMap_some e]
  apply List.ext_getElem?
  intro i
  rw [List.getElem?_map]
  by_cases hi : i < xs.size
  · rw [List.getElem?_range hi]
    have hl : i < xs.toList.reverse.length := by simpa using hi
    simp only [Option.map_some]
    rw [List.getD_eq_getElem?_getD, List.getElem?_eq_getElem hl]
    simp
  · rw [List.getElem?_eq_none (by simpa using hi), List.getElem?_eq_none (by simpa using hi)]
    rfl
section
variable {prog : Program} {w : World} {A : Around} {E : Value → Shared → Prop} {s : Shared}
theorem getItem_tuple_back {t sl : Addr} {items : Array Value} {vs : Value} {Q : Value → Shared → Prop} (ht : IsTup s.heap t items) (hs : s.heap.IsSliceOf sl .none .none vs) (ps : IsPart vs (some (-1)))
    (h : Q (.ref s.heap.objs.size) { s with heap := s.heap.push { cls := .type "tuple", data := .seq items.toList.reverse.toArray } }) (hsz : items.size ≤ sizeLine) : wpAny (model prog w) A (getItem (.ref t) (.ref sl)) Q E s := by
  have hok : sizeOk (.seq items.toList.reverse.toArray) := by
    show items.toList.reverse.toArray.size ≤ sizeLine
    simpa using hsz
  obtain ⟨os, hos, hcs, hds⟩ := id hs
  have hTs : s.TypeIs (.ref sl) "slice" := ⟨os, hos, hcs⟩
  unfold getItem
  try with_reducible refine wpAny_holding ?_
  first | refine wpAny_bind (wpAny_pure ?_) | skip
  refine wpAny_bind (wpAny_sequenceKey ht.typeIs (by decide) ?_)
  refine wpAny_bind (wpAny_callSpecial?_slot (name := Str.ofString "__getitem__") ht.typeIs PyProof.Rows.slot_tuple_getitem
    (wpAny_call_entry PyProof.Rows.slot_tuple_getitem ht.typeIs entry_tuple_getitem ?_ (args_tuple_getitem _ _)))
  show wpAny _ _ (Builtin.Tuple.tupleItemsOf (.ref t) >>= _) _ _ s
  refine wpAny_bind (tupleItemsOf_ ht ?_)
  refine wpAny_bind (wpAny_typeOf hTs ?_)
  rw [if_pos (by decide)]
  refine wpAny_bind (m := Builtin.Slice.sliceApplied (.ref sl) (pure (items.size : Int))) ?_
  unfold Builtin.Slice.sliceApplied Builtin.Slice.sliceFields
  refine wpAny_bind (wpAny_bind (wpAny_field hos hds (x := .none) rfl (wpAny_bind (wpAny_field hos hds (x := .none) rfl (wpAny_bind (wpAny_field hos hds (x := vs) rfl (wpAny_pure ?_)))))))
  refine wpAny_bind (HT.slicePart_ ps ?_)
  show wpAny _ _ (if ((-1 : Int) == 0) = true then _ else _) _ _ s
  rw [if_neg (by decide)]
  refine wpAny_bind (HT.slicePart_ .none (wpAny_bind (HT.slicePart_ .none (wpAny_bind (wpAny_pure ?_)))))
  show wpAny _ _ (pure ((items.size : Int) - 1, (-1 : Int), Builtin.Slice.slicePlaces ((items.size : Int) - 1) (-1) (-1))) _ _ s
  rw [places_back]
  refine wpAny_pure ?_
  have hno : ¬ (((items.size : Int) - 1 == 0 && (-1 : Int) == 1 && items.size == items.size) = true) := by simp
  show wpAny _ _ (if ((items.size : Int) - 1 == 0 && (-1 : Int) == 1 && items.size == items.size) = true then _ else _) _ _ s
  rw [if_neg hno, pick_back]
  first
    | exact wpAny_bind (m := Builtin.Tuple.tupleExact _) (wpAny_newObj_type (wpAny_pure ⟨_, rfl, wpAny_pure h⟩) hok)
    | exact wpAny_bind (m := Builtin.Tuple.tupleExact _) (wpAny_newObj_type (wpAny_bind (wpAny_pure (wpAny_pure ⟨_, rfl, wpAny_pure h⟩))) hok)
    | exact wpAny_bind (wpAny_bind (m := Builtin.Tuple.tupleExact _) (wpAny_newObj_type (wpAny_pure (wpAny_pure ⟨_, rfl, wpAny_pure h⟩)) hok))
    | exact wpAny_bind (wpAny_bind (m := Builtin.Tuple.tupleExact _) (wpAny_newObj_type (wpAny_pure ⟨_, rfl, wpAny_pure h⟩) hok))
end
section
variable {X : Cx}
def tRevT (K : PySem.W.Frag) (te : TE) : TE := fun σ H Q => te σ H fun x H1 => ∃ a xs, x = .ref a ∧ SqT K H1 a xs ∧ ∀ p, H1 p = none → Q (.ref p) (upd H1 p (.tup xs.reverse))
theorem pe_revT {e : Expr} {te : TE} {k : Nat} {p1 p2 p3 pos : Pos} (he : PE X e te) : PE X (.Subscript e (.Slice none none (some (.UnaryOp .USub (.Constant (.int 1) k p1) p2)) p3) pos) (tRevT X.K te) := by
  refine ⟨fun pins s σ H Q I h => ?_⟩
  refine Subscript_ (thn (he.run pins s σ H _ I h) fun v s1 ⟨x, H1, I1, r1, a, xs, ex, hx, q⟩ => ?_)
  subst ex
  cases r1
  have hst : PO X (some (.UnaryOp .USub (.Constant (.int 1) k p1) p2)) (tPart (tUn (rU fun i => .int (-i)) (tC (.int 1)))) := po_some (pe_un un_neg pe_int)
  refine wpAny_Slice (thn (po_none.run pins s1 σ H1 (fun o H2 => o = none ∧ H2 = H1) I1 ⟨rfl, rfl⟩) fun vl s2 ⟨l, H2, I2, pl, el, e2⟩ => ?_)
  cases el
  cases e2
  refine thn (po_none.run pins s2 σ H1 (fun o H3 => o = none ∧ H3 = H1) I2 ⟨rfl, rfl⟩) fun vu s3 ⟨u, H3, I3, pu, eu, e3⟩ => ?_
  cases eu
  cases e3
  refine thn (hst.run pins s3 σ H1 (fun o H4 => o = some (-1) ∧ H4 = H1) I3 ⟨1, rfl, -1, rfl, rfl, rfl⟩) fun vs s4 ⟨o, H4, I4, ps, eo, e4⟩ => ?_
  cases eo
  cases e4
  cases pl
  cases pu
  have I5 : Inv X pins σ H1 { s4 with heap := s4.heap.push { cls := .type "slice", data := .fields #[.none, .none, vs] } } := I4.kept (t' := s4.toks) fun b ob q => Heap.get?_push_of_some _ q
  obtain ⟨its, r, ht, hz⟩ := I5.tuple hx
  have hlen := r.length
  show wpAny (model X.prog X.w) X.A (subscriptTail e (.Slice none none (some (.UnaryOp .USub (.Constant (.int 1) k p1) p2)) p3) (.ref a) (.ref s4.heap.objs.size)) (EP X pins σ Q) X.xe { s4 with heap := s4.heap.push { cls := .type "slice", data := .fields #[.none, .none, vs] } }
  refine tail_any (ops := [.ref a, .ref s4.heap.objs.size]) ht.typeIs PyProof.Rows.slot_tuple_getitem.lookup ?_ (by with_unfolding_all rfl)
  refine getItem_tuple_back ht (Heap.IsSliceOf.new _ .none .none vs) ps ?_ (by rw [List.size_toArray]; omega)
  refine ⟨.ref _, _, I5.laid (t' := s4.toks) (o := .tup xs.reverse) (fun b ob q => Heap.get?_push_of_some _ q) (Nat.le_refl _) ?_, rfl, q _ (I5.hok.fresh (Nat.le_refl _))⟩
  exact ⟨by rw [List.length_reverse]; exact hz, _, r.reverse, IsTup.new _ _⟩
end
end MN
/-! the order of words: by length, then sign by sign -/
namespace MN
open PySem
def ahead (a b : Str) : Prop := a.length < b.length ∨ (a.length = b.length ∧ a.cps.toList < b.cps.toList)
instance (a b : Str) : Decidable (ahead a b) := by unfold ahead; infer_instance
theorem str_ext {a b : Str} (h : a.cps.toList = b.cps.toList) : a = b := PySem.W.str_of_cps h
theorem str_eq_iff {a b : Str} : a = b ↔ a.cps.toList = b.cps.toList := ⟨fun h => by rw [h], str_ext⟩
theorem ahead_irrefl (a : Str) : ¬ ahead a a := fun h => by
  rcases h with h | ⟨_, h⟩
  · omega
  · exact List.lt_irrefl _ h
theorem ahead_trans {a b c : Str} (h : ahead a b) (h' : ahead b c) : ahead a c := by
  rcases h with h | ⟨e, h⟩ <;> rcases h' with h' | ⟨e', h'⟩
  · exact .inl (by omega)
  · exact .inl (by omega)
  · exact .inl (by omega)
  · exact .inr ⟨by omega, List.lt_trans h h'⟩
theorem ahead_total (a b : Str) : ahead a b ∨ a = b ∨ ahead b a := by
  by_cases h1 : a.length < b.length
  · exact .inl (.inl h1)
  by_cases h2 : b.length < a.length
  · exact .inr (.inr (.inl h2))
  have e : a.length = b.length := by omega
  by_cases h3 : a.cps.toList < b.cps.toList
  · exact .inl (.inr ⟨e, h3⟩)
  by_cases h4 : b.cps.toList < a.cps.toList
  · exact .inr (.inr (.inr ⟨e.symm, h4⟩))
  exact .inr (.inl (str_ext (List.le_antisymm (List.not_lt.mp h4) (List.not_lt.mp h3))))
def leW (a b : Str) : Bool := !decide (ahead b a)
/-- each once, in the order in which they are met -/
def uniq (zs : List Str) : List Str := zs.foldl (fun acc z => if z ∈ acc then acc else acc ++ [z]) []
theorem uniq_spec (zs : List Str) : ∀ acc : List Str, acc.Nodup → (zs.foldl (fun acc z => if z ∈ acc then acc else acc ++ [z]) acc).Nodup ∧ ∀ x, x ∈ zs.foldl (fun acc z => if z ∈ acc then acc else acc ++ [z]) acc ↔ x ∈ acc ∨ x ∈ zs := by
  induction zs with
  | nil => intro acc h; exact ⟨h, fun x => by simp⟩
  | cons z zs ih =>
    intro acc h
    rw [List.foldl_cons]
    by_cases hz : z ∈ acc
    · rw [if_pos hz]
      obtain ⟨h1, h2⟩ := ih acc h
      refine ⟨h1, fun x => ?_⟩
      rw [h2 x, List.mem_cons]
      constructor
      · rintro (q | q)
        · exact .inl q
        · exact .inr (.inr q)
      · rintro (q | q | q)
        · exact .inl q
        · exact .inl (q ▸ hz)
        · exact .inr q
    · rw [if_neg hz]
      have hn : (acc ++ [z]).Nodup := List.nodup_append.mpr ⟨h, by simp, fun a ha b hb e => hz (by rw [List.mem_singleton] at hb; rw [← hb, ← e]; exact ha)⟩
      obtain ⟨h1, h2⟩ := ih (acc ++ [z]) hn
      refine ⟨h1, fun x => ?_⟩
      rw [h2 x, List.mem_append, List.mem_singleton, List.mem_cons]
      constructor
      · rintro ((q | q) | q)
        · exact .inl q
        · exact .inr (.inl q)
        · exact .inr (.inr q)
      · rintro (q | q | q)
        · exact .inl (.inl q)
        · exact .inl (.inr q)
        · exact .inr q
theorem uniq_nodup (zs : List Str) : (uniq zs).Nodup := (uniq_spec zs [] List.nodup_nil).1
theorem mem_uniq (zs : List Str) (x : Str) : x ∈ uniq zs ↔ x ∈ zs := by
  have h := (uniq_spec zs [] List.nodup_nil).2 x
  have e : x ∈ uniq zs ↔ x ∈ ([] : List Str) ∨ x ∈ zs := h
  simpa using e
def ord (zs : List Str) : List Str := (uniq zs).mergeSort leW
theorem mem_ord {zs : List Str} {x : Str} : x ∈ ord zs ↔ x ∈ zs := by
  unfold ord
  rw [List.mem_mergeSort, mem_uniq]
theorem ord_sorted (zs : List Str) : (ord zs).Pairwise ahead := by
  have h1 : (ord zs).Pairwise fun a b => leW a b = true := by
    refine List.pairwise_mergeSort (fun a b c h h' => ?_) (fun a b => ?_) _
    · simp only [leW, Bool.not_eq_true', decide_eq_false_iff_not] at *
      intro q
      rcases ahead_total b c with z | z | z
      · exact h (ahead_trans z q)
      · exact h (z ▸ q)
      · exact h' z
    · simp only [leW, Bool.or_eq_true, Bool.not_eq_true', decide_eq_false_iff_not]
      by_cases q : ahead b a
      · exact .inr fun q' => ahead_irrefl _ (ahead_trans q q')
      · exact .inl q
  have h2 : (ord zs).Nodup := (List.mergeSort_perm _ _).nodup_iff.mpr (uniq_nodup zs)
  have h2' : (ord zs).Pairwise fun a b => a ≠ b := h2
  refine List.Pairwise.imp₂ (fun a b h h' => ?_) h1 h2'
  simp only [leW, Bool.not_eq_true', decide_eq_false_iff_not] at h
  rcases ahead_total a b with z | z | z
  · exact z
  · exact absurd z h'
  · exact absurd z h
/-- only one list ascends and has these members -/
theorem sorted_one : ∀ {xs ys : List Str}, xs.Pairwise ahead → ys.Pairwise ahead → (∀ z, z ∈ xs ↔ z ∈ ys) → xs = ys
  | [], [], _, _, _ => rfl
  | [], y :: ys, _, _, h => absurd ((h y).mpr List.mem_cons_self) (by simp)
  | x :: xs, [], _, _, h => absurd ((h x).mp List.mem_cons_self) (by simp)
  | x :: xs, y :: ys, hx, hy, h => by
    rw [List.pairwise_cons] at hx hy
    have e : x = y := by
      rcases ahead_total x y with z | z | z
      · have := (h x).mp List.mem_cons_self
        rcases List.mem_cons.mp this with q | q
        · exact q
        · exact absurd (ahead_trans z (hy.1 x q)) (ahead_irrefl _)
      · exact z
      · have := (h y).mpr List.mem_cons_self
        rcases List.mem_cons.mp this with q | q
        · exact q.symm
        · exact absurd (ahead_trans z (hx.1 y q)) (ahead_irrefl _)
    subst e
    congr 1
    refine sorted_one hx.2 hy.2 fun z => ?_
    have hz := h z
    rw [List.mem_cons, List.mem_cons] at hz
    constructor
    · intro q
      rcases hz.mp (.inr q) with e | e
      · exact absurd (e ▸ hx.1 z q) (ahead_irrefl _)
      · exact e
    · intro q
      rcases hz.mpr (.inr q) with e | e
      · exact absurd (e ▸ hy.1 z q) (ahead_irrefl _)
      · exact e
theorem ord_eq {xs ys : List Str} (h : ∀ z, z ∈ xs ↔ z ∈ ys) : ord xs = ord ys := sorted_one (ord_sorted _) (ord_sorted _) fun z => by rw [mem_ord, mem_ord]; exact h z
theorem ord_of {xs : List Str} (h : xs.Pairwise ahead) : ord xs = xs := sorted_one (ord_sorted _) h fun z => mem_ord
theorem ord_ord (xs : List Str) : ord (ord xs) = ord xs := ord_of (ord_sorted xs)
theorem ord_reverse (xs : List Str) : ord xs.reverse = ord xs := ord_eq fun z => List.mem_reverse
theorem ord_length (zs : List Str) : (ord zs).length ≤ zs.length := by
  unfold ord
  rw [List.length_mergeSort]
  have h : ∀ (zs acc : List Str), (zs.foldl (fun acc z => if z ∈ acc then acc else acc ++ [z]) acc).length ≤ acc.length + zs.length := by
    intro zs
    induction zs with
    | nil => intro acc; simp
    | cons z zs ih =>
      intro acc
      rw [List.foldl_cons, List.length_cons]
      have := ih (if z ∈ acc then acc else acc ++ [z])
      split at this
      · rename_i q; rw [if_pos q]; omega
      · rename_i q; rw [if_neg q]; rw [List.length_append, List.length_singleton] at this; omega
  simpa [uniq] using h zs []
theorem dataLe_rank : PySem.W.dataLe false (fun z : Str => PyData.tuple [.int z.length, .str z]) = leW := by
  funext a b
  show (!PySem.W.dataLt (.tuple [.int b.length, .str b]) (.tuple [.int a.length, .str a])) = _
  rw [PySem.W.dataLt_pair (by simp [PySem.W.alike]) (by simp [PySem.W.alike]), PySem.W.dataLt_int, PySem.W.dataLt_str]
  simp only [PyData.eqv, leW, ahead, beq_iff_eq]
  congr 1
  by_cases h1 : (b.length : Int) = a.length
  · have e : b.length = a.length := by omega
    have nl : ¬ b.length < a.length := by omega
    rw [if_pos h1]
    by_cases h2 : b = a
    · subst h2
      rw [if_pos rfl]
      exact (decide_eq_false (fun q => ahead_irrefl b q)).symm
    · rw [if_neg h2]
      simp [e]
  · have e : b.length ≠ a.length := by omega
    rw [if_neg h1]
    simp only [e, false_and, or_false]
    congr 1
    exact propext ⟨fun q => by omega, fun q => by omega⟩
end MN
/-! word_rank as the key of a sort: its call keeps all that stands -/
namespace MN
open PySem PySem.Spec PyProof.Rows L2
abbrev rankOf (z : Str) : PyData := .tuple [.int z.length, .str z]
/-- the module as it stands in a heap -/
structure ModAt (K : PySem.W.Frag) (mg : Str → Option Value) (h : Heap) : Prop where
  kin : K.In h
  glob : h.Ns mainGlobals mg
  blt : ∃ mb, h.Ns builtinsNs mb ∧ ∀ x : Str, x ≠ "__name__" → mb x = bootBuiltins x
  nolimit : h.NoLimit
theorem ModAt.keeps {K : PySem.W.Frag} {mg : Str → Option Value} {h h' : Heap} (m : ModAt K mg h) (k : ∀ b o, h.get? b = some o → h'.get? b = some o) : ModAt K mg h' := by
  obtain ⟨mb, h1, h2⟩ := m.blt
  exact ⟨m.kin.keeps k, m.glob.keeps k, ⟨mb, h1.keeps k, h2⟩, m.nolimit.keeps k⟩
theorem modAt {X : Cx} {pins : List (Addr × Obj)} {σ : L2.St} {H : Hp} {s : Shared} (I : Inv X pins σ H s) : ModAt X.K X.mg s.heap :=
  (ModAt.mk I.mod.kin I.mod.glob I.mod.blt I.mod.nolimit).keeps I.bk
/-- a def as the key of a sort of texts -/
def KeyD (P : Program) (w : World) (K : PySem.W.Frag) (mg : Str → Option Value) (f : Addr) (key : Str → PyData) : Prop :=
  ∀ (A : Around) (s : Shared) (x : Str) (t : Tok), A.depth < recursionLimit → ModAt K mg s.heap → x.length ≤ 100000 →
    wpAny (model P w) A (call (.ref f) [.str x t]) (PySem.W.KeyPure (key x) s) (fun _ _ => False) s
theorem sc_word_rank : FnScope ["word"] ["word"] (defScope (top 15)) := ⟨rfl, rfl, rfl, by decide +kernel, rfl, by decide +kernel, by decide +kernel⟩
theorem key_rank {P : Program} {w : World} {K : PySem.W.Frag} {mg : Str → Option Value} (A : At K mg "word_rank" (top 15)) (hlen : mg "len" = none) : ∃ f, mg "word_rank" = some (.ref f) ∧ PySem.W.keepIn K (.ref f) = true ∧ KeyD P w K mg f rankOf := by
  obtain ⟨f, fd, F, hm⟩ := A
  refine ⟨f, hm, F.kp, fun A s x t hdp M hx => ?_⟩
  have hb := FunD.bindsA (ps := ["word"]) F (fun _ _ _ _ _ _ us hl => match us, hl with | [_], _ => rfl) s [.str x t] rfl
  obtain ⟨oc, od, dV, kV, doc, pm, an, cdv, ct, osl, rfl, lk, hcd, -, -⟩ := F.ex
  have S := sc_word_rank
  refine wpAny_call (codeAny_call_function hdp (M.kin _ _ lk) rfl S.co S.gen rfl (PySem.W.codeRec_of M.kin hcd) (hb _ _ _ _ ?_))
  refine wpAny_newFunctionEnv_cells S.kind (fun y hy => (S.par y.1 (List.of_mem_zip hy).1).imp id fun q => ⟨q, PySem.W.cellsFrom_some _ _ _ (.inl q)⟩) fun env he s1 ic => ?_
  cases he
  refine ⟨M.nolimit.keeps ic.toInCall.keep, codeAny_func ?_⟩
  have k1 := ic.toInCall.keep
  have M1 := M.keeps k1
  obtain ⟨mb, b1, b2⟩ := M1.blt
  have kw := ic.toInCall.ns
  obtain ⟨h1, tk1, rfl⟩ := ic.toInCall.same
  refine wpAny_execs_cons (wpAny_Return_some (wpAny_Tuple_spliced (Calls.spliced_cons ?_)))
  refine wpAny_Call_Name_kw (Calls.Name_function_global rfl (by rfl) (Calls.loadGlobal_builtin M1.glob hlen b1 ((b2 "len" (by decide)).trans PySem.boot_len) ?_))
  refine PyProof.Rows.callWith_builtin1 (Calls.spliced_cons (wpAny_Name (ldLC ic rfl (by rfl) (by rfl) ?_) (by decide)))
  refine Calls.spliced_nil (PyProof.Rows.len_str (by have h63 : (100000 : Int) < 2 ^ 63 := (by decide); omega) ?_)
  refine Calls.spliced_cons (wpAny_Name (ldLC (ic.tok _) rfl (by rfl) (by rfl) ?_) (by decide))
  refine Calls.spliced_nil ⟨(by show 2 ≤ sizeLine; decide), ?_⟩
  refine ⟨_, _, rfl, fun b o e => Heap.get?_push_of_some _ (k1 b o e), ?_⟩
  exact Reads.tuple (as := []) (Heap.get?_push_size _ rfl) rfl rfl (ReadsAll.cons (as := []) (bs := []) (Reads.int _ _) (ReadsAll.cons (as := []) (bs := []) (Reads.str _ _) ReadsAll.nil))
/-! ### sorted(texts, key=f) -/
def rSortKey (K : PySem.W.Frag) (f : Addr) (key : Str → PyData) : List V → List V → Hp → VK → Prop := fun vs zs H Q => ∃ (a : Addr) (xs : List Str), vs = [V.ref a] ∧ zs = [V.ref f] ∧ SqL K H a (xs.map V.str) ∧ xs.length ≤ 100000 ∧ (∀ z ∈ xs, z.length ≤ 100000) ∧
  ∀ p, H p = none → Q (.ref p) (upd H p (.lst ((xs.mergeSort (PySem.W.dataLe false key)).map V.str)))
section
variable {X : Cx}
theorem vals_strs : ∀ {xs : List Str} {us : List Value}, Vals (xs.map V.str) us → PySem.W.EachIs (fun v (z : Str) => ∃ t, v = Value.str z t) us xs
  | [], _, .nil => PySem.W.EachIs.nil
  | _ :: _, _, .cons ⟨t, e⟩ r => PySem.W.EachIs.cons ⟨t, e⟩ (vals_strs r)
theorem strs_vals : ∀ {xs : List Str} {us : List Value}, PySem.W.EachIs (fun v (z : Str) => ∃ t, v = Value.str z t) us xs → Vals (xs.map V.str) us
  | [], us, h => by
    have := h.length
    match us, this with
    | [], _ => exact .nil
  | x :: xs, us, h => by
    cases h with
    | cons h1 h2 => exact .cons h1 (strs_vals h2)
theorem alike_rank (xs : List Str) : PySem.W.AllAlike (xs.map rankOf) := fun d hd d' hd' => by
  obtain ⟨x, _, rfl⟩ := List.mem_map.mp hd
  obtain ⟨y, _, rfl⟩ := List.mem_map.mp hd'
  rfl
theorem sortable_rank (xs : List Str) : PySem.W.Sortable (xs.map rankOf) := .inl fun d hd => by
  obtain ⟨x, _, rfl⟩ := List.mem_map.mp hd
  exact ⟨_, _, rfl⟩
theorem cr_sortRank {f : Addr} (hu : X.A.units + 64 < cLine) (hdp : X.A.depth < recursionLimit) (F : KeyD X.prog X.w X.K X.mg f rankOf) : CallRK X (.builtin "sorted") [Str.ofString "key"] (rSortKey X.K f rankOf) := by
  intro pins s σ H vs zs us ws Q I r rz h
  obtain ⟨a, xs, rfl, rfl, hs, hl, hz, q⟩ := h
  obtain rfl := Vals.ref1 r
  obtain rfl := Vals.ref1 rz
  obtain ⟨its, rv, hi, hsz⟩ := I.list hs
  have M := modAt I
  refine PySem.W.sorted_key_data (b := false) rankOf hi.isList (vals_strs rv) (alike_rank xs) (sortable_rank xs) (Nat.le_trans hl (by decide)) (fun x _ => ?_) (PyProof.Rows.ksk_s1 _ _) (fun _ => PyProof.Rows.ksk_l1 _ _) (fun x => PyProof.Rows.ksk_t1 f x) ?_ ?_
  · have : (rankOf x).depth = 1 := by simp [rankOf, PyData.depth, PyData.depthAll]
    omega
  · rintro v x ⟨t, rfl⟩ hx h tk hk
    exact F _ _ x t hdp (M.keeps hk) (hz x hx)
  · intro out c h' tk hk hn ho hlen he
    have hlen2 : (xs.mergeSort (PySem.W.dataLe false rankOf)).length ≤ sizeLine := by
      rw [List.length_mergeSort]
      exact Nat.le_trans hl (by decide)
    exact ⟨.ref _, upd H (s.heap.objs.size + 1) (.lst ((xs.mergeSort (PySem.W.dataLe false rankOf)).map V.str)),
      I.laid hk (Nat.le_succ _) ⟨by rw [List.length_map]; exact hlen2, out, c, strs_vals he, ho⟩, rfl, q _ (I.hok.fresh (Nat.le_succ _))⟩
end
end MN
/-! the defs about words -/
namespace MN
open PySem PySem.Spec PyProof.Rows L2
theorem str_one {z : Str} (h : z.length = 1) : ∃ c, z = ⟨#[c]⟩ := by
  obtain ⟨⟨l⟩⟩ := z
  match l, h with
  | [c], _ => exact ⟨c, rfl⟩
/-- a value: a text, or one of a kind that is no text -/
def ValOk (K : PySem.W.Frag) (H : Hp) (v : V) : Prop := (∃ z : Str, v = .str z ∧ z.length ≤ 100000) ∨ ((∀ z, v ≠ .str z) ∧ IsX K H v "str" false)
theorem ValOk.str {K : PySem.W.Frag} {H : Hp} {z : Str} (h : z.length ≤ 100000) : ValOk K H (.str z) := .inl ⟨z, rfl, h⟩
def sgn (c : Nat) : Bool := decide (c ∈ ("abcde" : Str).cps.toList)
def isWordS (z : Str) : Bool := z.cps.toList.all sgn
def isWord : V → Bool
  | .str z => isWordS z
  | _ => false
def isSign : V → Bool
  | .str z => decide (z.length = 1) && isWordS z
  | _ => false
theorem isWord_no {v : V} (h : ∀ z, v ≠ .str z) : isWord v = false := by
  cases v with
  | str z => exact absurd rfl (h z)
  | _ => rfl
theorem isSign_no {v : V} (h : ∀ z, v ≠ .str z) : isSign v = false := by
  cases v with
  | str z => exact absurd rfl (h z)
  | _ => rfl
section
variable {P : Program} {w : World} {K : PySem.W.Frag} {mg : Str → Option Value} {base : Heap}
/-! ### is_sign -/
def spIsSign (K : PySem.W.Frag) : Sp := fun vs H Q _ => ∃ v, vs = [v] ∧ ValOk K H v ∧ Q (.bl (isSign v)) H
theorem sc_is_sign : FnScope ["value"] ["value"] (defScope (top 9)) := ⟨rfl, rfl, rfl, by decide +kernel, rfl, by decide +kernel, by decide +kernel⟩
theorem c_is_sign (A : At K mg "is_sign" (top 9)) (B : Blt mg) : Cal P w K mg base 1 "is_sign" (spIsSign K) := by
  refine cal_of A sc_is_sign (fun _ _ _ _ _ _ us hl => match us, hl with | [_], _ => rfl) (fun vs H Q E h => ?_) (fun f cdv A outer s H vs Q E hr h => ?_)
  · obtain ⟨v, rfl, _⟩ := h; rfl
  · obtain ⟨v, rfl, hv, hQ⟩ := h
    refine ⟨_, pss_one (ps_ret (pe_and (pe_callB call_isS (by rfl) B.isinstance (by decide +kernel) (pa_cons (pv 0) (pa_cons (pe_bltn (v := .ty "str") (by rfl) B.str (by decide +kernel) rfl) pa_nil)))
      (pe_and (pe_cmpR op_eq (pe_callB call_len_str (by rfl) B.len PySem.boot_len (pa_cons (pv 0) pa_nil)) pe_int (nomark _))
        (pe_one (pe_cmpR op_in_sign (pv 0) (pe_gl (by rfl) B.SIGNS) (by rfl)))))), ?_⟩
    rcases hv with ⟨z, rfl, hz⟩ | ⟨hn, hk⟩
    · refine ⟨_, rfl, .str z, "str", true, rfl, .str, true, rfl, iteT ?_⟩
      refine ⟨_, rfl, z, rfl, Nat.le_trans hz (by decide), rfl, _, rfl, ?_⟩
      by_cases h1 : z.length = 1
      · obtain ⟨c, rfl⟩ : ∃ c, z = ⟨#[c]⟩ := str_one h1
        rw [show decide (V.int ((⟨#[c]⟩ : Str).length : Int) = V.int 1) = true from rfl]
        refine iteT ⟨_, rfl, c, _, rfl, rfl, ?_⟩
        have e : isSign (.str ⟨#[c]⟩) = decide (c ∈ ("abcde" : Str).cps.toList) := by simp [isSign, isWordS, Str.length, sgn]
        rw [← e]; exact hQ
      · have e0 : decide (V.int (z.length : Int) = V.int 1) = false := decide_eq_false (fun q => h1 (by injection q with q; omega))
        rw [e0]
        have e : isSign (.str z) = false := by simp [isSign, h1]
        rw [e] at hQ
        exact iteF hQ
    · refine ⟨_, rfl, v, "str", false, rfl, hk, false, rfl, iteF ?_⟩
      rw [isSign_no hn] at hQ
      exact hQ
/-! ### is_word -/
def spIsWord (K : PySem.W.Frag) : Sp := fun vs H Q _ => ∃ v, vs = [v] ∧ ValOk K H v ∧ ∀ H', Same H H' → Q (.bl (isWord v)) H'
abbrev N_is_word : List Str := ["value", "sign"]
theorem sc_is_word : FnScope N_is_word ["value"] (defScope (top 10)) := ⟨rfl, rfl, rfl, by decide +kernel, rfl, by decide +kernel, by decide +kernel⟩
theorem c_is_word (A : At K mg "is_word" (top 10)) (B : Blt mg) : Cal P w K mg base 1 "is_word" (spIsWord K) := by
  refine cal_of A sc_is_word (fun _ _ _ _ _ _ us hl => match us, hl with | [_], _ => rfl) (fun vs H Q E h => ?_) (fun f cdv A outer s H vs Q E hr h => ?_)
  · obtain ⟨v, rfl, _⟩ := h; rfl
  · obtain ⟨v, rfl, hv, hQ⟩ := h
    refine ⟨_, (pss_one (ps_ret (pe_and (pe_callB call_isS (by rfl) B.isinstance (by decide +kernel) (pa_cons (pv 0) (pa_cons (pe_bltn (v := .ty "str") (by rfl) B.str (by decide +kernel) rfl) pa_nil)))
      (pe_one (pe_callB (cr_all rfl) (by rfl) B.all (by decide +kernel) (pa_cons (pe_lc (own := [("sign", 1)]) (g := gName 1) (tt := tYes) (by rfl) sc_is_word.nd (pi_str (pv 0))
        (blkOk_by (own := [("sign", 1)]) (N := N_is_word) (sc := defScope (top 10)) (by decide +kernel)) (fun _ _ _ _ _ => (pg_name (i := 1) sc_is_word.nd rfl (Or.inl rfl))) (fun _ _ _ _ _ => pts_nil)
        (fun _ _ _ _ _ => (pe_cmpR op_in_sign (pv 1) (pe_gl (by rfl) B.SIGNS) (by rfl)))) pa_nil)))))), ?_⟩
    rcases hv with ⟨z, rfl, hz⟩ | ⟨hn, hk⟩
    · refine ⟨_, rfl, .str z, "str", true, rfl, .str, true, rfl, iteT ?_⟩
      refine ⟨_, rfl, z, rfl, fun D hD => lc_str (by omega) (fun _ => true) (fun x => .bl (isWord x)) (fun x _ => rfl) (fun x _ acc Q q => q) (fun x hx _ acc Q q => ?_) ?_⟩
      · obtain ⟨c, hc, rfl⟩ := List.mem_map.mp hx
        refine ⟨_, rfl, c, _, rfl, rfl, ?_⟩
        have e : isWord (.str ⟨#[c]⟩) = decide (c ∈ ("abcde" : Str).cps.toList) := by simp [isWord, isWordS, sgn]
        rw [← e]; exact q
      · refine ⟨D, (signsOf z).map isWord, rfl, .inl (.inl ?_), ?_⟩
        · rw [filter_all, List.map_map]; exact upd_same
        · have e : ((signsOf z).map isWord).all id = isWordS z := by
            simp [signsOf, isWordS, isWord, List.all_map, Function.comp_def]
          rw [e]
          exact hQ _ (same_new hD)
    · refine ⟨_, rfl, v, "str", false, rfl, hk, false, rfl, iteF ?_⟩
      rw [isWord_no hn] at hQ
      exact hQ _ (Same.refl _)
end
end MN
/-! require_words, by_words, ordered -/
namespace MN
open PySem PySem.Spec PyProof.Rows L2
section
variable {P : Program} {w : World} {K : PySem.W.Frag} {mg : Str → Option Value} {base : Heap}
/-! ### require_words -/
/-- a tuple of words -/
def WordsAt (K : PySem.W.Frag) (H : Hp) (t : Addr) (zs : List Str) : Prop := SqT K H t (zs.map V.str) ∧ zs.length ≤ 100000 ∧ ∀ z ∈ zs, isWordS z = true ∧ z.length ≤ 100000
def spReqWords (K : PySem.W.Frag) : Sp := fun vs H Q _ => ∃ t zs, vs = [.ref t] ∧ WordsAt K H t zs ∧ ∀ H', Same H H' → Q .non H'
abbrev N_require_words : List Str := ["value", "word"]
theorem sc_require_words : FnScope N_require_words ["value"] (defScope (top 13)) := ⟨rfl, rfl, rfl, by decide +kernel, rfl, by decide +kernel, by decide +kernel⟩
theorem c_require_words (A : At K mg "require_words" (top 13)) (B : Blt mg) (c_is_word : Cal P w K mg base 1 "is_word" (spIsWord K)) : Cal P w K mg base 2 "require_words" (spReqWords K) := by
  refine cal_of A sc_require_words (fun _ _ _ _ _ _ us hl => match us, hl with | [_], _ => rfl) (fun vs H Q E h => ?_) (fun f cdv A outer s H vs Q E hr h => ?_)
  · obtain ⟨t, zs, rfl, _⟩ := h; rfl
  · obtain ⟨t, zs, rfl, ⟨ht, hl, hw⟩, hQ⟩ := h
    refine ⟨_, (pss_one (ps_if (PW.pt (pw_or (pt_not (pt_val (pe_callB call_isi (by rfl) B.isinstance (by decide +kernel) (pa_cons (pv 0) (pa_cons (pe_bltn (v := .ty "tuple") (by rfl) B.tuple (by decide +kernel) rfl) pa_nil)))))
      (pw_or1 (pt_not (pt_val (pe_callB (cr_all rfl) (by rfl) B.all (by decide +kernel) (pa_cons (pe_lc (own := [("word", 1)]) (g := gName 1) (tt := tYes) (by rfl) sc_require_words.nd (pi_tup (pv 0))
        (blkOk_by (own := [("word", 1)]) (N := N_require_words) (sc := defScope (top 13)) (by decide +kernel)) (fun _ _ _ _ _ => (pg_name (i := 1) sc_require_words.nd rfl (Or.inl rfl))) (fun _ _ _ _ _ => pts_nil)
        (fun _ _ _ _ _ => (pe_c c_is_word hr (by decide) (by rfl) (pa_cons (pv 1) pa_nil)))) pa_nil)))))))
      (pss_one ps_never)
      pss_nil)), ?_⟩
    refine ⟨_, rfl, .ref t, .ty "tuple", .type "tuple", .type "tuple", true, rfl, .ty _, tyT ht, kit_ty (by decide +kernel), true, rfl, iteF ?_⟩
    refine ⟨_, rfl, t, rfl, ⟨_, ht⟩, fun D hD => lc_tplE ht hD (by simp; omega) (fun _ => true) (fun x => .bl (isWord x)) (fun x _ => rfl) (fun x _ H2 e2 Q q => q _ (Same.refl _)) (fun x hx _ H2 e2 Q q => ?_) (fun H' e' hD' => ?_)⟩
    · obtain ⟨z, hz, rfl⟩ := List.mem_map.mp hx
      exact ⟨_, rfl, _, rfl, .str (hw z hz).2, q⟩
    · refine ⟨D, (zs.map V.str).map isWord, rfl, .inl (.inl ?_), true, ?_, iteF (hQ _ e')⟩
      · rw [hD', filter_all]; simp [Function.comp_def]
      · congr 1
        rw [List.all_map, List.all_map, List.all_eq_true]
        exact fun z hz => (hw z hz).1
/-! ### by_words, ordered -/
theorem putK_new {kvs : List (Key × V)} {k : Key} {v : V} (h : k ∉ kvs.map (·.1)) : putK kvs k v = kvs ++ [(k, v)] := by
  unfold putK
  rw [if_neg]
  intro q
  obtain ⟨kv, h1, h2⟩ := List.any_eq_true.mp q
  exact h (List.mem_map.mpr ⟨kv, h1, of_decide_eq_true h2⟩)
theorem putK_same {kvs : List (Key × V)} {k : Key} {v : V} (h : k ∈ kvs.map (·.1)) (hv : ∀ kv ∈ kvs, kv.2 = v) : putK kvs k v = kvs := by
  obtain ⟨kv, h1, h2⟩ := List.mem_map.mp h
  unfold putK
  rw [if_pos (List.any_eq_true.mpr ⟨kv, h1, decide_eq_true h2⟩)]
  have : ∀ x ∈ kvs, (if x.1 = k then (x.1, v) else x) = x := fun x hx => by
    split
    · rw [← hv x hx]
    · rfl
  rw [List.map_congr_left this, List.map_id']
def trueK (zs : List Str) : List (Key × V) := zs.map fun z => (Sum.inr z, V.bl true)
theorem uniq_snoc (zs : List Str) (z : Str) : uniq (zs ++ [z]) = if z ∈ uniq zs then uniq zs else uniq zs ++ [z] := by
  unfold uniq
  rw [List.foldl_append]
  rfl
theorem putK_uniq (zs : List Str) (z : Str) : putK (trueK (uniq zs)) (Sum.inr z) (.bl true) = trueK (uniq (zs ++ [z])) := by
  have hm : (Sum.inr z : Key) ∈ (trueK (uniq zs)).map (·.1) ↔ z ∈ uniq zs := by
    simp [trueK]
  rw [uniq_snoc]
  by_cases h : z ∈ uniq zs
  · rw [if_pos h, putK_same (hm.mpr h) fun kv hkv => ?_]
    obtain ⟨y, _, rfl⟩ := List.mem_map.mp hkv
    rfl
  · rw [if_neg h, putK_new fun q => h (hm.mp q)]
    simp [trueK]
def spByWords (K : PySem.W.Frag) : Sp := fun vs H Q _ => ∃ t zs, vs = [.ref t] ∧ WordsAt K H t zs ∧ ∀ p H', H p = none → Same H H' → H' p = some (.lst ((ord zs).map V.str)) → Q (.ref p) H'
abbrev N_by_words : List Str := ["words", "word"]
theorem sc_by_words : FnScope N_by_words ["words"] (defScope (top 16)) := ⟨rfl, rfl, rfl, by decide +kernel, rfl, by decide +kernel, by decide +kernel⟩
theorem uniq_length (zs : List Str) : (uniq zs).length ≤ zs.length := by
  have h := ord_length zs
  unfold ord at h
  rw [List.length_mergeSort] at h
  exact h
theorem c_by_words (A : At K mg "by_words" (top 16)) (B : Blt mg) {f : Addr} (hm : mg "word_rank" = some (.ref f)) (F : KeyD P w K mg f rankOf) : Cal P w K mg base 1 "by_words" (spByWords K) := by
  refine cal_of A sc_by_words (fun _ _ _ _ _ _ us hl => match us, hl with | [_], _ => rfl) (fun vs H Q E h => ?_) (fun _ cdv A outer s H vs Q E hr h => ?_)
  · obtain ⟨t, zs, rfl, _⟩ := h; rfl
  · obtain ⟨t, zs, rfl, ⟨ht, hl, hw⟩, hQ⟩ := h
    refine ⟨_, pss_one (ps_ret (pe_callBK (cr_sortRank hr.units hr.depth F) (by rfl) B.sorted (by decide +kernel)
      (pa_cons (pe_callTy (call_list_dK rfl) (by rfl) B.list (by decide +kernel) (pa_cons (pe_dc (own := [("word", 1)]) (g := gName 1) (tt := tYes) rfl sc_by_words.nd (pi_tup (pv 0))
        (blkOk_by (own := [("word", 1)]) (N := N_by_words) (sc := defScope (top 16)) (by decide +kernel)) (fun _ _ _ _ _ => (pg_name (i := 1) sc_by_words.nd rfl (Or.inl rfl))) (fun _ _ _ _ _ => pts_nil)
        (fun _ _ _ _ _ => pv 1) (fun _ _ _ _ _ => pe_bl)) pa_nil)) pa_nil) (pk_cons (pe_glob (v := .ref f) (by rfl) hm rfl) pk_nil))), ?_⟩
    refine ⟨_, rfl, t, rfl, ⟨_, ht⟩, fun D hD => dc_tup (xs := zs.map V.str) (fun i H' => H' = upd H D (.dK (trueK (uniq (zs.take i))))) rfl (fun i H' _ e => by rw [e]; exact seqT_upd ht hD) (fun i x H' hx e => ?_) (fun H' e => ?_)⟩
    · subst e
      rw [List.getElem?_map] at hx
      obtain ⟨z, hz, rfl⟩ := Option.map_eq_some_iff.mp hx
      refine ⟨rfl, yes_q (iteT ⟨_, rfl, _, Sum.inr z, rfl, upd_same, ?_, ?_⟩)⟩
      · have h1 := uniq_length (zs.take i)
        have h2 : (zs.take i).length ≤ zs.length := by rw [List.length_take]; omega
        have h3 : 100000 < sizeLine := by decide
        simp only [trueK, List.length_map]
        omega
      · rw [upd_upd, putK_uniq, List.take_add_one, hz]
        rfl
    · rw [List.length_map, List.take_length] at e
      subst e
      refine ⟨D, _, rfl, upd_same, fun q hq => ⟨q, uniq zs, rfl, rfl, .inl (.inl ?_), ?_, ?_, fun p hp => ?_⟩⟩
      · rw [upd_same]
        simp [trueK, kV]
      · exact Nat.le_trans (uniq_length zs) hl
      · intro z hz
        exact (hw z ((mem_uniq zs z).mp hz)).2
      · have e1 : H p = none := by
          by_cases z : p = D
          · rw [z]; exact hD
          · by_cases z2 : p = q
            · rw [z2, upd_same] at hp; cases hp
            · rw [upd_ne z2, upd_ne z] at hp; exact hp
        have e2 : H q = none := by
          by_cases z : q = D
          · rw [z]; exact hD
          · rw [upd_ne z] at hq; exact hq
        refine hQ p _ e1 (fun b o e => ?_) ?_
        · rw [upd_ne (ne_of_none e e1), upd_ne (ne_of_none e e2), upd_ne (ne_of_none e hD)]
          exact e
        · rw [upd_same, dataLe_rank]
          rfl
def spOrdered (K : PySem.W.Frag) : Sp := fun vs H Q _ => ∃ t zs, vs = [.ref t] ∧ WordsAt K H t zs ∧ ∀ p H', H p = none → Same H H' → H' p = some (.tup ((ord zs).map V.str)) → Q (.ref p) H'
theorem sc_ordered : FnScope ["words"] ["words"] (defScope (top 17)) := ⟨rfl, rfl, rfl, by decide +kernel, rfl, by decide +kernel, by decide +kernel⟩
theorem c_ordered (A : At K mg "ordered" (top 17)) (B : Blt mg) (c_require_words : Cal P w K mg base 2 "require_words" (spReqWords K)) (c_by_words : Cal P w K mg base 1 "by_words" (spByWords K)) : Cal P w K mg base 3 "ordered" (spOrdered K) := by
  refine cal_of A sc_ordered (fun _ _ _ _ _ _ us hl => match us, hl with | [_], _ => rfl) (fun vs H Q E h => ?_) (fun _ cdv A outer s H vs Q E hr h => ?_)
  · obtain ⟨t, zs, rfl, _⟩ := h; rfl
  · obtain ⟨t, zs, rfl, ht, hQ⟩ := h
    refine ⟨_, pss_cons (ps_expr (pe_c c_require_words hr (by decide) (by rfl) (pa_cons (pv 0) pa_nil))) (pss_one (ps_ret (pe_callTy call_tuple_of (by rfl) B.tuple (by decide +kernel) (pa_cons (pe_c c_by_words hr (by decide) (by rfl) (pa_cons (pv 0) pa_nil)) pa_nil)))), ?_⟩
    refine ⟨_, rfl, t, zs, rfl, ht, fun H1 e1 => ⟨_, rfl, t, zs, rfl, ⟨Same.seqT e1 ht.1, ht.2⟩, fun p H2 hp e2 h2 => ⟨p, _, rfl, .inl ⟨.inl (.inl h2), fun q hq => ?_⟩⟩⟩⟩
    have q0 : H q = none := e1.free (e2.free hq)
    exact hQ q _ q0 ((e1.trans e2).trans (same_new hq)) upd_same
end
end MN
/-! the defs about numbers -/
namespace MN
open PySem PySem.Spec PyProof.Rows L2
def big : Int := 10 ^ 60
def isInt (n : Int) : Bool := decide (-big < n) && decide (n < big)
theorem isInt_of {n : Int} (h1 : -1000000 ≤ n) (h2 : n ≤ 1000000) : isInt n = true := by
  have : (1000000 : Int) < big := by decide +kernel
  unfold isInt
  rw [decide_eq_true (by omega), decide_eq_true (by omega)]
  rfl
section
variable {P : Program} {w : World} {K : PySem.W.Frag} {mg : Str → Option Value} {base : Heap}
def spIsInt (K : PySem.W.Frag) : Sp := fun vs H Q _ => ∃ v, vs = [v] ∧ ((∃ n, v = .int n ∧ Q (.bl (isInt n)) H) ∨ (∃ b, v = .bl b ∧ Q (.bl false) H) ∨ (IsX K H v "int" false ∧ Q (.bl false) H))
theorem sc_is_integer : FnScope ["value"] ["value"] (defScope (top 8)) := ⟨rfl, rfl, rfl, by decide +kernel, rfl, by decide +kernel, by decide +kernel⟩
theorem c_is_integer (A : At K mg "is_integer" (top 8)) (B : Blt mg) (G : GlC mg "GREATEST" (.int big)) : Cal P w K mg base 1 "is_integer" (spIsInt K) := by
  refine cal_of A sc_is_integer (fun _ _ _ _ _ _ us hl => match us, hl with | [_], _ => rfl) (fun vs H Q E h => ?_) (fun f cdv A outer s H vs Q E hr h => ?_)
  · obtain ⟨v, rfl, _⟩ := h; rfl
  · obtain ⟨v, rfl, hQ⟩ := h
    refine ⟨_, (pss_one (ps_ret (pe_and (pe_callB call_isS (by rfl) B.isinstance (by decide +kernel) (pa_cons (pv 0) (pa_cons (pe_bltn (v := .ty "int") (by rfl) B.int (by decide +kernel) rfl) pa_nil))) (pe_and (pe_not (pe_callB call_isS (by rfl) B.isinstance (by decide +kernel) (pa_cons (pv 0) (pa_cons (pe_bltn (v := .ty "bool") (by rfl) B.bool (by decide +kernel) rfl) pa_nil)))) (pe_one (pe_chain op_lt op_lt (pe_un un_neg (pe_gl (by rfl) G)) (pv 0) (pe_gl (by rfl) G))))))), ?_⟩
    rcases hQ with ⟨n, rfl, hQ⟩ | ⟨b, rfl, hQ⟩ | ⟨hi, hQ⟩
    · refine ⟨_, rfl, _, _, true, rfl, .ty (.base (.int n)) (by decide +kernel), _, rfl, iteT ?_⟩
      refine ⟨_, rfl, _, _, false, rfl, .ty (.base (.int n)) (by decide +kernel), _, rfl, _, rfl, iteT ?_⟩
      refine ⟨_, rfl, _, rfl, _, _, rfl, rfl, _, rfl, ?_⟩
      by_cases h1 : -big < n
      · rw [decide_eq_true h1]
        refine iteT ⟨_, _, rfl, rfl, ?_⟩
        unfold isInt at hQ
        rw [decide_eq_true h1] at hQ
        exact hQ
      · rw [decide_eq_false h1]
        unfold isInt at hQ
        rw [decide_eq_false h1] at hQ
        exact iteF hQ
    · refine ⟨_, rfl, _, _, true, rfl, .ty (.base (.bl b)) (by decide +kernel), _, rfl, iteT ?_⟩
      exact ⟨_, rfl, _, _, true, rfl, .ty (.base (.bl b)) (by decide +kernel), _, rfl, _, rfl, iteF hQ⟩
    · exact ⟨_, rfl, _, _, false, rfl, hi, _, rfl, iteF hQ⟩
/-- a number within its bounds -/
def spReqNumber : Sp := fun vs H Q _ => ∃ n lo hi, vs = [.int n, .int lo, .int hi] ∧ isInt n = true ∧ lo ≤ n ∧ n ≤ hi ∧ Q .non H
theorem sc_require_number : FnScope ["value", "low", "high"] ["value", "low", "high"] (defScope (top 14)) := ⟨rfl, rfl, rfl, by decide +kernel, rfl, by decide +kernel, by decide +kernel⟩
theorem c_require_number (A : At K mg "require_number" (top 14)) (c_is_integer : Cal P w K mg base 1 "is_integer" (spIsInt K)) : Cal P w K mg base 2 "require_number" spReqNumber := by
  refine cal_of A sc_require_number (fun _ _ _ _ _ _ us hl => match us, hl with | [_, _, _], _ => rfl) (fun vs H Q E h => ?_) (fun f cdv A outer s H vs Q E hr h => ?_)
  · obtain ⟨n, lo, hi, rfl, _⟩ := h; rfl
  · obtain ⟨n, lo, hi, rfl, hn, h1, h2, hQ⟩ := h
    refine ⟨_, (pss_one (ps_if (PW.pt (pw_or (pt_not (pt_val (pe_c c_is_integer hr (by decide) (by rfl) (pa_cons (pv 0) pa_nil)))) (pw_or1 (pt_not (pt_chain op_le op_le (pv 1) (pv 0) (pv 2))))))
      (pss_one ps_never)
      pss_nil)), ?_⟩
    refine ⟨_, rfl, _, rfl, .inl ⟨n, rfl, _, rfl, ?_⟩⟩
    rw [hn]
    refine iteF ⟨_, rfl, _, rfl, _, _, rfl, rfl, _, rfl, ?_⟩
    rw [decide_eq_true h1]
    refine iteT ⟨_, rfl, _, _, rfl, rfl, _, rfl, ?_⟩
    rw [decide_eq_true h2]
    exact iteF hQ
end
end MN
/-! are_signs, require_signs -/
namespace MN
open PySem PySem.Spec PyProof.Rows L2
def ltS (a b : Str) : Bool := decide (a.cps.toList < b.cps.toList)
def asc (zs : List Str) : Bool := (zs.zip zs.tail).all fun p => ltS p.1 p.2
def areSigns (zs : List Str) : Bool := !zs.isEmpty && (zs.all (fun z => isSign (.str z)) && asc zs)
def TextsAt (K : PySem.W.Frag) (H : Hp) (t : Addr) (zs : List Str) : Prop := SqT K H t (zs.map V.str) ∧ zs.length ≤ 100000 ∧ ∀ z ∈ zs, z.length ≤ 100000
section
variable {P : Program} {w : World} {K : PySem.W.Frag} {mg : Str → Option Value} {base : Heap}
def spAreSigns (K : PySem.W.Frag) : Sp := fun vs H Q _ => ∃ t zs, vs = [.ref t] ∧ TextsAt K H t zs ∧ ∀ H', Same H H' → Q (.bl (areSigns zs)) H'
abbrev N_are_signs : List Str := ["value", "sign", "one", "other"]
theorem sc_are_signs : FnScope N_are_signs ["value"] (defScope (top 11)) := ⟨rfl, rfl, rfl, by decide +kernel, rfl, by decide +kernel, by decide +kernel⟩
theorem c_are_signs (A : At K mg "are_signs" (top 11)) (B : Blt mg) (c_is_sign : Cal P w K mg base 1 "is_sign" (spIsSign K)) : Cal P w K mg base 2 "are_signs" (spAreSigns K) := by
  refine cal_of A sc_are_signs (fun _ _ _ _ _ _ us hl => match us, hl with | [_], _ => rfl) (fun vs H Q E h => ?_) (fun f cdv A outer s H vs Q E hr h => ?_)
  · obtain ⟨t, zs, rfl, _⟩ := h; rfl
  · obtain ⟨t, zs, rfl, ⟨ht, hl, hw⟩, hQ⟩ := h
    refine ⟨_, (pss_cons (ps_if (PW.pt (pw_or (pt_not (pt_val (pe_callB call_isi (by rfl) B.isinstance (by decide +kernel) (pa_cons (pv 0) (pa_cons (pe_bltn (v := .ty "tuple") (by rfl) B.tuple (by decide +kernel) rfl) pa_nil))))) (pw_or (pt_cmpR op_eq (pe_callB call_len_seq (by rfl) B.len (by decide +kernel) (pa_cons (pv 0) pa_nil)) pe_int (nomark _)) (pw_or1 (pt_not (pt_val (pe_callB (cr_all rfl) (by rfl) B.all (by decide +kernel) (pa_cons (pe_lc (own := [("sign", 1)]) (g := gName 1) (tt := tYes) (by rfl) sc_are_signs.nd (pi_tup (pv 0)) (blkOk_by (own := [("sign", 1)]) (N := N_are_signs) (sc := defScope (top 11)) (by decide +kernel)) (fun _ _ _ _ _ => (pg_name (i := 1) sc_are_signs.nd rfl (Or.inl rfl))) (fun _ _ _ _ _ => pts_nil) (fun _ _ _ _ _ => (pe_c c_is_sign hr (by decide) (by rfl) (pa_cons (pv 1) pa_nil)))) pa_nil))))))))
      (pss_one (ps_ret pe_bl))
      pss_nil)
      (pss_one (ps_ret (pe_callB (cr_all rfl) (by rfl) B.all (by decide +kernel) (pa_cons (pe_lc (own := [("one", 2), ("other", 3)]) (tt := tYes) (by rfl) sc_are_signs.nd (RZ.pi_zipA (by rfl) B.zip (pa_cons (pv 0) (pa_cons (pe_slice sl_tup (pv 0) (po_some pe_int) po_none) pa_nil))) (blkOk_by (own := [("one", 2), ("other", 3)]) (N := N_are_signs) (sc := defScope (top 11)) (by decide +kernel)) (fun _ _ _ _ _ => (pg_tupK (K := K) (n := 2) rfl rfl (pgs_cons (pg_name (i := 2) sc_are_signs.nd rfl (Or.inl rfl)) (pgs_cons (pg_name (i := 3) sc_are_signs.nd rfl (Or.inl rfl)) pgs_nil)))) (fun _ _ _ _ _ => pts_nil) (fun _ _ _ _ _ => (pe_cmpR op_lt_str (pv 2) (pv 3) (nomark _)))) pa_nil))))), ?_⟩
    refine ⟨_, rfl, .ref t, .ty "tuple", .type "tuple", .type "tuple", true, rfl, .ty _, tyT ht, kit_ty (by decide +kernel), true, rfl, iteF ?_⟩
    refine ⟨_, rfl, _, _, rfl, .inr ht, rfl, _, rfl, ?_⟩
    rw [List.length_map]
    cases zs with
    | nil =>
      exact iteT (iteT (hQ _ (Same.refl _)))
    | cons z0 zt =>
      generalize hzs : z0 :: zt = zs at *
      have hne : 0 < zs.length := by rw [← hzs]; simp
      have e0 : decide (V.int ((zs.length : Nat) : Int) = V.int 0) = false := decide_eq_false (fun q => by injection q with q; omega)
      rw [e0]
      refine iteF ?_
      refine ⟨_, rfl, t, rfl, ⟨_, ht⟩, fun D hD => lc_tpl ht hD (by simp; omega) (fun _ => true) (fun x => .bl (isSign x)) (fun x _ => rfl) (fun x _ acc Q q => q) (fun x hx _ acc Q q => ?_) ?_⟩
      · obtain ⟨z, hz, rfl⟩ := List.mem_map.mp hx
        exact ⟨_, rfl, _, rfl, .str (hw z hz), q⟩
      · refine ⟨D, (zs.map V.str).map isSign, rfl, .inl (.inl ?_), _, rfl, ?_⟩
        · rw [upd_same, filter_all]; simp [Function.comp_def]
        · have ea : ((zs.map V.str).map isSign).all id = zs.all (fun z => isSign (.str z)) := by simp [List.all_map, Function.comp_def]
          rw [ea]
          have e1 : Same H (upd H D (.lst (((zs.map V.str).filter fun _ => true).map fun x => .bl (isSign x)))) := same_new hD
          have hne' : zs.isEmpty = false := by rw [← hzs]; rfl
          cases hs : zs.all (fun z => isSign (.str z)) with
          | false =>
            refine iteT ?_
            have := hQ _ e1
            rw [areSigns, hne', hs] at this
            exact this
          | true =>
            refine iteF ?_
            refine ⟨_, rfl, _, rfl, _, rfl, t, zs.map V.str, rfl, Same.seqT e1 ht, fun q => ?_, fun p hp => ?_⟩
            · have q1 := q.1
              rw [List.length_map] at q1
              rw [show (some (1 : Int)) = some ((1 : Nat) : Int) from rfl, HT.sIx_nat] at q1
              omega
            · have ec : cutV (zs.map V.str) (some 1) none = zs.tail.map V.str := by
                unfold cutV
                rw [show (some (1 : Int)) = some ((1 : Nat) : Int) from rfl, HT.sIx_nat, HT.sIx_none, List.length_map, Nat.min_eq_left hne, ← List.map_drop, List.drop_one, List.take_of_length_le (by simp)]
              rw [ec]
              have e2 := e1.trans (same_new (o := .tup (zs.tail.map V.str)) hp)
              generalize hH1 : upd (upd H D (.lst (((zs.map V.str).filter fun _ => true).map fun x => .bl (isSign x)))) p (.tup (zs.tail.map V.str)) = H1 at *
              have hp1 : SqT K H1 p (zs.tail.map V.str) := .inl (.inl (by rw [← hH1, upd_same]))
              have ht1 : SqT K H1 t (zs.map V.str) := Same.seqT e2 ht
              refine ⟨t, p, _, _, rfl, .inr ⟨ht1, hp1, fun D2 hD2 => ?_⟩⟩
              have hl2 : (zs.tail.map V.str).length = min (zs.map V.str).length (zs.tail.map V.str).length := by simp
              refine lc_it (walk_zipT hl2) (fun i H' => Same H1 H' ∧ H' D2 = some (.lst (((zs.zip zs.tail).take i).map fun p => .bl (ltS p.1 p.2)))) ⟨same_new hD2, by rw [List.take_zero]; exact upd_same⟩ (fun i H' _ e => ⟨Same.seqT e.1 ht1, Same.seqT e.1 hp1⟩) (fun i x H' H2 hi e y => ?_) (fun H' e => ?_)
              · obtain ⟨T, x1, y1, rfl, hT, rfl, hx, hy⟩ := y
                simp only [List.getElem?_map] at hx hy
                obtain ⟨a, ha, rfl⟩ := Option.map_eq_some_iff.mp hx
                obtain ⟨b, hb, rfl⟩ := Option.map_eq_some_iff.mp hy
                have nD : D2 ≠ T := ne_of_none e.2 hT
                refine ⟨T, _, rfl, .inl (.inl upd_same), rfl, _, _, rfl, _, _, rfl, rfl, ?_⟩
                refine ⟨rfl, yes_q (iteT ⟨_, rfl, _, rfl, _, _, rfl, rfl, _, by rw [upd_ne nD]; exact e.2, ?_, ?_, ?_⟩)⟩
                · rw [List.length_map]
                  refine Nat.lt_of_le_of_lt (List.length_take_le' _ _) ?_
                  rw [List.length_zip]
                  have : 100000 < sizeLine := by decide
                  omega
                · intro b' o' q
                  rw [upd_ne (ne_of_none q hD2), upd_ne (ne_of_none (e.1 _ _ q) hT)]
                  exact e.1 _ _ q
                · rw [upd_same]
                  have ez : (zs.zip zs.tail)[i]? = some (a, b) := by
                    rw [List.getElem?_zip_eq_some]
                    exact ⟨ha, hb⟩
                  rw [List.take_add_one, ez]
                  simp [ltS]
              · refine ⟨D2, (zs.zip zs.tail).map fun p => ltS p.1 p.2, rfl, .inl (.inl ?_), ?_⟩
                · rw [e.2, List.take_of_length_le (by simp)]
                  simp [Function.comp_def]
                · have e9 := hQ _ (e2.trans e.1)
                  rw [areSigns, hne', hs] at e9
                  have e8 : ((zs.zip zs.tail).map fun p => ltS p.1 p.2).all id = asc zs := by
                    rw [List.all_map]; rfl
                  rw [e8]
                  exact e9
def spReqSigns (K : PySem.W.Frag) : Sp := fun vs H Q _ => ∃ t zs, vs = [.ref t] ∧ TextsAt K H t zs ∧ areSigns zs = true ∧ ∀ H', Same H H' → Q .non H'
theorem sc_require_signs : FnScope ["value"] ["value"] (defScope (top 12)) := ⟨rfl, rfl, rfl, by decide +kernel, rfl, by decide +kernel, by decide +kernel⟩
theorem c_require_signs (A : At K mg "require_signs" (top 12)) (c_are_signs : Cal P w K mg base 2 "are_signs" (spAreSigns K)) : Cal P w K mg base 3 "require_signs" (spReqSigns K) := by
  refine cal_of A sc_require_signs (fun _ _ _ _ _ _ us hl => match us, hl with | [_], _ => rfl) (fun vs H Q E h => ?_) (fun f cdv A outer s H vs Q E hr h => ?_)
  · obtain ⟨t, zs, rfl, _⟩ := h; rfl
  · obtain ⟨t, zs, rfl, ht, hs, hQ⟩ := h
    refine ⟨_, (pss_one (ps_if (pt_not (pt_val (pe_c c_are_signs hr (by decide) (by rfl) (pa_cons (pv 0) pa_nil))))
      (pss_one ps_never)
      pss_nil)), ?_⟩
    refine ⟨_, rfl, t, zs, rfl, ht, fun H' e => ⟨_, rfl, ?_⟩⟩
    rw [hs]
    exact iteF (hQ _ e)
end
end MN
/-! dict comprehensions with one and with two clauses, keys of any kind that a tracked dict knows -/
namespace MN
open PySem PySem.Spec PyProof.Rows L2
theorem d_setP {X : Cx} {pins : List (Addr × Obj)} {σ : L2.St} {H H' : Hp} {s : Shared} {E : Value → Shared → Prop} {D : Addr} {y v : V} {u r : Value} {Q : Unit → Shared → Prop} (hu : X.A.units + 1 < cLine) (I : Inv X pins σ H s) (g : DPut H D y v H')
    (ry : RelV y u) (rv : RelV v r) (h : ∀ s', Inv X pins σ H' s' → Q () s') : wpAny (model X.prog X.w) X.A (dictSet D u r) Q E s := by
  rcases g with ⟨kvs, k, e, ey, l, eH⟩ | ⟨kvs, k, b, e, ey, eb, l, eH⟩
  · subst ey eH
    exact d_dictSet I e l ry rv h
  · subst ey eH
    cases (show u = Value.ref b from ry)
    obtain ⟨z, hd, xs, rel, dd⟩ := dt_of I.hok e
    have hz : xs.length ≤ sizeLine := by rw [← Paired.length rel]; exact z
    have hl : (putK kvs k v).length ≤ sizeLine := by have := length_putK kvs k v; omega
    refine wpAny_dictSet_heap (hsz := hz) (show X.A.units < cLine by omega) (key_of I.hok eb) dd fun h' dd' hs => h _ ?_
    obtain ⟨q, es, ep, hq, h2, h3, h4, _, h5⟩ := dd'
    refine d_write I (by rw [e]; exact True.intro) hs ⟨q, hq⟩ ⟨hl, hd, _, (rel.put k eb rv).keeps fun c ys ec => ?_, q, es, ep, hq, h2, h3, h4, h5⟩
    rw [upd_ne (ne_of ec e (fun z => nomatch z))]
    exact ec
theorem turn2_out (kx vx t0 i0 t1 i1 : Expr) (ifs0 ifs1 : List Expr) (scope : Scope) (pos : Pos) (it acc : Value) (env : Env) :
    compTurn (.DictComp kx vx [⟨t0, i0, ifs0, 0⟩, ⟨t1, i1, ifs1, 0⟩] scope pos) 0 it acc env = (do
      standAt i0.pos
      match ← pyNext it with
      | none => pure (.done .next)
      | some v =>
        letOwnedTupleGo t0 it v
        assign t0 env v
        let mut ok := true
        for c in ifs0 do
          if ok then ok ← isTrue c env (eval c env)
        if ok then
          let x ← eval i1 env
          standAt i1.pos
          let x ← foldedSetIterable i1 env x
          let _ ← runOwn (.compStart (.DictComp kx vx [⟨t0, i0, ifs0, 0⟩, ⟨t1, i1, ifs1, 0⟩] scope pos) 1 (← holding [x] (pyIter x)) acc env) env
        again (.compLoop (.DictComp kx vx [⟨t0, i0, ifs0, 0⟩, ⟨t1, i1, ifs1, 0⟩] scope pos) 0 it acc env)) := by rfl
theorem turn2_in (kx vx t0 i0 t1 i1 : Expr) (ifs0 ifs1 : List Expr) (scope : Scope) (pos : Pos) (it : Value) (D : Addr) (env : Env) :
    compTurn (.DictComp kx vx [⟨t0, i0, ifs0, 0⟩, ⟨t1, i1, ifs1, 0⟩] scope pos) 1 it (.ref D) env = (do
      standAt i1.pos
      match ← pyNext it with
      | none => pure (.done .next)
      | some v =>
        letOwnedTupleGo t1 it v
        assign t1 env v
        let mut ok := true
        for c in ifs1 do
          if ok then ok ← isTrue c env (eval c env)
        if ok then
          (do
            let kv ← eval kx env
            let vv ← holding [kv] (eval vx env)
            standAt { kx.pos with endLine := vx.pos.endLine, endCol := vx.pos.endCol }
            holding [kv, vv] (dictSet D kv vv))
        again (.compLoop (.DictComp kx vx [⟨t0, i0, ifs0, 0⟩, ⟨t1, i1, ifs1, 0⟩] scope pos) 1 it (.ref D) env)) := by rfl
section
variable {prog : Program} {w : World} {A : Around} {R : Result → Shared → Prop} {s : Shared} {kx vx t0 i0 t1 i1 : Expr} {ifs0 ifs1 : List Expr} {scope : Scope} {pos : Pos} {it acc : Value} {D : Addr} {env : Env}
theorem loop2_out (hs : ∀ x, foldedSetIterable i1 env x = pure x) (I : Nat → Shared → Prop)
    (turn : ∀ n s, I n s → wpAny (model prog w) A (pyNext it) (fun r s₁ => match r with
      | none => R (.ok .next) s₁
      | some v => wpAny (model prog w) A (letOwnedTupleGo t0 it v) (fun _ s₂ => wpAny (model prog w) A (assign t0 env v) (fun _ s₃ => wpAny (model prog w) A (forIn ifs0 true fun c r => if r = true then do let ok ← isTrue c env (eval c env); pure (ForInStep.yield ok) else pure (ForInStep.yield r)) (fun ok s₄ =>
          if ok = true then wpAny (model prog w) A (eval i1 env) (fun x s₅ => wpAny (model prog w) A (pyIter x) (fun j s₆ =>
            codeAny (model prog w) A (.compStart (.DictComp kx vx [⟨t0, i0, ifs0, 0⟩, ⟨t1, i1, ifs1, 0⟩] scope pos) 1 j acc env) (fun r s' => match r with
              | .ok _ => ∃ m, m < n ∧ I m s'
              | .error _ => False) s₆) (notedBy (model prog w) A env fun e s' => R (.error e) s') s₅) (notedBy (model prog w) A env fun e s' => R (.error e) s') s₄
          else ∃ m, m < n ∧ I m s₄) (notedBy (model prog w) A env fun e s' => R (.error e) s') s₃) (notedBy (model prog w) A env fun e s' => R (.error e) s') s₂) (notedBy (model prog w) A env fun e s' => R (.error e) s') s₁) (notedBy (model prog w) A env fun e s' => R (.error e) s') s)
    (n : Nat) (h : I n s) : codeAny (model prog w) A (.compLoop (.DictComp kx vx [⟨t0, i0, ifs0, 0⟩, ⟨t1, i1, ifs1, 0⟩] scope pos) 0 it acc env) R s := by
  refine codeAny_loop rfl I (fun n s hI => ?_) n h
  show wpAny _ A ((compTurn (.DictComp kx vx [⟨t0, i0, ifs0, 0⟩, ⟨t1, i1, ifs1, 0⟩] scope pos) 0 it acc env).onRaise (fun x => do noteFrame x env; theTreesLotGoes x)) _ _ s
  refine wpAny_noted ?_
  rw [turn2_out]
  refine wpAny_bind (wpAny_standAt (wpAny_bind (wpAny_mono (turn n s hI) (fun r s₁ h₁ => ?_) fun _ _ z => z)))
  match r, h₁ with
  | none, h₁ => exact wpAny_pure h₁
  | some v, h₁ =>
    refine wpAny_bind (wpAny_mono h₁ (fun _ s₂ h₂ => wpAny_bind (wpAny_mono h₂ (fun _ s₃ h₃ => wpAny_bind (wpAny_mono h₃ (fun ok s₄ h₄ => ?_) fun _ _ z => z)) fun _ _ z => z)) fun _ _ z => z)
    cases ok with
    | false => exact wpAny_pure ⟨rfl, h₄⟩
    | true =>
      refine wpAny_bind (wpAny_mono h₄ (fun x s₅ h₅ => ?_) fun _ _ z => z)
      refine wpAny_bind (wpAny_standAt (wpAny_bind (wpAny_of_eq (hs x) (wpAny_bind (wpAny_holding (wpAny_mono h₅ (fun j s₆ h₆ => ?_) fun _ _ z => z))))))
      refine wpAny_bind (wpAny_runOwn ?_)
      rw [Around.mark_none]
      refine codeAny_mono h₆ fun r s' hr => ?_
      match r, hr with
      | .ok f, hr =>
        first
          | exact wpAny_pure ⟨rfl, hr⟩
          | exact wpAny_bind (wpAny_pure (wpAny_pure ⟨rfl, hr⟩))
      | .error e, hr => exact hr.elim
theorem loop2_in (I : Nat → Shared → Prop)
    (turn : ∀ n s, I n s → wpAny (model prog w) A (pyNext it) (fun r s₁ => match r with
      | none => R (.ok .next) s₁
      | some v => wpAny (model prog w) A (letOwnedTupleGo t1 it v) (fun _ s₂ => wpAny (model prog w) A (assign t1 env v) (fun _ s₃ => wpAny (model prog w) A (forIn ifs1 true fun c r => if r = true then do let ok ← isTrue c env (eval c env); pure (ForInStep.yield ok) else pure (ForInStep.yield r)) (fun ok s₄ =>
          if ok = true then wpAny (model prog w) A (eval kx env) (fun kv s₅ => wpAny (model prog w) A (eval vx env) (fun vv s₆ => wpAny (model prog w) A (dictSet D kv vv) (fun _ s₇ => ∃ m, m < n ∧ I m s₇) (notedBy (model prog w) A env fun e s' => R (.error e) s') s₆) (notedBy (model prog w) A env fun e s' => R (.error e) s') s₅) (notedBy (model prog w) A env fun e s' => R (.error e) s') s₄
          else ∃ m, m < n ∧ I m s₄) (notedBy (model prog w) A env fun e s' => R (.error e) s') s₃) (notedBy (model prog w) A env fun e s' => R (.error e) s') s₂) (notedBy (model prog w) A env fun e s' => R (.error e) s') s₁) (notedBy (model prog w) A env fun e s' => R (.error e) s') s)
    (n : Nat) (h : I n s) : codeAny (model prog w) A (.compLoop (.DictComp kx vx [⟨t0, i0, ifs0, 0⟩, ⟨t1, i1, ifs1, 0⟩] scope pos) 1 it (.ref D) env) R s := by
  refine codeAny_loop rfl I (fun n s hI => ?_) n h
  show wpAny _ A ((compTurn (.DictComp kx vx [⟨t0, i0, ifs0, 0⟩, ⟨t1, i1, ifs1, 0⟩] scope pos) 1 it (.ref D) env).onRaise (fun x => do noteFrame x env; theTreesLotGoes x)) _ _ s
  refine wpAny_noted ?_
  rw [turn2_in]
  refine wpAny_bind (wpAny_standAt (wpAny_bind (wpAny_mono (turn n s hI) (fun r s₁ h₁ => ?_) fun _ _ z => z)))
  match r, h₁ with
  | none, h₁ => exact wpAny_pure h₁
  | some v, h₁ =>
    refine wpAny_bind (wpAny_mono h₁ (fun _ s₂ h₂ => wpAny_bind (wpAny_mono h₂ (fun _ s₃ h₃ => wpAny_bind (wpAny_mono h₃ (fun ok s₄ h₄ => ?_) fun _ _ z => z)) fun _ _ z => z)) fun _ _ z => z)
    cases ok with
    | false => exact wpAny_pure ⟨rfl, h₄⟩
    | true =>
      exact wpAny_bind (wpAny_bind (wpAny_mono h₄ (fun kv s₅ h₅ => wpAny_bind (wpAny_holding (wpAny_mono h₅ (fun vv s₆ h₆ => wpAny_bind (wpAny_standAt (wpAny_holding (wpAny_mono h₆ (fun _ s₇ h₇ => wpAny_pure ⟨rfl, h₇⟩) fun _ _ z => z)))) fun _ _ z => z))) fun _ _ z => z))
theorem start2 (h0 : codeAny (model prog w) A (.compLoop (.DictComp kx vx [⟨t0, i0, ifs0, 0⟩, ⟨t1, i1, ifs1, 0⟩] scope pos) 1 it acc env) R s)
    (h : wpAny (model prog w) A (pyIter it) (fun j s' => codeAny (model prog w) A (.compLoop (.DictComp kx vx [⟨t0, i0, ifs0, 0⟩, ⟨t1, i1, ifs1, 0⟩] scope pos) 1 j acc env) R s') (notedBy (model prog w) A env fun x s' => R (.error x) s') s) :
    codeAny (model prog w) A (.compStart (.DictComp kx vx [⟨t0, i0, ifs0, 0⟩, ⟨t1, i1, ifs1, 0⟩] scope pos) 1 it acc env) R s := by
  refine codeAny_of_tree ?_
  show wpAny _ _ ((compStart (.DictComp kx vx [⟨t0, i0, ifs0, 0⟩, ⟨t1, i1, ifs1, 0⟩] scope pos) 1 it acc env).onRaise (fun x => do noteFrame x env; standAt theWindowsPlace)) _ _ s
  refine wpAny_notedAt ?_
  unfold compStart
  show wpAny _ _ (ask >>= _) _ _ s
  refine wpAny_bind (wpAny_askSetting (wpAny_ite ?_))
  split
  · first
      | exact wpAny_bind (wpAny_pure (wpAny_pure (And.intro rfl h0)))
      | exact wpAny_pure (And.intro rfl h0)
  · first
      | exact wpAny_bind (wpAny_rule (wpAny_bind (wpAny_standAt (wpAny_bind (wpAny_mono h (fun j s' z => wpAny_pure (And.intro rfl z)) fun _ _ z => z)))))
      | (refine wpAny_bind (wpAny_rule ?_); show wpAny _ _ (standAt i1.pos >>= _) _ _ s; exact wpAny_bind (wpAny_standAt (wpAny_bind (wpAny_mono h (fun j s' z => wpAny_pure (And.intro rfl z)) fun _ _ z => z))))
end
section
variable {X : Cx}
def tDp1 (o0 : HO) (wi : TI) (g : TG) (tt : TT) (tk tv : TE) (vs : List Nat) : TE := fun σ H Q => wi σ H fun J H1 => ∀ D, H1 D = none → ∃ W : Nat → Nat → Hp → Prop, (∃ m, W 0 m (upd H1 D o0)) ∧ ∀ i m H, W i m H →
  (J.stop i H ∧ Q (.ref D) H) ∨ (J.go i H ∧ ∃ Nx : Hp → Prop, (∀ H', Nx H' → ∃ m', m' < m ∧ W (i + 1) m' H') ∧ ∀ x H', J.yld i H x H' → g x (wipe σ vs) H' fun σ2 H2 => wipe σ2 vs = wipe σ vs ∧ tt σ2 H2 fun b H3 =>
    if b = true then tk σ2 H3 fun y H4 => tv σ2 H4 fun z H5 => ∃ H6, DPut H5 D y z H6 ∧ Nx H6 else Nx H3)
theorem dp1_core {pins : List (Addr × Obj)} {s : Shared} {σ : L2.St} {H : Hp} {Q : VK} {use : Option (Value → Sem Unit)} {Qf : Value → Shared → Prop} {pos' : Pos} {kx vx tg iter : Expr} {ifs : List Expr} {scope : Scope} {own : List (Str × Nat)} {pos : Pos} {o0 : HO} {wi : TI} {g : TG} {tt : TT} {tk tv : TE} (hc : X.calm = true) (hu : X.A.units + 1 < cLine) (hN : X.N.Nodup) (I : Inv X pins σ H s) (hi : PI X tg iter wi) (ok : BlkOk X.N X.env.scope scope own)
    (hg : ∀ (s : Shared) (H : Hp) (C : Addr) (cl : List (Str × Addr)) (fp : List Addr), PG (X.blk s H scope (compEnvC scope cl C X.env) fp) tg g) (ht : ∀ (s : Shared) (H : Hp) (C : Addr) (cl : List (Str × Addr)) (fp : List Addr), PTs (X.blk s H scope (compEnvC scope cl C X.env) fp) ifs tt)
    (hk : ∀ (s : Shared) (H : Hp) (C : Addr) (cl : List (Str × Addr)) (fp : List Addr), PE (X.blk s H scope (compEnvC scope cl C X.env) fp) kx tk) (he : ∀ (s : Shared) (H : Hp) (C : Addr) (cl : List (Str × Addr)) (fp : List Addr), PE (X.blk s H scope (compEnvC scope cl C X.env) fp) vx tv)
    (ho : o0 = .dK [] ∨ o0 = .dT []) (hs : ∀ x, foldedSetIterable iter X.env x = pure x)
    (h : tDp1 o0 wi g tt tk tv (own.map (·.2)) σ H Q)
    (hRR : ∀ D C s' m H', Inv X pins σ H' s' → Q (.ref D) H' → s'.heap.Ns C m → FpOk X pins H' C → compPost (model X.prog X.w) X.A X.xe use Qf (.ref D) C (.ok .next) s') :
    wpAny (model X.prog X.w) X.A (comprehension (.DictComp kx vx [⟨tg, iter, ifs, 0⟩] scope pos) scope X.env pos' newDict false (eval iter X.env) use) Qf X.xe s := by
  have hfree : ∀ y ∈ scope.names, y.2 = .free → ∃ c, X.env.cells.lookup y.1 = some c := fun y hy e => I.ok.has _ (ok.free y hy e)
  refine wpAny_comprehension_free (use := use) rfl hs (closure_ok hfree) ok.kind (fun y hy e => by rw [ok.uniq y hy, e]) (thn (hi.run pins s σ H _ I h) fun xv s1 hx => thn hx fun itv s2 h2 => ?_)
  obtain ⟨it, fp, tn, J, H2, e, I2, T, st2, f2, q⟩ := h2
  subst e
  refine wpAny_newObj_type (newEnv_comp ?_)
  generalize hD : s2.heap.objs.size = D
  obtain ⟨W, ⟨m0, w0⟩, turn⟩ := q D (I2.hok.fresh (Nat.le_of_eq hD))
  generalize hs3 : ({ s2 with heap := s2.heap.push { cls := .type "dict", data := .dict #[] } } : Shared) = s3
  have h3 : s3.heap = s2.heap.push { cls := .type "dict", data := .dict #[] } := by rw [← hs3]
  have I3 : Inv X pins σ (upd H2 D o0) s3 := by
    rw [← hs3]
    refine I2.laid (t' := s2.toks) (fun b o e => Heap.get?_push_of_some _ e) (Nat.le_of_eq hD) ?_
    rw [← hD]
    rcases ho with z | z
    · rw [z]; exact dk_empty s2.heap I2.big
    · rw [z]; exact dt_empty s2.heap I2.big
  have f3 : ∀ b ∈ fp, FpOk X pins (upd H2 D o0) b ∧ b < s3.heap.objs.size := fun b hb => by
    obtain ⟨o, e, _⟩ := T.obj _ _ st2 b hb
    have hlt := Heap.lt_size e
    refine ⟨⟨?_, (f2 b hb).2⟩, by rw [h3, Heap.size_push]; exact Nat.lt_succ_of_lt hlt⟩
    rw [upd_ne (by rw [← hD]; exact Nat.ne_of_lt hlt)]
    exact (f2 b hb).1
  have st3 : tn 0 s3.heap := T.keep _ _ _ st2 fun b _ o e => by rw [h3]; exact Heap.get?_push_of_some _ e
  generalize hH3 : upd H2 D o0 = H3 at I3 f3 w0
  have I4 := block_start I3 ok hN f3
  have pg := hg s3 H3 s3.heap.objs.size (cellsFrom (s3.heap.objs.size + 1) scope.names (cloFrom X.env.cells scope.names [])) fp
  have pt := ht s3 H3 s3.heap.objs.size (cellsFrom (s3.heap.objs.size + 1) scope.names (cloFrom X.env.cells scope.names [])) fp
  have pk := hk s3 H3 s3.heap.objs.size (cellsFrom (s3.heap.objs.size + 1) scope.names (cloFrom X.env.cells scope.names [])) fp
  have pe := he s3 H3 s3.heap.objs.size (cellsFrom (s3.heap.objs.size + 1) scope.names (cloFrom X.env.cells scope.names [])) fp
  have nfp : ∀ b ∈ fp, H3 b = none := fun b hb => (f3 b hb).1.1
  show codeAny _ _ (.compStart (.DictComp kx vx [⟨tg, iter, ifs, 0⟩] scope pos) 0 (.ref it) (.ref D) (compEnvC scope (cellsFrom (s3.heap.objs.size + 1) scope.names (cloFrom X.env.cells scope.names [])) s3.heap.objs.size X.env)) _ { s3 with heap := pushCells (s3.heap.push { cls := .type "dict", data := .dict #[] }) scope.names }
  generalize hce : compEnvC scope (cellsFrom (s3.heap.objs.size + 1) scope.names (cloFrom X.env.cells scope.names [])) s3.heap.objs.size X.env = ce at I4 pg pt pk pe ⊢
  have cL : ce.locals = s3.heap.objs.size := by subst hce; rfl
  generalize hs4 : ({ s3 with heap := pushCells (s3.heap.push { cls := .type "dict", data := .dict #[] }) scope.names } : Shared) = s4 at I4 ⊢
  have st4 : tn 0 s4.heap := T.keep _ _ _ st3 fun b _ o e => by rw [← hs4]; exact pushCells_keeps _ _ _ _ (Heap.get?_push_of_some _ e)
  have stat : ∀ {σ' : L2.St} {H' : Hp} {s' : Shared}, Inv (X.blk s3 H3 scope ce fp) [] σ' H' s' → (∀ b ∈ fp, H' b = none) → ∀ b ∈ fp, FpOk (X.blk s3 H3 scope ce fp) [] H' b := fun {σ' H' s'} I' hn b hb =>
    ⟨hn b hb, (I'.ok.exf b hb).1, I'.ok.exfs b hb, .inl hb, fun x c e => (I'.ok.exf b hb).2 x c e, fun p hp => nomatch (show p ∈ ([] : List (Addr × Obj)) from hp)⟩
  have loop : codeAny (model X.prog X.w) X.A (.compLoop (.DictComp kx vx [⟨tg, iter, ifs, 0⟩] scope pos) 0 (.ref it) (.ref D) ce) (compPost (model X.prog X.w) X.A X.xe use Qf (.ref D) s3.heap.objs.size) s4 := by
    refine compLoop_anyD (fun n s' => ∃ i H', Inv (X.blk s3 H3 scope ce fp) [] (wipe σ (own.map (·.2))) H' s' ∧ tn i s'.heap ∧ (∀ b ∈ fp, H' b = none) ∧ W i n H') ?_ m0 ⟨0, H3, I4, st4, nfp, w0⟩
    rintro n s5 ⟨i, H5, I5, st5, n5, w5⟩
    rcases turn i n H5 w5 with ⟨stop, qq⟩ | ⟨go, Nx, hNx, step⟩
    · refine thnF (T.done (X.blk s3 H3 scope ce fp) rfl rfl rfl hc i [] s5 _ H5 (fun _ _ => False) I5 (stat I5 n5) st5 stop) fun r s6 ⟨hr, I6⟩ => ?_
      subst hr
      have I7 : Inv X pins σ H5 s6 := I3.call' (ch := fp) I6.os I6.base I6.hok I6.bare fun b hb => ⟨(f3 b hb).1.2.2.2.1, (f3 b hb).1.2.1, (f3 b hb).1.2.2.2.2.1, (f3 b hb).1.2.2.2.2.2⟩
      have nC : H5 s3.heap.objs.size = none := by
        have z : H5 ce.locals = none := I6.free
        rw [cL] at z
        exact z
      obtain ⟨m, hn, _⟩ := I6.loc
      have hn : s6.heap.Ns ce.locals m := hn
      rw [cL] at hn
      exact hRR D s3.heap.objs.size s6 m H5 I7 qq hn (I3.fpOk (Nat.le_refl _) nC)
    · refine thnF (T.item (X.blk s3 H3 scope ce fp) rfl rfl rfl hc i [] s5 _ H5 (fun _ _ => False) I5 (stat I5 n5) st5 go) fun r s6 ⟨u, hr, h6⟩ => ?_
      subst hr
      refine thnF h6 fun _ s7 ⟨x, H7, I7, r7, y7, st7, n7⟩ => ?_
      have I7' := I7.pinned (stat I7 n7) (T.obj _ _ st7)
      refine thnF (pg.run _ s7 _ H7 x u _ I7' r7 (step x H7 y7)) fun _ s8 ⟨σ8, H8, I8, hw8, q8⟩ => ?_
      refine thnF (pt.run _ s8 σ8 H8 _ I8 q8) fun b s9 ⟨H9, I9, q9⟩ => ?_
      have fin : ∀ {σ9 : L2.St} {s' : Shared} {H' : Hp}, Inv (X.blk s3 H3 scope ce fp) ([] ++ pinsAt fp s7.heap) σ9 H' s' → (wipe σ (own.map (·.2))).length = σ9.length → (∀ (j : Nat) v, (wipe σ (own.map (·.2)))[j]? = some (some v) → σ9[j]? = some (some v)) → Nx H' →
          ∃ m, m < n ∧ ∃ i H', Inv (X.blk s3 H3 scope ce fp) [] (wipe σ (own.map (·.2))) H' s' ∧ tn i s'.heap ∧ (∀ b ∈ fp, H' b = none) ∧ W i m H' := fun {σ9 s' H'} I' hl hk nx => by
        obtain ⟨m', hm, w'⟩ := hNx H' nx
        have pin' : ∀ b ∈ fp, ∀ o, s7.heap.get? b = some o → s'.heap.get? b = some o ∧ H' b = none := fun b hb o e => by
          have z := I'.pin (b, o) (List.mem_append_right _ (List.mem_append_right _ (mem_pinsAt hb e)))
          exact ⟨z.1, z.2.1⟩
        refine ⟨m', hm, i + 1, H', (I'.unpinned (pins := [])).weak hl hk, T.keep _ _ _ st7 fun b hb o e => (pin' b hb o e).1, fun b hb => ?_, w'⟩
        obtain ⟨o, e, _⟩ := T.obj _ _ st7 b hb
        exact (pin' b hb o e).2
      have hl8 : (wipe σ (own.map (·.2))).length = σ8.length := by rw [← hw8, wipe_length]
      have hk8 : ∀ (j : Nat) v, (wipe σ (own.map (·.2)))[j]? = some (some v) → σ8[j]? = some (some v) := fun j v e => by
        rw [← hw8] at e
        exact (wipe_some e).1
      cases b with
      | false =>
        simp only [Bool.false_eq_true, if_false] at q9 ⊢
        exact fin I9 hl8 hk8 q9
      | true =>
        simp only [if_true] at q9 ⊢
        refine thnF (pk.run _ s9 σ8 H9 _ I9 q9) fun z s10 ⟨yk, H10, I10, r10, q10⟩ => ?_
        refine thnF (pe.run _ s10 σ8 H10 _ I10 q10) fun z2 s11 ⟨yv, H11, I11, r11, H12, put, nx⟩ => ?_
        exact d_setP (X := X.blk s3 H3 scope ce fp) hu I11 put r10 r11 fun s12 I12 => fin I12 hl8 hk8 nx
  exact codeAny_compStart_dict loop (T.self X.A 0 _ _ _ st4 loop)
theorem pe_dp1 {kx vx tg iter : Expr} {ifs : List Expr} {scope : Scope} {own : List (Str × Nat)} {pos : Pos} {o0 : HO} {wi : TI} {g : TG} {tt : TT} {tk tv : TE} (hc : X.calm = true) (hu : X.A.units + 1 < cLine) (hN : X.N.Nodup) (hi : PI X tg iter wi) (ok : BlkOk X.N X.env.scope scope own)
    (hg : ∀ (s : Shared) (H : Hp) (C : Addr) (cl : List (Str × Addr)) (fp : List Addr), PG (X.blk s H scope (compEnvC scope cl C X.env) fp) tg g) (ht : ∀ (s : Shared) (H : Hp) (C : Addr) (cl : List (Str × Addr)) (fp : List Addr), PTs (X.blk s H scope (compEnvC scope cl C X.env) fp) ifs tt)
    (hk : ∀ (s : Shared) (H : Hp) (C : Addr) (cl : List (Str × Addr)) (fp : List Addr), PE (X.blk s H scope (compEnvC scope cl C X.env) fp) kx tk) (he : ∀ (s : Shared) (H : Hp) (C : Addr) (cl : List (Str × Addr)) (fp : List Addr), PE (X.blk s H scope (compEnvC scope cl C X.env) fp) vx tv)
    (ho : o0 = .dK [] ∨ o0 = .dT []) (hs : ∀ x, foldedSetIterable iter X.env x = pure x := by intro _; rfl) :
    PE X (.DictComp kx vx [⟨tg, iter, ifs, 0⟩] scope pos) (tDp1 o0 wi g tt tk tv (own.map (·.2))) := by
  refine ⟨fun pins s σ H Q I h => ?_⟩
  rw [arm_eval_DictComp]
  refine dp1_core hc hu hN I hi ok hg ht hk he ho hs h fun D C s' m H' I' q hn f => ⟨m, hn, fun h'' sb => ?_⟩
  obtain ⟨f0, f1, f2, f3, f4, f5⟩ := f
  exact ⟨.ref D, H', I'.turned (t' := s'.toks) (fun b o hb e => (sb.2 b hb).trans e) f0 f1 f3 f4 f5, rfl, q⟩
theorem ps_setDp1 {i : Nat} {y : Str} {py spos : Pos} {kx vx tg iter : Expr} {ifs : List Expr} {scope : Scope} {own : List (Str × Nat)} {pos : Pos} {o0 : HO} {wi : TI} {g : TG} {tt : TT} {tk tv : TE} (hc : X.calm = true) (hu : X.A.units + 1 < cLine) (hN : X.N.Nodup) (hy : X.N[i]? = some y) (hyl : X.env.scope.names.lookup y = some .local)
    (hsw : swapsWith (.DictComp kx vx [⟨tg, iter, ifs, 0⟩] scope pos) (some (.Name y py)) spos.line X.env = pure true) (hi : PI X tg iter wi) (ok : BlkOk X.N X.env.scope scope own)
    (hg : ∀ (s : Shared) (H : Hp) (C : Addr) (cl : List (Str × Addr)) (fp : List Addr), PG (X.blk s H scope (compEnvC scope cl C X.env) fp) tg g) (ht : ∀ (s : Shared) (H : Hp) (C : Addr) (cl : List (Str × Addr)) (fp : List Addr), PTs (X.blk s H scope (compEnvC scope cl C X.env) fp) ifs tt)
    (hk : ∀ (s : Shared) (H : Hp) (C : Addr) (cl : List (Str × Addr)) (fp : List Addr), PE (X.blk s H scope (compEnvC scope cl C X.env) fp) kx tk) (he : ∀ (s : Shared) (H : Hp) (C : Addr) (cl : List (Str × Addr)) (fp : List Addr), PE (X.blk s H scope (compEnvC scope cl C X.env) fp) vx tv)
    (ho : o0 = .dK [] ∨ o0 = .dT []) (hs : ∀ x, foldedSetIterable iter X.env x = pure x := by intro _; rfl) :
    PS X (.Assign [.Name y py] (.DictComp kx vx [⟨tg, iter, ifs, 0⟩] scope pos) spos) (tAsg (tDp1 o0 wi g tt tk tv (own.map (·.2))) (gName i)) := by
  refine ⟨fun pins s σ H D I h => ?_⟩
  rw [exec_Assign_Name_used _ _ _ _ hsw]
  refine wpAny_bind (wpAny_standAt (wpAny_bind ?_))
  show wpAny _ X.A (do let _ ← comprehension (.DictComp kx vx [⟨tg, iter, ifs, 0⟩] scope pos) scope X.env (firstIterPos [⟨tg, iter, ifs, 0⟩] pos) newDict false (eval iter X.env) (some (assign (.Name y py) X.env))) _ _ s
  have h : tDp1 o0 wi g tt tk tv (own.map (·.2)) σ H (fun x H1 => gName i x σ H1 D.nx) := h
  refine wpAny_bind (thn (dp1_core (Qf := fun _ s' => SP X pins D .next s') hc hu hN I hi ok hg ht hk he ho hs h fun L C s' m H' I' q hn f => ?_) fun _ s' hq => wpAny_pure (wpAny_pure hq))
  show wpAny _ _ (assign (.Name y py) X.env (.ref L)) _ _ _
  refine wpAny_assign_Name (store_ok2 (v := V.ref L) I' hN hy (.inl hyl) rfl (fun s2 I2 ⟨a, sb, ha⟩ => ?_) (.inr hyl))
  obtain ⟨f0, f1, f2, f3, f4, f5⟩ := f
  have haC : C ≠ a := by
    rcases ha with z | z
    · rw [z]; exact f1
    · exact fun e => f4 y a z e.symm
  refine ⟨m, hn.sameBut sb haC, fun h3 sb3 => ?_⟩
  exact ⟨_, H', I2.turned (t' := s2.toks) (fun b o hb e => (sb3.2 b hb).trans e) f0 f1 f3 f4 f5, q⟩
def tDp2 (o0 : HO) (wi : TI) (g : TG) (tt : TT) (wi1 : TI) (g1 : TG) (tt1 : TT) (tk tv : TE) (vs vs1 : List Nat) : TE := fun σ H Q => wi σ H fun J H1 => ∀ D, H1 D = none → ∃ W : Nat → Nat → Hp → Prop, (∃ m, W 0 m (upd H1 D o0)) ∧ ∀ i m H, W i m H →
  (J.stop i H ∧ Q (.ref D) H) ∨ (J.go i H ∧ ∃ Nx : Hp → Prop, (∀ H', Nx H' → ∃ m', m' < m ∧ W (i + 1) m' H') ∧ ∀ x H', J.yld i H x H' → g x (wipe σ vs) H' fun σ2 H2 => wipe σ2 vs = wipe σ vs ∧ tt σ2 H2 fun b H3 =>
    if b = true then wi1 σ2 H3 fun J1 H4 => ∃ W1 : Nat → Nat → Hp → Prop, (∃ m, W1 0 m H4) ∧ ∀ j k H, W1 j k H →
      (J1.stop j H ∧ Nx H) ∨ (J1.go j H ∧ ∃ Nx1 : Hp → Prop, (∀ H', Nx1 H' → ∃ k', k' < k ∧ W1 (j + 1) k' H') ∧ ∀ x H', J1.yld j H x H' → g1 x (wipe σ2 vs1) H' fun σ3 H5 => wipe σ3 vs1 = wipe σ2 vs1 ∧ tt1 σ3 H5 fun b H6 =>
        if b = true then tk σ3 H6 fun y H7 => tv σ3 H7 fun z H8 => ∃ H9, DPut H8 D y z H9 ∧ Nx1 H9 else Nx1 H6)
    else Nx H3)
theorem dp2_core {pins : List (Addr × Obj)} {s : Shared} {σ : L2.St} {H : Hp} {Q : VK} {use : Option (Value → Sem Unit)} {Qf : Value → Shared → Prop} {pos' : Pos} {kx vx tg iter tg1 iter1 : Expr} {ifs ifs1 : List Expr} {scope : Scope} {own : List (Str × Nat)} {vs1 : List Nat} {pos : Pos} {o0 : HO} {wi wi1 : TI} {g g1 : TG} {tt tt1 : TT} {tk tv : TE} (hc : X.calm = true) (hu : X.A.units + 1 < cLine) (hN : X.N.Nodup) (I : Inv X pins σ H s) (hi : PI X tg iter wi) (ok : BlkOk X.N X.env.scope scope own) (hv : ∀ i ∈ vs1, i ∈ own.map (·.2))
    (hg : ∀ (s : Shared) (H : Hp) (C : Addr) (cl : List (Str × Addr)) (fp : List Addr), PG (X.blk s H scope (compEnvC scope cl C X.env) fp) tg g) (ht : ∀ (s : Shared) (H : Hp) (C : Addr) (cl : List (Str × Addr)) (fp : List Addr), PTs (X.blk s H scope (compEnvC scope cl C X.env) fp) ifs tt)
    (hi1 : ∀ (s : Shared) (H : Hp) (C : Addr) (cl : List (Str × Addr)) (fp : List Addr), PI (X.blk s H scope (compEnvC scope cl C X.env) fp) tg1 iter1 wi1) (hg1 : ∀ (s : Shared) (H : Hp) (C : Addr) (cl : List (Str × Addr)) (fp : List Addr), PG (X.blk s H scope (compEnvC scope cl C X.env) fp) tg1 g1) (ht1 : ∀ (s : Shared) (H : Hp) (C : Addr) (cl : List (Str × Addr)) (fp : List Addr), PTs (X.blk s H scope (compEnvC scope cl C X.env) fp) ifs1 tt1)
    (hk : ∀ (s : Shared) (H : Hp) (C : Addr) (cl : List (Str × Addr)) (fp : List Addr), PE (X.blk s H scope (compEnvC scope cl C X.env) fp) kx tk) (he : ∀ (s : Shared) (H : Hp) (C : Addr) (cl : List (Str × Addr)) (fp : List Addr), PE (X.blk s H scope (compEnvC scope cl C X.env) fp) vx tv)
    (ho : o0 = .dK [] ∨ o0 = .dT []) (hs : ∀ x, foldedSetIterable iter X.env x = pure x) (hs1 : ∀ env x, foldedSetIterable iter1 env x = pure x)
    (h : tDp2 o0 wi g tt wi1 g1 tt1 tk tv (own.map (·.2)) vs1 σ H Q)
    (hRR : ∀ D C s' m H', Inv X pins σ H' s' → Q (.ref D) H' → s'.heap.Ns C m → FpOk X pins H' C → compPost (model X.prog X.w) X.A X.xe use Qf (.ref D) C (.ok .next) s') :
    wpAny (model X.prog X.w) X.A (comprehension (.DictComp kx vx [⟨tg, iter, ifs, 0⟩, ⟨tg1, iter1, ifs1, 0⟩] scope pos) scope X.env pos' newDict false (eval iter X.env) use) Qf X.xe s := by
  have hfree : ∀ y ∈ scope.names, y.2 = .free → ∃ c, X.env.cells.lookup y.1 = some c := fun y hy e => I.ok.has _ (ok.free y hy e)
  refine wpAny_comprehension_free (use := use) rfl hs (closure_ok hfree) ok.kind (fun y hy e => by rw [ok.uniq y hy, e]) (thn (hi.run pins s σ H _ I h) fun xv s1 hx => thn hx fun itv s2 h2 => ?_)
  obtain ⟨it, fp, tn, J, H2, e, I2, T, st2, f2, q⟩ := h2
  subst e
  refine wpAny_newObj_type (newEnv_comp ?_)
  generalize hD : s2.heap.objs.size = D
  obtain ⟨W, ⟨m0, w0⟩, turn⟩ := q D (I2.hok.fresh (Nat.le_of_eq hD))
  generalize hs3 : ({ s2 with heap := s2.heap.push { cls := .type "dict", data := .dict #[] } } : Shared) = s3
  have h3 : s3.heap = s2.heap.push { cls := .type "dict", data := .dict #[] } := by rw [← hs3]
  have I3 : Inv X pins σ (upd H2 D o0) s3 := by
    rw [← hs3]
    refine I2.laid (t' := s2.toks) (fun b o e => Heap.get?_push_of_some _ e) (Nat.le_of_eq hD) ?_
    rw [← hD]
    rcases ho with z | z
    · rw [z]; exact dk_empty s2.heap I2.big
    · rw [z]; exact dt_empty s2.heap I2.big
  have f3 : ∀ b ∈ fp, FpOk X pins (upd H2 D o0) b ∧ b < s3.heap.objs.size := fun b hb => by
    obtain ⟨o, e, _⟩ := T.obj _ _ st2 b hb
    have hlt := Heap.lt_size e
    refine ⟨⟨?_, (f2 b hb).2⟩, by rw [h3, Heap.size_push]; exact Nat.lt_succ_of_lt hlt⟩
    rw [upd_ne (by rw [← hD]; exact Nat.ne_of_lt hlt)]
    exact (f2 b hb).1
  have st3 : tn 0 s3.heap := T.keep _ _ _ st2 fun b _ o e => by rw [h3]; exact Heap.get?_push_of_some _ e
  generalize hH3 : upd H2 D o0 = H3 at I3 f3 w0
  have I4 := block_start I3 ok hN f3
  have pg := hg s3 H3 s3.heap.objs.size (cellsFrom (s3.heap.objs.size + 1) scope.names (cloFrom X.env.cells scope.names [])) fp
  have pt := ht s3 H3 s3.heap.objs.size (cellsFrom (s3.heap.objs.size + 1) scope.names (cloFrom X.env.cells scope.names [])) fp
  have pi1 := hi1 s3 H3 s3.heap.objs.size (cellsFrom (s3.heap.objs.size + 1) scope.names (cloFrom X.env.cells scope.names [])) fp
  have pg1 := hg1 s3 H3 s3.heap.objs.size (cellsFrom (s3.heap.objs.size + 1) scope.names (cloFrom X.env.cells scope.names [])) fp
  have pt1 := ht1 s3 H3 s3.heap.objs.size (cellsFrom (s3.heap.objs.size + 1) scope.names (cloFrom X.env.cells scope.names [])) fp
  have pk := hk s3 H3 s3.heap.objs.size (cellsFrom (s3.heap.objs.size + 1) scope.names (cloFrom X.env.cells scope.names [])) fp
  have pe := he s3 H3 s3.heap.objs.size (cellsFrom (s3.heap.objs.size + 1) scope.names (cloFrom X.env.cells scope.names [])) fp
  have nfp : ∀ b ∈ fp, H3 b = none := fun b hb => (f3 b hb).1.1
  show codeAny _ _ (.compStart (.DictComp kx vx [⟨tg, iter, ifs, 0⟩, ⟨tg1, iter1, ifs1, 0⟩] scope pos) 0 (.ref it) (.ref D) (compEnvC scope (cellsFrom (s3.heap.objs.size + 1) scope.names (cloFrom X.env.cells scope.names [])) s3.heap.objs.size X.env)) _ { s3 with heap := pushCells (s3.heap.push { cls := .type "dict", data := .dict #[] }) scope.names }
  generalize hce : compEnvC scope (cellsFrom (s3.heap.objs.size + 1) scope.names (cloFrom X.env.cells scope.names [])) s3.heap.objs.size X.env = ce at I4 pg pt pi1 pg1 pt1 pk pe ⊢
  have cL : ce.locals = s3.heap.objs.size := by subst hce; rfl
  generalize hs4 : ({ s3 with heap := pushCells (s3.heap.push { cls := .type "dict", data := .dict #[] }) scope.names } : Shared) = s4 at I4 ⊢
  have st4 : tn 0 s4.heap := T.keep _ _ _ st3 fun b _ o e => by rw [← hs4]; exact pushCells_keeps _ _ _ _ (Heap.get?_push_of_some _ e)
  have stat : ∀ {σ' : L2.St} {H' : Hp} {s' : Shared}, Inv (X.blk s3 H3 scope ce fp) [] σ' H' s' → (∀ b ∈ fp, H' b = none) → ∀ b ∈ fp, FpOk (X.blk s3 H3 scope ce fp) [] H' b := fun {σ' H' s'} I' hn b hb =>
    ⟨hn b hb, (I'.ok.exf b hb).1, I'.ok.exfs b hb, .inl hb, fun x c e => (I'.ok.exf b hb).2 x c e, fun p hp => nomatch (show p ∈ ([] : List (Addr × Obj)) from hp)⟩
  have loop : codeAny (model X.prog X.w) X.A (.compLoop (.DictComp kx vx [⟨tg, iter, ifs, 0⟩, ⟨tg1, iter1, ifs1, 0⟩] scope pos) 0 (.ref it) (.ref D) ce) (compPost (model X.prog X.w) X.A X.xe use Qf (.ref D) s3.heap.objs.size) s4 := by
    refine loop2_out (hs1 ce) (fun n s' => ∃ i H', Inv (X.blk s3 H3 scope ce fp) [] (wipe σ (own.map (·.2))) H' s' ∧ tn i s'.heap ∧ (∀ b ∈ fp, H' b = none) ∧ W i n H') ?_ m0 ⟨0, H3, I4, st4, nfp, w0⟩
    rintro n s5 ⟨i, H5, I5, st5, n5, w5⟩
    rcases turn i n H5 w5 with ⟨stop, qq⟩ | ⟨go, Nx, hNx, step⟩
    · refine thnF (T.done (X.blk s3 H3 scope ce fp) rfl rfl rfl hc i [] s5 _ H5 (fun _ _ => False) I5 (stat I5 n5) st5 stop) fun r s6 ⟨hr, I6⟩ => ?_
      subst hr
      have I7 : Inv X pins σ H5 s6 := I3.call' (ch := fp) I6.os I6.base I6.hok I6.bare fun b hb => ⟨(f3 b hb).1.2.2.2.1, (f3 b hb).1.2.1, (f3 b hb).1.2.2.2.2.1, (f3 b hb).1.2.2.2.2.2⟩
      have nC : H5 s3.heap.objs.size = none := by
        have z : H5 ce.locals = none := I6.free
        rw [cL] at z
        exact z
      obtain ⟨m, hn, _⟩ := I6.loc
      have hn : s6.heap.Ns ce.locals m := hn
      rw [cL] at hn
      exact hRR D s3.heap.objs.size s6 m H5 I7 qq hn (I3.fpOk (Nat.le_refl _) nC)
    · refine thnF (T.item (X.blk s3 H3 scope ce fp) rfl rfl rfl hc i [] s5 _ H5 (fun _ _ => False) I5 (stat I5 n5) st5 go) fun r s6 ⟨u, hr, h6⟩ => ?_
      subst hr
      refine thnF h6 fun _ s7 ⟨x, H7, I7, r7, y7, st7, n7⟩ => ?_
      have I7' := I7.pinned (stat I7 n7) (T.obj _ _ st7)
      refine thnF (pg.run _ s7 _ H7 x u _ I7' r7 (step x H7 y7)) fun _ s8 ⟨σ8, H8, I8, hw8, q8⟩ => ?_
      refine thnF (pt.run _ s8 σ8 H8 _ I8 q8) fun b s9 ⟨H9, I9, q9⟩ => ?_
      have fin : ∀ {σ9 : L2.St} {s' : Shared} {H' : Hp}, Inv (X.blk s3 H3 scope ce fp) ([] ++ pinsAt fp s7.heap) σ9 H' s' → (wipe σ (own.map (·.2))).length = σ9.length → (∀ (j : Nat) v, (wipe σ (own.map (·.2)))[j]? = some (some v) → σ9[j]? = some (some v)) → Nx H' →
          ∃ m, m < n ∧ ∃ i H', Inv (X.blk s3 H3 scope ce fp) [] (wipe σ (own.map (·.2))) H' s' ∧ tn i s'.heap ∧ (∀ b ∈ fp, H' b = none) ∧ W i m H' := fun {σ9 s' H'} I' hl hk nx => by
        obtain ⟨m', hm, w'⟩ := hNx H' nx
        have pin' : ∀ b ∈ fp, ∀ o, s7.heap.get? b = some o → s'.heap.get? b = some o ∧ H' b = none := fun b hb o e => by
          have z := I'.pin (b, o) (List.mem_append_right _ (List.mem_append_right _ (mem_pinsAt hb e)))
          exact ⟨z.1, z.2.1⟩
        refine ⟨m', hm, i + 1, H', (I'.unpinned (pins := [])).weak hl hk, T.keep _ _ _ st7 fun b hb o e => (pin' b hb o e).1, fun b hb => ?_, w'⟩
        obtain ⟨o, e, _⟩ := T.obj _ _ st7 b hb
        exact (pin' b hb o e).2
      have hl8 : (wipe σ (own.map (·.2))).length = σ8.length := by rw [← hw8, wipe_length]
      have hk8 : ∀ (j : Nat) v, (wipe σ (own.map (·.2)))[j]? = some (some v) → σ8[j]? = some (some v) := fun j v e => by
        rw [← hw8] at e
        exact (wipe_some e).1
      have hk9 : ∀ (j : Nat) v, (wipe σ (own.map (·.2)))[j]? = some (some v) → (wipe σ8 vs1)[j]? = some (some v) := fun j v e => by
        rw [← hw8] at e
        obtain ⟨e1, e2⟩ := wipe_some e
        rw [wipe_out fun z => e2 (hv j z)]
        exact e1
      cases b with
      | false =>
        simp only [Bool.false_eq_true, if_false] at q9 ⊢
        exact fin I9 hl8 hk8 q9
      | true =>
        simp only [if_true] at q9 ⊢
        refine thnF (pi1.run _ s9 σ8 H9 _ I9 q9) fun xv s10 hx => thnF hx fun itv s11 h11 => ?_
        obtain ⟨it1, fp1, tn1, J1, H11, e1, I11, T1, st11, f11, W1, ⟨m1, w1⟩, turn1⟩ := h11
        subst e1
        have stat1 : ∀ {H' : Hp}, (∀ b ∈ fp1, H' b = none) → ∀ b ∈ fp1, FpOk (X.blk s3 H3 scope ce fp) ([] ++ pinsAt fp s7.heap) H' b := fun hn b hb => ⟨hn b hb, (f11 b hb).2⟩
        have loop1 : codeAny (model X.prog X.w) X.A (.compLoop (.DictComp kx vx [⟨tg, iter, ifs, 0⟩, ⟨tg1, iter1, ifs1, 0⟩] scope pos) 1 (.ref it1) (.ref D) ce)
            (fun r s' => match r with
              | .ok _ => ∃ m, m < n ∧ ∃ i H', Inv (X.blk s3 H3 scope ce fp) [] (wipe σ (own.map (·.2))) H' s' ∧ tn i s'.heap ∧ (∀ b ∈ fp, H' b = none) ∧ W i m H'
              | .error _ => False) s11 := by
          refine loop2_in (fun k s' => ∃ j H', Inv (X.blk s3 H3 scope ce fp) ([] ++ pinsAt fp s7.heap) (wipe σ8 vs1) H' s' ∧ tn1 j s'.heap ∧ (∀ b ∈ fp1, H' b = none) ∧ W1 j k H') ?_ m1 ⟨0, H11, I11.weak (wipe_length _ _) (fun j v e => (wipe_some e).1), st11, fun b hb => (f11 b hb).1, w1⟩
          rintro k s12 ⟨j, H12, I12, st12, n12, w12⟩
          rcases turn1 j k H12 w12 with ⟨stop1, nx1⟩ | ⟨go1, Nx1, hNx1, step1⟩
          · refine thnF (T1.done (X.blk s3 H3 scope ce fp) rfl rfl rfl hc j _ s12 (wipe σ8 vs1) H12 (fun _ _ => False) I12 (stat1 n12) st12 stop1) fun r s13 ⟨hr, I13⟩ => ?_
            subst hr
            exact fin I13 (hl8.trans (wipe_length σ8 vs1).symm) hk9 nx1
          · refine thnF (T1.item (X.blk s3 H3 scope ce fp) rfl rfl rfl hc j _ s12 (wipe σ8 vs1) H12 (fun _ _ => False) I12 (stat1 n12) st12 go1) fun r s13 ⟨u1, hr, h13⟩ => ?_
            subst hr
            refine thnF h13 fun _ s14 ⟨x1, H14, I14, r14, y14, st14, n14⟩ => ?_
            have I14' := I14.pinned (stat1 n14) (T1.obj _ _ st14)
            refine thnF (pg1.run _ s14 (wipe σ8 vs1) H14 x1 u1 _ I14' r14 (step1 x1 H14 y14)) fun _ s15 ⟨σ15, H15, I15, hw15, q15⟩ => ?_
            refine thnF (pt1.run _ s15 σ15 H15 _ I15 q15) fun b1 s16 ⟨H16, I16, q16⟩ => ?_
            have fin1 : ∀ {s' : Shared} {H' : Hp}, Inv (X.blk s3 H3 scope ce fp) (([] ++ pinsAt fp s7.heap) ++ pinsAt fp1 s14.heap) σ15 H' s' → Nx1 H' →
                ∃ m, m < k ∧ ∃ j H', Inv (X.blk s3 H3 scope ce fp) ([] ++ pinsAt fp s7.heap) (wipe σ8 vs1) H' s' ∧ tn1 j s'.heap ∧ (∀ b ∈ fp1, H' b = none) ∧ W1 j m H' := fun {s' H'} I' nx => by
              obtain ⟨m', hm, w'⟩ := hNx1 H' nx
              have pin' : ∀ b ∈ fp1, ∀ o, s14.heap.get? b = some o → s'.heap.get? b = some o ∧ H' b = none := fun b hb o e => by
                have z := I'.pin (b, o) (List.mem_append_right _ (List.mem_append_right _ (mem_pinsAt hb e)))
                exact ⟨z.1, z.2.1⟩
              refine ⟨m', hm, j + 1, H', I'.unpinned.weak (by rw [← hw15, wipe_length]) (fun j v e => by rw [← hw15] at e; exact (wipe_some e).1), T1.keep _ _ _ st14 fun b hb o e => (pin' b hb o e).1, fun b hb => ?_, w'⟩
              obtain ⟨o, e, _⟩ := T1.obj _ _ st14 b hb
              exact (pin' b hb o e).2
            cases b1 with
            | false =>
              simp only [Bool.false_eq_true, if_false] at q16 ⊢
              exact fin1 I16 q16
            | true =>
              simp only [if_true] at q16 ⊢
              refine thnF (pk.run _ s16 σ15 H16 _ I16 q16) fun z s17 ⟨yk, H17, I17, r17, q17⟩ => ?_
              refine thnF (pe.run _ s17 σ15 H17 _ I17 q17) fun z2 s18 ⟨yv, H18, I18, r18, H19, put, nx⟩ => ?_
              exact d_setP (X := X.blk s3 H3 scope ce fp) hu I18 put r17 r18 fun s19 I19 => fin1 I19 nx
        exact start2 loop1 (T1.self X.A 0 _ _ _ st11 loop1)
  exact codeAny_compStart_dict loop (T.self X.A 0 _ _ _ st4 loop)
theorem pe_dp2 {kx vx tg iter tg1 iter1 : Expr} {ifs ifs1 : List Expr} {scope : Scope} {own : List (Str × Nat)} {vs1 : List Nat} {pos : Pos} {o0 : HO} {wi wi1 : TI} {g g1 : TG} {tt tt1 : TT} {tk tv : TE} (hc : X.calm = true) (hu : X.A.units + 1 < cLine) (hN : X.N.Nodup) (hi : PI X tg iter wi) (ok : BlkOk X.N X.env.scope scope own) (hv : ∀ i ∈ vs1, i ∈ own.map (·.2))
    (hg : ∀ (s : Shared) (H : Hp) (C : Addr) (cl : List (Str × Addr)) (fp : List Addr), PG (X.blk s H scope (compEnvC scope cl C X.env) fp) tg g) (ht : ∀ (s : Shared) (H : Hp) (C : Addr) (cl : List (Str × Addr)) (fp : List Addr), PTs (X.blk s H scope (compEnvC scope cl C X.env) fp) ifs tt)
    (hi1 : ∀ (s : Shared) (H : Hp) (C : Addr) (cl : List (Str × Addr)) (fp : List Addr), PI (X.blk s H scope (compEnvC scope cl C X.env) fp) tg1 iter1 wi1) (hg1 : ∀ (s : Shared) (H : Hp) (C : Addr) (cl : List (Str × Addr)) (fp : List Addr), PG (X.blk s H scope (compEnvC scope cl C X.env) fp) tg1 g1) (ht1 : ∀ (s : Shared) (H : Hp) (C : Addr) (cl : List (Str × Addr)) (fp : List Addr), PTs (X.blk s H scope (compEnvC scope cl C X.env) fp) ifs1 tt1)
    (hk : ∀ (s : Shared) (H : Hp) (C : Addr) (cl : List (Str × Addr)) (fp : List Addr), PE (X.blk s H scope (compEnvC scope cl C X.env) fp) kx tk) (he : ∀ (s : Shared) (H : Hp) (C : Addr) (cl : List (Str × Addr)) (fp : List Addr), PE (X.blk s H scope (compEnvC scope cl C X.env) fp) vx tv)
    (ho : o0 = .dK [] ∨ o0 = .dT []) (hs : ∀ x, foldedSetIterable iter X.env x = pure x := by intro _; rfl) (hs1 : ∀ env x, foldedSetIterable iter1 env x = pure x := by intro _ _; rfl) :
    PE X (.DictComp kx vx [⟨tg, iter, ifs, 0⟩, ⟨tg1, iter1, ifs1, 0⟩] scope pos) (tDp2 o0 wi g tt wi1 g1 tt1 tk tv (own.map (·.2)) vs1) := by
  refine ⟨fun pins s σ H Q I h => ?_⟩
  rw [arm_eval_DictComp]
  refine dp2_core hc hu hN I hi ok hv hg ht hi1 hg1 ht1 hk he ho hs hs1 h fun D C s' m H' I' q hn f => ⟨m, hn, fun h'' sb => ?_⟩
  obtain ⟨f0, f1, f2, f3, f4, f5⟩ := f
  exact ⟨.ref D, H', I'.turned (t' := s'.toks) (fun b o hb e => (sb.2 b hb).trans e) f0 f1 f3 f4 f5, rfl, q⟩
theorem ps_setDp2 {i : Nat} {y : Str} {py spos : Pos} {kx vx tg iter tg1 iter1 : Expr} {ifs ifs1 : List Expr} {scope : Scope} {own : List (Str × Nat)} {vs1 : List Nat} {pos : Pos} {o0 : HO} {wi wi1 : TI} {g g1 : TG} {tt tt1 : TT} {tk tv : TE} (hc : X.calm = true) (hu : X.A.units + 1 < cLine) (hN : X.N.Nodup) (hy : X.N[i]? = some y) (hyl : X.env.scope.names.lookup y = some .local)
    (hsw : swapsWith (.DictComp kx vx [⟨tg, iter, ifs, 0⟩, ⟨tg1, iter1, ifs1, 0⟩] scope pos) (some (.Name y py)) spos.line X.env = pure true) (hi : PI X tg iter wi) (ok : BlkOk X.N X.env.scope scope own) (hv : ∀ i ∈ vs1, i ∈ own.map (·.2))
    (hg : ∀ (s : Shared) (H : Hp) (C : Addr) (cl : List (Str × Addr)) (fp : List Addr), PG (X.blk s H scope (compEnvC scope cl C X.env) fp) tg g) (ht : ∀ (s : Shared) (H : Hp) (C : Addr) (cl : List (Str × Addr)) (fp : List Addr), PTs (X.blk s H scope (compEnvC scope cl C X.env) fp) ifs tt)
    (hi1 : ∀ (s : Shared) (H : Hp) (C : Addr) (cl : List (Str × Addr)) (fp : List Addr), PI (X.blk s H scope (compEnvC scope cl C X.env) fp) tg1 iter1 wi1) (hg1 : ∀ (s : Shared) (H : Hp) (C : Addr) (cl : List (Str × Addr)) (fp : List Addr), PG (X.blk s H scope (compEnvC scope cl C X.env) fp) tg1 g1) (ht1 : ∀ (s : Shared) (H : Hp) (C : Addr) (cl : List (Str × Addr)) (fp : List Addr), PTs (X.blk s H scope (compEnvC scope cl C X.env) fp) ifs1 tt1)
    (hk : ∀ (s : Shared) (H : Hp) (C : Addr) (cl : List (Str × Addr)) (fp : List Addr), PE (X.blk s H scope (compEnvC scope cl C X.env) fp) kx tk) (he : ∀ (s : Shared) (H : Hp) (C : Addr) (cl : List (Str × Addr)) (fp : List Addr), PE (X.blk s H scope (compEnvC scope cl C X.env) fp) vx tv)
    (ho : o0 = .dK [] ∨ o0 = .dT []) (hs : ∀ x, foldedSetIterable iter X.env x = pure x := by intro _; rfl) (hs1 : ∀ env x, foldedSetIterable iter1 env x = pure x := by intro _ _; rfl) :
    PS X (.Assign [.Name y py] (.DictComp kx vx [⟨tg, iter, ifs, 0⟩, ⟨tg1, iter1, ifs1, 0⟩] scope pos) spos) (tAsg (tDp2 o0 wi g tt wi1 g1 tt1 tk tv (own.map (·.2)) vs1) (gName i)) := by
  refine ⟨fun pins s σ H D I h => ?_⟩
  rw [exec_Assign_Name_used _ _ _ _ hsw]
  refine wpAny_bind (wpAny_standAt (wpAny_bind ?_))
  show wpAny _ X.A (do let _ ← comprehension (.DictComp kx vx [⟨tg, iter, ifs, 0⟩, ⟨tg1, iter1, ifs1, 0⟩] scope pos) scope X.env (firstIterPos [⟨tg, iter, ifs, 0⟩, ⟨tg1, iter1, ifs1, 0⟩] pos) newDict false (eval iter X.env) (some (assign (.Name y py) X.env))) _ _ s
  have h : tDp2 o0 wi g tt wi1 g1 tt1 tk tv (own.map (·.2)) vs1 σ H (fun x H1 => gName i x σ H1 D.nx) := h
  refine wpAny_bind (thn (dp2_core (Qf := fun _ s' => SP X pins D .next s') hc hu hN I hi ok hv hg ht hi1 hg1 ht1 hk he ho hs hs1 h fun L C s' m H' I' q hn f => ?_) fun _ s' hq => wpAny_pure (wpAny_pure hq))
  show wpAny _ _ (assign (.Name y py) X.env (.ref L)) _ _ _
  refine wpAny_assign_Name (store_ok2 (v := V.ref L) I' hN hy (.inl hyl) rfl (fun s2 I2 ⟨a, sb, ha⟩ => ?_) (.inr hyl))
  obtain ⟨f0, f1, f2, f3, f4, f5⟩ := f
  have haC : C ≠ a := by
    rcases ha with z | z
    · rw [z]; exact f1
    · exact fun e => f4 y a z e.symm
  refine ⟨m, hn.sameBut sb haC, fun h3 sb3 => ?_⟩
  exact ⟨_, H', I2.turned (t' := s2.toks) (fun b o hb e => (sb3.2 b hb).trans e) f0 f1 f3 f4 f5, q⟩
theorem swD_true {kx vx : Expr} {gs : List Comprehension} {scope : Scope} {pos py : Pos} {y : Str} {l : Nat} {env : Env} (hk : env.scope.kind = .function) (hy : env.scope.names.lookup y = some .local) (hl : (py.line == pos.line) = true)
    (ha : (scope.names.any fun (n, k) => n == y && (k == .local || k == .cell)) = false) : swapsWith (.DictComp kx vx gs scope pos) (some (.Name y py)) l env = pure true := by
  have ky : env.kindOf y = some .local := hy
  have hb : env.blockKind = .function := by unfold Env.blockKind; rw [hk]; rfl
  unfold swapsWith
  simp only [hb, ky, ha, Expr.pos, hl]
  rfl
end
end MN
/-! lists and tuples of texts and truths as data -/
namespace MN
open PySem PySem.Spec PyProof.Rows L2
section
variable {K : PySem.W.Frag} {H : Hp}
theorem dp_strs : ∀ zs : List Str, DpAll K H (zs.map V.str) (zs.map PyData.str)
  | [] => .nil
  | z :: zs => .cons (.str z) (dp_strs zs)
theorem dp_bls : ∀ bs : List Bool, DpAll K H (bs.map V.bl) (bs.map PyData.bool)
  | [] => .nil
  | b :: bs => .cons (.bl b) (dp_bls bs)
theorem dpT {t : Addr} {zs : List Str} (h : SqT K H t (zs.map V.str)) : Dp K H (.ref t) (.tuple (zs.map PyData.str)) := .tup h (dp_strs zs)
theorem dpL {t : Addr} {zs : List Str} (h : SqL K H t (zs.map V.str)) : Dp K H (.ref t) (.list (zs.map PyData.str)) := .lst h (dp_strs zs)
theorem dpB {t : Addr} {bs : List Bool} (h : SqL K H t (bs.map V.bl)) : Dp K H (.ref t) (.list (bs.map PyData.bool)) := .lst h (dp_bls bs)
theorem layAll (zs : List PyData) (h : ∀ d ∈ zs, d.canLay0 = true) : PyData.canLayAll0 zs = true := by
  induction zs with
  | nil => rfl
  | cons z zs ih =>
    rw [PyData.canLayAll0, h z List.mem_cons_self, ih fun d hd => h d (List.mem_cons_of_mem _ hd)]
    rfl
theorem depthAll0 (zs : List PyData) {n : Nat} (h : ∀ d ∈ zs, d.depth ≤ n) : PyData.depthAll zs ≤ n := by
  induction zs with
  | nil => simp [PyData.depthAll]
  | cons z zs ih =>
    rw [PyData.depthAll]
    have h1 := h z List.mem_cons_self
    have h2 := ih fun d hd => h d (List.mem_cons_of_mem _ hd)
    omega
theorem shapedT {zs : List PyData} (h : ∀ d ∈ zs, d.canLay0 = true ∧ d.depth ≤ 60) : SeqAt.shaped (.tuple zs) = true := by
  unfold SeqAt.shaped
  rw [PyData.canLay0, layAll zs fun d hd => (h d hd).1, PyData.depth]
  have := depthAll0 zs (n := 60) fun d hd => (h d hd).2
  simp only [Bool.true_and, decide_eq_true_eq]
  omega
theorem shapedL {zs : List PyData} (h : ∀ d ∈ zs, d.canLay0 = true ∧ d.depth ≤ 60) : SeqAt.shaped (.list zs) = true := by
  unfold SeqAt.shaped
  rw [PyData.canLay0, layAll zs fun d hd => (h d hd).1, PyData.depth]
  have := depthAll0 zs (n := 60) fun d hd => (h d hd).2
  simp only [Bool.true_and, decide_eq_true_eq]
  omega
theorem eqv_self {d : PyData} (h : SeqAt.shaped d = true) : PyData.eqv d d = true := SeqAt.eqv_refl d (SeqAt.canLay_of_shaped h)
end
end MN
/-! the head's facts: defs at any address, one more Bool -/
namespace MN
open PySem PySem.Spec PyProof.Rows L2
def obsX (ex : PySem.W.Frag → Bool) (fn : List He5.DefA) (K : PySem.W.Frag) : He.AlD := (ex K && fn.all fun d => d.ok K, fn.map fun d => He5.fnA K (d.at_ K))
def SaysX (ex : PySem.W.Frag → Bool) (fn : List He5.DefA) (K : PySem.W.Frag) : Prop := obsX ex fn K = He5.valA fn
def obsXG (n : Nat) (ex : PySem.W.Frag → Bool) (fn : List He5.DefA) (g : Addr → Option Obj) : He.AlD := obsX ex fn (He.frG g (He5.asA g n))
def hookX (n : Nat) (ex : PySem.W.Frag → Bool) (fn : List He5.DefA) : PySem.W.Hook where
  α := He.AlD
  obs := fun s => obsXG n ex fn s.heap.get?
  val := fun _ => He5.valA fn
  says := fun _ h => ∃ K : PySem.W.Frag, K.In h ∧ SaysX ex fn K
  of := fun _ _ e => ⟨_, He.frG_in, e⟩
  keeps := fun _ _ _ ⟨K, hK, c⟩ k => ⟨K, PySem.W.Frag.In.keeps hK k, c⟩
theorem obsXG_eq {n : Nat} {ex : PySem.W.Frag → Bool} {fn : List He5.DefA} {g : Addr → Option Obj} {s : Shared} (h : ∀ a, g a = s.heap.get? a) : obsXG n ex fn g = (hookX n ex fn).obs s := by
  have e : g = s.heap.get? := funext h
  rw [e] <;> rfl
section
variable {ex : PySem.W.Frag → Bool} {fn : List He5.DefA} {K : PySem.W.Frag}
theorem SaysX.all (c : SaysX ex fn K) : ex K = true := (He.ba (show (ex K && fn.all fun d => d.ok K) = true from congrArg (fun z : He.AlD => z.1) c)).1
theorem SaysX.def_ (c : SaysX ex fn K) (i : Nat) {d : He5.DefA} (h : fn[i]? = some d := by rfl) : ∃ fd, L2.FunD K d.name d.qual d.params d.body d.scope (d.dvs K) (d.kws K) (d.at_ K) fd := by
  have c2 := (He.ba (show (ex K && fn.all fun d => d.ok K) = true from congrArg (fun z : He.AlD => z.1) c)).2
  have e : fn.map (fun d => He5.fnA K (d.at_ K)) = fn.map He5.DefA.val := congrArg (fun z : He.AlD => z.2) c
  have e2 : (fn.map fun d => He5.fnA K (d.at_ K))[i]? = (fn.map He5.DefA.val)[i]? := by rw [e]
  rw [List.getElem?_map, List.getElem?_map, h] at e2
  exact He5.DefA.funD (Option.some.inj e2) (List.all_eq_true.mp c2 d (List.mem_of_getElem? h))
end
/-- a def of the top -/
def gDef (x : Str) (st : Stmt) : He5.DefA := { at_ := fun K => He.ga K x, name := x, qual := x, params := defArgs st, body := defBody st, scope := defScope st }
/-! ### a class with slots -/
def scB (K : PySem.W.Frag) (C : Addr) : Bool := PySem.W.plainGet K C Str.empty && (PySem.W.isClsIn K C && (PySem.W.plainOver K C && He.eqO (PySem.W.findIn K (.ref C) "__setattr__") (some (some (.builtin "object.__setattr__")))))
theorem scB_ok {K : PySem.W.Frag} {C : Addr} (h : scB K C = true) : SlX.SCls K C := by
  obtain ⟨h1, h⟩ := He.ba h
  obtain ⟨h2, h⟩ := He.ba h
  obtain ⟨h3, h4⟩ := He.ba h
  exact ⟨h1, h2, h3, He.eqO_ok h4⟩
def siB (K : PySem.W.Frag) (C : Addr) : Bool := He.eqO (PySem.W.findIn K (.ref C) "__class__") (some (some (.builtin "object.__class__"))) && (He.eqO (PySem.W.specialIn K (.builtin "object.__class__") "__get__") (some (some (.builtin "getset_descriptor.__get__"))) &&
  (decide (PySem.W.takesIn K (.builtin "object.__class__") = some true) && decide (PySem.W.mroIn K C (.type "object") = some true)))
theorem siB_ok {K : PySem.W.Frag} {C : Addr} (h : siB K C = true) : SlX.SIsi K C := by
  obtain ⟨h1, h⟩ := He.ba h
  obtain ⟨h2, h⟩ := He.ba h
  obtain ⟨h3, h4⟩ := He.ba h
  exact ⟨He.eqO_ok h1, He.eqO_ok h2, of_decide_eq_true h3, of_decide_eq_true h4⟩
def slB (K : PySem.W.Frag) (C : Addr) (f : Str) : Bool := He.eqO (PySem.W.findIn K (.ref C) f) (some (some (.ref (He.ma K C f)))) && (He.eqO (PySem.W.specialIn K (.ref (He.ma K C f)) "__get__") (some (some (.builtin "member_descriptor.__get__"))) &&
  (decide (PySem.W.takesIn K (.ref (He.ma K C f)) = some true) && (decide (PySem.W.typeIn K (.ref (He.ma K C f)) = some (.type "member_descriptor")) && (match PySem.W.slotIn K (He.ma K C f) C with
    | some i => decide (i < 1000)
    | none => false))))
theorem slB_ok {K : PySem.W.Frag} {C : Addr} {f : Str} (h : slB K C f = true) : ∃ p i, SlX.Slot1 K C f p i := by
  obtain ⟨h1, h⟩ := He.ba h
  obtain ⟨h2, h⟩ := He.ba h
  obtain ⟨h3, h⟩ := He.ba h
  obtain ⟨h4, h5⟩ := He.ba h
  cases e : PySem.W.slotIn K (He.ma K C f) C with
  | none =>
    rw [e] at h5
    cases h5
  | some i =>
    rw [e] at h5
    exact ⟨_, i, He.eqO_ok h1, He.eqO_ok h2, of_decide_eq_true h3, of_decide_eq_true h4, e, of_decide_eq_true h5⟩
/-- attributes and classmethods read off the class -/
def rdB (K : PySem.W.Frag) (C : Addr) : Bool := PySem.W.readsIn K C (.type "type") && He.eqO (PySem.W.specialIn K (.ref C) "__getattribute__") (some (some (.builtin "type.__getattribute__")))
theorem rdB_ok {K : PySem.W.Frag} {C : Addr} (h : rdB K C = true) : ClX.CRead K C (.type "type") := by
  obtain ⟨h1, h2⟩ := He.ba h
  exact ⟨h1, He.eqO_ok h2⟩
def cmB (K : PySem.W.Frag) (C : Addr) (m : Str) : Bool := He5.wrapB K C "classmethod" "classmethod.__get__" m && PySem.W.fnIn K (He5.wf K C "classmethod" m)
theorem cmB_ok {K : PySem.W.Frag} {C : Addr} {m : Str} (h : cmB K C m = true) : ClX.CMet K C (.type "type") m (He.ma K C m) (He5.wf K C "classmethod" m) := by
  obtain ⟨h1, h2⟩ := He.ba h
  exact He5.cmet_of h1 h2
/-! ### names -/
def freeAll (K : PySem.W.Frag) (xs : List Str) : Bool := xs.all fun x => (He.Fa.free x).ok K
def gloAll (K : PySem.W.Frag) (xs : List Str) : Bool := xs.all fun x => (He.Fa.glo x).ok K
section
variable {K : PySem.W.Frag} {h : Heap} {mg : Str → Option Value}
theorem freeAll_ok (X : K.In h) (G : h.Ns mainGlobals mg) {xs : List Str} (c : freeAll K xs = true) : ∀ x ∈ xs, mg x = none := fun x hx => He.free_ok X G (List.all_eq_true.mp c x hx)
theorem gloAll_ok (X : K.In h) (G : h.Ns mainGlobals mg) {xs : List Str} (c : gloAll K xs = true) {x : Str} (hx : x ∈ xs) : mg x = some (.ref (He.ga K x)) := He.glo_ok X G (List.all_eq_true.mp c x hx)
theorem intC_ok (X : K.In h) (G : h.Ns mainGlobals mg) {x : Str} {i : Int} (c : (He.Fa.int x i).ok K = true) : ∃ u, mg x = some u ∧ RelV (.int i) u := by
  obtain ⟨t, e⟩ := He.int_ok X G c
  exact ⟨_, e, t, rfl⟩
theorem strC_ok (X : K.In h) (G : h.Ns mainGlobals mg) {x z : Str} (c : (He.Fa.str x z).ok K = true) : ∃ u, mg x = some u ∧ RelV (.str z) u := by
  obtain ⟨t, e⟩ := He.str_ok X G c
  exact ⟨_, e, t, rfl⟩
end
end MN
/-! the law's draws: whatever is drawn lies in its bounds -/
namespace MN
open PySem PySem.Spec PyProof.Rows L2
abbrev potO (a b c : Int) : HO := .lst [.int a, .int b, .int c]
def Pot (H : Hp) (p : Addr) : Prop := ∃ a b c, H p = some (potO a b c)
/-- all but the pot is as it was; the pot is one still -/
structure Ex (p : Addr) (H H' : Hp) : Prop where
  keep : ∀ b o, b ≠ p → H b = some o → H' b = some o
  pot : Pot H' p
theorem Pot.upd {H : Hp} {p : Addr} {a b c : Int} : Pot (L2.upd H p (potO a b c)) p := ⟨a, b, c, upd_same⟩
theorem Ex.turn {H : Hp} {p : Addr} {a b c : Int} : Ex p H (L2.upd H p (potO a b c)) := ⟨fun b o hb e => by rw [upd_ne hb]; exact e, .upd⟩
theorem Ex.trans {p : Addr} {H H1 H2 : Hp} (a : Ex p H H1) (b : Ex p H1 H2) : Ex p H H2 := ⟨fun x o hx e => b.keep x o hx (a.keep x o hx e), b.pot⟩
theorem Ex.new {p q : Addr} {H H1 : Hp} {o : HO} (a : Ex p H H1) (hq : H1 q = none) : Ex p H (L2.upd H1 q o) := by
  obtain ⟨x, y, z, hp⟩ := a.pot
  exact ⟨fun b u hb e => by rw [upd_ne (ne_of_none (a.keep b u hb e) hq)]; exact a.keep b u hb e, x, y, z, by rw [upd_ne (ne_of_none hp hq)]; exact hp⟩
theorem Ex.same {p : Addr} {H H1 H2 : Hp} (a : Ex p H H1) (s : Same H1 H2) : Ex p H H2 := by
  obtain ⟨x, y, z, hp⟩ := a.pot
  exact ⟨fun b u hb e => s _ _ (a.keep b u hb e), x, y, z, s _ _ hp⟩
theorem Ex.refl {p : Addr} {H : Hp} (h : Pot H p) : Ex p H H := ⟨fun _ _ _ e => e, h⟩
theorem Ex.free {p q : Addr} {H H1 : Hp} (a : Ex p H H1) (hp : Pot H p) (hq : H1 q = none) : H q = none := by
  cases e : H q with
  | none => rfl
  | some o =>
    by_cases z : q = p
    · subst z
      obtain ⟨x, y, w, h⟩ := a.pot
      rw [h] at hq; cases hq
    · rw [a.keep q o z e] at hq; cases hq
/-- an object that stands, or a new one, may be changed -/
theorem Ex.put {p q : Addr} {H H1 : Hp} {o : HO} (a : Ex p H H1) (hq : H q = none) (hne : q ≠ p) : Ex p H (L2.upd H1 q o) := by
  obtain ⟨x, y, z, hp⟩ := a.pot
  exact ⟨fun b u hb e => by rw [upd_ne (ne_of_none e hq)]; exact a.keep b u hb e, x, y, z, by rw [upd_ne (Ne.symm hne)]; exact hp⟩
theorem Ex.seqL {K : PySem.W.Frag} {p : Addr} {H H' : Hp} {a : Addr} {xs : List V} (e : Ex p H H') (h : SqL K H a xs) (hne : a ≠ p) : SqL K H' a xs := by
  rcases h with (h | ⟨o, h⟩) | h
  · exact .inl (.inl (e.keep _ _ hne h))
  · exact .inl (.inr ⟨o, e.keep _ _ hne h⟩)
  · exact .inr h
theorem Ex.seqT {K : PySem.W.Frag} {p : Addr} {H H' : Hp} {a : Addr} {xs : List V} (e : Ex p H H') (h : SqT K H a xs) (hne : a ≠ p) : SqT K H' a xs := by
  rcases h with (h | ⟨o, h⟩) | h
  · exact .inl (.inl (e.keep _ _ hne h))
  · exact .inl (.inr ⟨o, e.keep _ _ hne h⟩)
  · exact .inr h
theorem atI_int {ns : List Int} {i : Int} (h0 : 0 ≤ i) (h : i < (ns.map V.int).length) : ∃ x : Int, atI (ns.map V.int) i = some (.int x) := by
  obtain ⟨j, rfl⟩ : ∃ j : Nat, i = j := ⟨i.toNat, by omega⟩
  rw [List.length_map] at h
  have hj : j < ns.length := by omega
  exact ⟨ns[j], atI_nat (by rw [List.getElem?_map, List.getElem?_eq_getElem hj]; rfl)⟩
theorem atI_some {α : Type} {xs : List α} {r : Int} (h0 : 0 ≤ r) (h1 : r < (xs.length : Int)) : ∃ v, v ∈ xs ∧ xs[r.toNat]? = some v ∧ atI xs r = some v := by
  obtain ⟨j, rfl⟩ : ∃ j : Nat, r = j := ⟨r.toNat, by omega⟩
  have hj : j < xs.length := by omega
  exact ⟨xs[j], List.getElem_mem hj, by simp [hj], atI_nat (List.getElem?_eq_getElem hj)⟩
theorem perm_erase {α : Type} : ∀ {xs : List α} {k : Nat} {y : α}, xs[k]? = some y → (y :: xs.eraseIdx k).Perm xs
  | x :: xs, 0, y, h => by
    cases (show some x = some y from h)
    exact List.Perm.refl _
  | x :: xs, k + 1, y, h => by
    have ih := perm_erase (xs := xs) (k := k) (y := y) (by simpa using h)
    exact (List.Perm.swap x y _).trans (ih.cons x)
theorem seqIx {r : Int} {n : Nat} (h0 : 0 ≤ r) (h1 : r < n) : seqIndex? r n = some r.toNat := by
  unfold seqIndex?
  simp [show ¬ r < 0 by omega, h0, h1]
theorem join_signs (cs : List Nat) : (Txt.join "" (cs.map fun c => (⟨#[c]⟩ : Str))).cps.toList = cs := by
  rw [TL.join_eq]
  show TL.tl (Str.join "" (cs.map fun c => (⟨#[c]⟩ : Str))) = cs
  rw [TL.tl_join, List.map_map]
  have h : ∀ cs : List Nat, TL.joinL [] (cs.map (TL.tl ∘ fun c => (⟨#[c]⟩ : Str))) = cs := by
    intro cs
    induction cs with
    | nil => rfl
    | cons c cs ih =>
      cases cs with
      | nil => rfl
      | cons d r =>
        show [c] ++ ([] ++ TL.joinL [] ((d :: r).map (TL.tl ∘ fun c => (⟨#[c]⟩ : Str)))) = c :: d :: r
        rw [ih]; rfl
  exact h cs
/-! ### _law_word -/
def spDip : Sp := fun vs H Q _ => ∃ p n a b c, vs = [.ref p, .int n] ∧ H p = some (potO a b c) ∧ 0 < n ∧ n < 1000000 ∧ ∀ r a' b' c', 0 ≤ r → r < n → Q (.int r) (upd H p (potO a' b' c'))
def spFilled (K : PySem.W.Frag) : Sp := fun vs H Q _ => ∃ (a : Addr) (i : Int) (ns : List Int), vs = [.ref a, .int i] ∧ SqL K H a (ns.map V.int) ∧ 0 ≤ i ∧ i < 1000 ∧ ∀ q H', H q = none → Same H H' → Pot H' q → Q (.ref q) H'
def spChoose (K : PySem.W.Frag) : Sp := fun vs H Q _ => ∃ p x, vs = [.ref p, x] ∧ Pot H p ∧ ((∃ z : Str, x = .str z ∧ 0 < z.length ∧ z.length < 100000 ∧ ∀ c a' b' c', c ∈ z.cps.toList → Q (.str ⟨#[c]⟩) (upd H p (potO a' b' c'))) ∨
  (∃ l xs, x = .ref l ∧ l ≠ p ∧ SqL K H l xs ∧ 0 < xs.length ∧ xs.length < 100000 ∧ ∀ v a' b' c', v ∈ xs → Q v (upd H p (potO a' b' c'))))
end MN
/-! the draws of the laws k00 .. k04 -/
namespace MN
open PySem PySem.Spec PyProof.Rows L2
section
variable {P : Program} {w : World} {K : PySem.W.Frag} {mg : Str → Option Value} {base : Heap}
/-! ### _law_dip -/
abbrev N_law_dip : List Str := ["_law_pot", "_law_total_here", "_law_found", "_law_one", "_law_two"]
theorem sc_law_dip : FnScope N_law_dip ["_law_pot", "_law_total_here"] (defScope (top 21)) := ⟨rfl, rfl, rfl, by decide +kernel, rfl, by decide +kernel, by decide +kernel⟩
theorem c_law_dip (A : At K mg "_law_dip" (top 21)) (B : Blt mg) : Cal P w K mg base 1 "_law_dip" spDip := by
  refine cal_of A sc_law_dip (fun _ _ _ _ _ _ us hl => match us, hl with | [_, _], _ => rfl) (fun vs H Q E h => ?_) (fun _ cdv A outer s H vs Q E hr h => ?_)
  · obtain ⟨_, _, _, _, _, rfl, _⟩ := h; rfl
  · obtain ⟨p, n, a, b, c, rfl, hp, h0, h1, hQ⟩ := h
    refine ⟨_, (pss_cons (ps_if (pt_cmpR op_gt (pe_ix ix_list (pv 0) pe_int (fun _ _ => rfl)) pe_int (nomark _))
      (pss_cons (ps_set (i := 2) sc_law_dip.nd rfl (Or.inl rfl) (pe_op op_mod (pe_callTy call_int1 (by rfl) B.int (by decide +kernel) (pa_cons (pe_ix ix_list (pv 0) pe_int (fun _ _ => rfl)) pa_nil)) (pv 1)))
      (pss_cons (ps_asg (pe_op op_fdiv (pe_ix ix_list (pv 0) pe_int (fun _ _ => rfl)) (pv 1)) (pg_sub (pv 0) pe_int set_list))
      (pss_one (ps_ret (pv 2)))))
      pss_nil)
      (pss_cons (ps_asg (pe_op op_add (pe_ix ix_list (pv 0) pe_int (fun _ _ => rfl)) pe_int) (pg_sub (pv 0) pe_int set_list))
      (pss_cons (ps_set (i := 3) sc_law_dip.nd rfl (Or.inl rfl) (pe_op op_mod (pe_callTy call_int1 (by rfl) B.int (by decide +kernel) (pa_cons (pe_op op_add (pe_op op_mul (pe_ix ix_list (pv 0) pe_int (fun _ _ => rfl)) pe_int) (pe_op op_mul (pe_ix ix_list (pv 0) pe_int (fun _ _ => rfl)) pe_int)) pa_nil)) pe_int))
      (pss_cons (ps_set (i := 4) sc_law_dip.nd rfl (Or.inl rfl) (pe_op op_mod (pe_callTy call_int1 (by rfl) B.int (by decide +kernel) (pa_cons (pe_op op_add (pe_op op_mul (pv 3) (pv 3)) (pe_op op_mul pe_int (pe_ix ix_list (pv 0) pe_int (fun _ _ => rfl)))) pa_nil)) pe_int))
      (pss_one (ps_ret (pe_op op_mod (pe_callTy call_int1 (by rfl) B.int (by decide +kernel) (pa_cons (pe_op op_fdiv (pe_op op_mod (pe_callTy call_int1 (by rfl) B.int (by decide +kernel) (pa_cons (pe_op op_add (pe_op op_mul (pv 4) pe_int) (pv 3)) pa_nil)) pe_int) pe_int) pa_nil)) (pv 1)))))))), ?_⟩
    refine ⟨_, rfl, p, _, _, _, rfl, rfl, SqL.of hp, rfl, _, _, rfl, rfl, _, rfl, ?_⟩
    refine ite2 (fun _ => ?_) (fun _ => ?_)
    · refine ⟨_, rfl, p, _, _, _, rfl, rfl, SqL.of hp, rfl, .inl ⟨_, rfl, _, rfl, _, _, rfl, rfl, h0, ?_⟩⟩
      refine ⟨_, rfl, p, _, _, _, rfl, rfl, SqL.of hp, rfl, _, rfl, _, _, rfl, rfl, ⟨h0, by omega⟩, _, rfl, p, _, _, 0, rfl, rfl, hp, rfl, ?_⟩
      exact ⟨_, rfl, hQ _ _ _ _ (Int.emod_nonneg _ (by omega)) (Int.emod_lt_of_pos _ h0)⟩
    · refine ⟨_, rfl, p, _, _, _, rfl, rfl, SqL.of hp, rfl, _, _, rfl, rfl, _, rfl, p, _, _, 2, rfl, rfl, hp, rfl, ?_⟩
      have hp1 : upd H p (.lst (List.set [V.int a, V.int b, V.int c] 2 (.int (c + 1)))) p = some (potO a b (c + 1)) := upd_same
      refine ⟨_, rfl, p, _, _, _, rfl, rfl, SqL.of hp1, rfl, _, _, rfl, rfl, .inr ⟨by decide, by decide⟩, _, rfl, p, _, _, _, rfl, rfl, SqL.of hp1, rfl, _, _, rfl, rfl, .inr ⟨by decide, by decide⟩, _, _, rfl, rfl, .inl ⟨_, rfl, _, _, rfl, rfl, (show (0 : Int) < 2305843009213693951 by decide), ?_⟩⟩
      have hb : ∀ x : Int, -(2 ^ 64) < x % 2305843009213693951 ∧ x % 2305843009213693951 < 2 ^ 64 := fun x => by omega
      refine ⟨_, rfl, _, rfl, _, _, rfl, rfl, .inl (hb _), _, rfl, _, _, _, _, rfl, rfl, SqL.of hp1, rfl, _, _, rfl, rfl, .inl ⟨by decide, by decide⟩, _, _, rfl, rfl, .inl ⟨_, rfl, _, _, rfl, rfl, (show (0 : Int) < 1152921504606846883 by decide), ?_⟩⟩
      refine ⟨_, rfl, _, _, rfl, rfl, .inr ⟨by decide, by decide⟩, _, rfl, _, _, rfl, rfl, .inl ⟨_, rfl, _, _, rfl, rfl, (show (0 : Int) < 4611686018427387847 by decide), _, _, rfl, rfl, ⟨by decide, by decide⟩, .inl ⟨_, rfl, _, rfl, _, _, rfl, rfl, h0, ?_⟩⟩⟩
      exact hQ _ a b (c + 1) (Int.emod_nonneg _ (by omega)) (Int.emod_lt_of_pos _ h0)
/-! ### _law_filled -/
abbrev N_law_filled : List Str := ["_law_script", "_law_at", "_law_cell", "_law_whole", "_law_mixed"]
theorem sc_law_filled : FnScope N_law_filled ["_law_script", "_law_at"] (defScope (top 20)) := ⟨rfl, rfl, rfl, by decide +kernel, rfl, by decide +kernel, by decide +kernel⟩
theorem c_law_filled (A : At K mg "_law_filled" (top 20)) (B : Blt mg) : Cal P w K mg base 1 "_law_filled" (spFilled K) := by
  refine cal_of A sc_law_filled (fun _ _ _ _ _ _ us hl => match us, hl with | [_, _], _ => rfl) (fun vs H Q E h => ?_) (fun _ cdv A outer s H vs Q E hr h => ?_)
  · obtain ⟨_, _, _, rfl, _⟩ := h; rfl
  · obtain ⟨a, i, ns, rfl, ha, h0, h1, hQ⟩ := h
    refine ⟨_, (pss_cons (ps_set (i := 2) sc_law_filled.nd rfl (Or.inl rfl) (pe_ifExp (pt_cmpR op_lt (pv 1) (pe_callB call_len_seq (by rfl) B.len (by decide +kernel) (pa_cons (pv 0) pa_nil)) (nomark _)) (pe_ix ix_list (pv 0) (pv 1) (fun _ _ => rfl)) (pe_op op_add (pe_op op_mul pe_int (pv 1)) pe_int)))
      (pss_cons (ps_set (i := 3) sc_law_filled.nd rfl (Or.inl rfl) (pe_op op_mod (pe_callTy call_int1 (by rfl) B.int (by decide +kernel) (pa_cons (pe_callB call_abs (by rfl) B.abs (by decide +kernel) (pa_cons (pv 2) pa_nil)) pa_nil)) (pe_op op_powB (pe_op op_powB pe_int pe_int) pe_int)))
      (pss_cons (ps_set (i := 4) sc_law_filled.nd rfl (Or.inl rfl) (pe_op op_mod (pe_callTy call_int1 (by rfl) B.int (by decide +kernel) (pa_cons (pe_op op_add (pe_op op_add (pe_op op_add (pv 3) (pe_op op_mul pe_int (pv 1))) (pe_op op_mul pe_int (pe_callTy call_int1 (by rfl) B.int (by decide +kernel) (pa_cons (pe_cmpR op_lt (pv 2) pe_int (nomark _)) pa_nil)))) pe_int) pa_nil)) pe_int))
      (pss_one (ps_ret (pe_lst (pa_cons (pe_callB (call_max2 rfl) (by rfl) B.max (by decide +kernel) (pa_cons pe_int (pa_cons (pe_op op_sub (pv 3) (pe_op op_powB pe_int pe_int)) pa_nil))) (pa_cons (pv 4) (pa_cons pe_int pa_nil))))))))), ?_⟩
    refine ⟨_, rfl, _, rfl, a, _, rfl, .inl ha, _, _, rfl, rfl, _, rfl, ?_⟩
    refine ite2 (fun hc => ?_) (fun hc => ?_)
    · obtain ⟨x, hx⟩ := atI_int h0 (of_decide_eq_true hc)
      refine ⟨_, rfl, _, rfl, a, _, _, _, rfl, rfl, ha, hx, ?_⟩
      refine ⟨_, rfl, _, rfl, .inl ⟨_, rfl, _, _, rfl, rfl, ⟨by decide, by decide +kernel⟩, _, _, rfl, rfl, ⟨by decide, by decide +kernel⟩, _, _, rfl, rfl, ?_, ?_⟩⟩
      · show (0 : Int) < (10 ^ 60) ^ 10
        decide
      refine ⟨_, rfl, _, rfl, _, _, rfl, rfl, .inl ⟨by decide, by decide⟩, _, _, rfl, rfl, _, rfl, _, _, rfl, rfl, .inr ⟨_, rfl, _, _, rfl, rfl, .inl ⟨by decide, by decide⟩, _, _, rfl, rfl, _, _, rfl, rfl, .inl ⟨_, rfl, _, _, rfl, rfl, (show (0 : Int) < 2305843009213693921 by decide), ?_⟩⟩⟩
      refine ⟨_, rfl, _, _, rfl, rfl, ⟨by decide, by decide +kernel⟩, _, _, rfl, rfl, _, _, rfl, _, rfl, (by show 3 ≤ sizeLine; decide), fun q hq => ?_⟩
      exact hQ q _ hq (same_new hq) ⟨_, _, _, upd_same⟩
    · refine ⟨_, rfl, _, _, rfl, rfl, .inl ⟨by decide, by decide⟩, _, _, rfl, rfl, ?_⟩
      refine ⟨_, rfl, _, rfl, .inl ⟨_, rfl, _, _, rfl, rfl, ⟨by decide, by decide +kernel⟩, _, _, rfl, rfl, ⟨by decide, by decide +kernel⟩, _, _, rfl, rfl, ?_, ?_⟩⟩
      · show (0 : Int) < (10 ^ 60) ^ 10
        decide
      refine ⟨_, rfl, _, rfl, _, _, rfl, rfl, .inl ⟨by decide, by decide⟩, _, _, rfl, rfl, _, rfl, _, _, rfl, rfl, .inr ⟨_, rfl, _, _, rfl, rfl, .inl ⟨by decide, by decide⟩, _, _, rfl, rfl, _, _, rfl, rfl, .inl ⟨_, rfl, _, _, rfl, rfl, (show (0 : Int) < 2305843009213693921 by decide), ?_⟩⟩⟩
      refine ⟨_, rfl, _, _, rfl, rfl, ⟨by decide, by decide +kernel⟩, _, _, rfl, rfl, _, _, rfl, _, rfl, (by show 3 ≤ sizeLine; decide), fun q hq => ?_⟩
      exact hQ q _ hq (same_new hq) ⟨_, _, _, upd_same⟩
end
end MN
/-! comprehensions with two for-clauses: the outer walk, the inner walk -/
namespace MN
open PySem PySem.Spec PyProof.Rows L2
section
variable {vs vs1 : List Nat} {σ σ2 : L2.St} {H1 : Hp} {D : Addr} {Qd : Hp → Prop} {g g1 : TG} {tt tt1 : TT} {te : TE} {wi1 : TI}
theorem lc2_out {J : It} {n : Nat} {G : Hp → Prop} {Y : Nat → Hp → V → Hp → Prop} (w : Walk J n G Y) (Pv : Nat → Hp → Prop) (h0 : Pv 0 (upd H1 D (.lst []))) (hG : ∀ i H, i ≤ n → Pv i H → G H)
    (hs : ∀ i x H H', i < n → Pv i H → Y i H x H' → g x (wipe σ vs) H' fun σ2 H2 => wipe σ2 vs = wipe σ vs ∧ tt σ2 H2 fun b H3 =>
      if b = true then wi1 σ2 H3 fun J1 H4 => ∃ W1 : Nat → Nat → Hp → Prop, (∃ m, W1 0 m H4) ∧ ∀ j k H, W1 j k H →
        (J1.stop j H ∧ Pv (i + 1) H) ∨ (J1.go j H ∧ ∃ Nx1 : Hp → Prop, (∀ H', Nx1 H' → ∃ k', k' < k ∧ W1 (j + 1) k' H') ∧ ∀ x H', J1.yld j H x H' → g1 x (wipe σ2 vs1) H' fun σ3 H5 => wipe σ3 vs1 = wipe σ2 vs1 ∧ tt1 σ3 H5 fun b H6 =>
          if b = true then te σ3 H6 fun y H7 => ∃ acc, H7 D = some (.lst acc) ∧ acc.length < sizeLine ∧ Nx1 (upd H7 D (.lst (acc ++ [y]))) else Nx1 H6)
      else Pv (i + 1) H3) (hd : ∀ H, Pv n H → Qd H) :
    ∃ W : Nat → Nat → Hp → Prop, (∃ m, W 0 m (upd H1 D (.lst []))) ∧ ∀ i m H, W i m H →
      (J.stop i H ∧ Qd H) ∨ (J.go i H ∧ ∃ Nx : Hp → Prop, (∀ H', Nx H' → ∃ m', m' < m ∧ W (i + 1) m' H') ∧ ∀ x H', J.yld i H x H' → g x (wipe σ vs) H' fun σ2 H2 => wipe σ2 vs = wipe σ vs ∧ tt σ2 H2 fun b H3 =>
        if b = true then wi1 σ2 H3 fun J1 H4 => ∃ W1 : Nat → Nat → Hp → Prop, (∃ m, W1 0 m H4) ∧ ∀ j k H, W1 j k H →
          (J1.stop j H ∧ Nx H) ∨ (J1.go j H ∧ ∃ Nx1 : Hp → Prop, (∀ H', Nx1 H' → ∃ k', k' < k ∧ W1 (j + 1) k' H') ∧ ∀ x H', J1.yld j H x H' → g1 x (wipe σ2 vs1) H' fun σ3 H5 => wipe σ3 vs1 = wipe σ2 vs1 ∧ tt1 σ3 H5 fun b H6 =>
            if b = true then te σ3 H6 fun y H7 => ∃ acc, H7 D = some (.lst acc) ∧ acc.length < sizeLine ∧ Nx1 (upd H7 D (.lst (acc ++ [y]))) else Nx1 H6)
        else Nx H3) := by
  refine ⟨fun i m H => m = n - i ∧ i ≤ n ∧ Pv i H, ⟨n, by simp, Nat.zero_le _, h0⟩, ?_⟩
  rintro i m H ⟨rfl, hi, p⟩
  have q := hG i H hi p
  by_cases hlt : i < n
  · exact .inr ⟨w.goes i H hlt q, Pv (i + 1), fun H' p' => ⟨n - (i + 1), by omega, rfl, hlt, p'⟩, fun x H' y => hs i x H H' hlt p (w.yields i H x H' hlt q y)⟩
  · obtain rfl : i = n := by omega
    exact .inl ⟨w.stops H q, hd H p⟩
theorem lc2_in {J1 : It} {n : Nat} {G : Hp → Prop} {Y : Nat → Hp → V → Hp → Prop} {H4 : Hp} {R : Hp → Prop} (w : Walk J1 n G Y) (Pv : Nat → Hp → Prop) (h0 : Pv 0 H4) (hG : ∀ i H, i ≤ n → Pv i H → G H)
    (hs : ∀ j x H H', j < n → Pv j H → Y j H x H' → g1 x (wipe σ2 vs1) H' fun σ3 H5 => wipe σ3 vs1 = wipe σ2 vs1 ∧ tt1 σ3 H5 fun b H6 =>
      if b = true then te σ3 H6 fun y H7 => ∃ acc, H7 D = some (.lst acc) ∧ acc.length < sizeLine ∧ Pv (j + 1) (upd H7 D (.lst (acc ++ [y]))) else Pv (j + 1) H6) (hd : ∀ H, Pv n H → R H) :
    ∃ W1 : Nat → Nat → Hp → Prop, (∃ m, W1 0 m H4) ∧ ∀ j k H, W1 j k H →
      (J1.stop j H ∧ R H) ∨ (J1.go j H ∧ ∃ Nx1 : Hp → Prop, (∀ H', Nx1 H' → ∃ k', k' < k ∧ W1 (j + 1) k' H') ∧ ∀ x H', J1.yld j H x H' → g1 x (wipe σ2 vs1) H' fun σ3 H5 => wipe σ3 vs1 = wipe σ2 vs1 ∧ tt1 σ3 H5 fun b H6 =>
        if b = true then te σ3 H6 fun y H7 => ∃ acc, H7 D = some (.lst acc) ∧ acc.length < sizeLine ∧ Nx1 (upd H7 D (.lst (acc ++ [y]))) else Nx1 H6) := by
  refine ⟨fun i m H => m = n - i ∧ i ≤ n ∧ Pv i H, ⟨n, by simp, Nat.zero_le _, h0⟩, ?_⟩
  rintro i m H ⟨rfl, hi, p⟩
  have q := hG i H hi p
  by_cases hlt : i < n
  · exact .inr ⟨w.goes i H hlt q, Pv (i + 1), fun H' p' => ⟨n - (i + 1), by omega, rfl, hlt, p'⟩, fun x H' y => hs i x H H' hlt p (w.yields i H x H' hlt q y)⟩
  · obtain rfl : i = n := by omega
    exact .inl ⟨w.stops H q, hd H p⟩
end
end MN
/-! generator bodies, by rules that let the consumer change its own things while the generator sleeps (after the pattern of the hand layer's rules for generators) -/
namespace MN
open PySem PySem.Spec PyProof.Rows L2 GenW
/-- the context with another entry -/
def reX (X : Cx) (s : Shared) (H : Hp) : Cx := { X with s_0 := s, H_0 := H }
/-- what the consumer keeps while the generator runs; ca: the addresses of its pins -/
structure GFam where
  Γ : Type
  s0 : Γ → Shared
  h0 : Γ → Hp
  cp : Γ → List (Addr × Obj)
  Φ : List V → Γ → Prop
  ca : List Addr
/-- the consumer's tracked things that may change amid a sleep; what is promised of the items so far -/
structure Amb where
  own : Addr → Prop
  pre : List V → Prop
  hp : List V → Hp → Prop
  hpL : ∀ ys H H', (∀ b, own b → H' b = H b) → hp ys H → hp ys H'
  hpO : ∀ ys H b, hp ys H → own b → H b ≠ none
theorem Amb.hpS (a : Amb) (ys : List V) (H H' : Hp) (h : Same H H') (q : a.hp ys H) : a.hp ys H' := by
  refine a.hpL ys H H' (fun b hb => ?_) q
  cases e : H b with
  | none => exact absurd e (a.hpO ys H b q hb)
  | some o => exact h b o e
def GIn (X : Cx) (F : GFam) (ip : List (Addr × Obj)) (ys : List V) (σ : L2.St) (H : Hp) (s : Shared) : Prop :=
  ∃ g : F.Γ, F.Φ ys g ∧ (F.s0 g).heap.objs.size = X.s_0.heap.objs.size ∧ ((F.cp g).map Prod.fst = F.ca ∧ ∀ p ∈ ip, X.s_0.heap.objs.size ≤ p.1 ∧ p.1 ∉ F.ca) ∧ L2.Inv (reX X (F.s0 g) (F.h0 g)) (F.cp g ++ ip) σ H s
def Wk (a : Amb) (H H' : Hp) : Prop := ∀ b o, ¬ a.own b → H b = some o → H' b = some o
theorem Wk.trans {a : Amb} {H H1 H2 : Hp} (x : Wk a H H1) (y : Wk a H1 H2) : Wk a H H2 := fun b o n e => y b o n (x b o n e)
theorem Wk.refl {a : Amb} {H : Hp} : Wk a H H := fun _ _ _ e => e
def GYn (X : Cx) (F : GFam) (a : Amb) : Protocol := fun n _ v s kap =>
  ∃ ys x ip σ H, n + 1 + ys.length = sizeLine ∧ RelV x v ∧ GIn X F ip ys σ H s ∧ a.pre (ys ++ [x]) ∧ a.hp ys H ∧ ∀ H' s', Wk a H H' → a.hp (ys ++ [x]) H' → GIn X F ip (ys ++ [x]) σ H' s' → kap (.send .none) s'
def GSPn (X : Cx) (F : GFam) (ip : List (Addr × Obj)) (D : GEnds) (ys : List V) (f : Flow) (s : Shared) : Prop :=
  match f with
  | .next => ∃ σ H, GIn X F ip ys σ H s ∧ D.nx ys σ H
  | .brk => ∃ σ H, GIn X F ip ys σ H s ∧ D.bk ys σ H
  | .cont => ∃ σ H, GIn X F ip ys σ H s ∧ D.ct ys σ H
  | .ret u => ∃ v σ H, GIn X F ip ys σ H s ∧ RelV v u ∧ D.rt ys v H
structure GCn (X : Cx) (A : Around) (c : Code) (fs : List Frame) (gd : Bool → Bool) : Prop where
  over : A.over c fs = X.A
  split : splitAtGen fs = none
  guard : fs.any Frame.guarded = false
  gd : gd false = false
def GKn (X : Cx) (F : GFam) (ip : List (Addr × Obj)) (a : Amb) (A : Around) (R : GenEnd) (c : Code) (fs : List Frame) (K : Flow → Sem PySem.Fin) (D : GEnds) : Prop :=
  ∀ (n : Nat) (ys : List V) (s₀ s : Shared) (f : Flow), n + ys.length = sizeLine → GSPn X F ip D ys f s → Seg (model X.prog X.w) A R (GYn X F a) n s₀ c (K f) fs s
abbrev TGm := Amb → GEnds → List V → L2.St → Hp → Prop
structure GSn (X : Cx) (st : Stmt) (t : TGm) : Prop where
  run : ∀ (F : GFam) (a : Amb) (A : Around) (ip : List (Addr × Obj)) (R : GenEnd) (n : Nat) (ys : List V) (s₀ : Shared) (c : Code) (fs : List Frame) (K : Flow → Sem PySem.Fin) (J : Value → Sem PySem.Fin) (gd : Bool → Bool) (lv : List Value → List Value) (s : Shared) (σ : L2.St) (H : Hp) (D : GEnds),
    GCn X A c fs gd → n + ys.length = sizeLine → GKn X F ip a A R c fs K D → GIn X F ip ys σ H s → t a D ys σ H →
    Seg (model X.prog X.w) A R (GYn X F a) n s₀ c ((exec st X.env).wrap K J gd lv) fs s
structure GSsn (X : Cx) (st : List Stmt) (t : TGm) : Prop where
  run : ∀ (F : GFam) (a : Amb) (A : Around) (ip : List (Addr × Obj)) (R : GenEnd) (n : Nat) (ys : List V) (s₀ : Shared) (c : Code) (fs : List Frame) (K : Flow → Sem PySem.Fin) (J : Value → Sem PySem.Fin) (gd : Bool → Bool) (lv : List Value → List Value) (s : Shared) (σ : L2.St) (H : Hp) (D : GEnds),
    GCn X A c fs gd → n + ys.length = sizeLine → GKn X F ip a A R c fs K D → GIn X F ip ys σ H s → t a D ys σ H →
    Seg (model X.prog X.w) A R (GYn X F a) n s₀ c ((execs st X.env).wrap K J gd lv) fs s
section
variable {X : Cx} {st : Stmt} {rest : List Stmt}
theorem no_xe (hx : X.xe = fun _ _ => False) {s0 : Shared} {h0 : Hp} {e : Value} {s : Shared} (q : (reX X s0 h0).xe e s) : False := by
  have q' : X.xe e s := q
  rw [hx] at q'
  exact q'
/-- a statement that hands out nothing -/
def tPl (t : Shared → Hp → TS) : TGm := fun _ D ys σ H => ∀ s0 h0, t s0 h0 (D.at ys) σ H
theorem gsn_ps {t : Shared → Hp → TS} (hx : X.xe = fun _ _ => False) (h : ∀ s0 h0, PS (reX X s0 h0) st (t s0 h0)) : GSn X st (tPl t) := by
  refine ⟨fun F a A ip R n ys s₀ c fs K J gd lv s σ H D g hn k hI ht => ?_⟩
  obtain ⟨γ, φ, z1, z2, I⟩ := hI
  refine seg_wrap ?_
  rw [g.over]
  refine wpAny_mono ((h (F.s0 γ) (F.h0 γ)).run _ s σ H (D.at ys) I (ht _ _)) (fun f s' hs => k n ys s₀ s' f hn ?_) fun x s' hq => (no_xe hx hq).elim
  cases f with
  | next => obtain ⟨σ', H', I', q⟩ := hs; exact ⟨σ', H', ⟨γ, φ, z1, z2, I'⟩, q⟩
  | brk => obtain ⟨σ', H', I', q⟩ := hs; exact ⟨σ', H', ⟨γ, φ, z1, z2, I'⟩, q⟩
  | cont => obtain ⟨σ', H', I', q⟩ := hs; exact ⟨σ', H', ⟨γ, φ, z1, z2, I'⟩, q⟩
  | ret u => obtain ⟨v, σ', H', I', r1, q⟩ := hs; exact ⟨v, σ', H', ⟨γ, φ, z1, z2, I'⟩, r1, q⟩
def tN0 : TGm := fun _ D ys σ H => D.nx ys σ H
theorem gsn_nil : GSsn X [] tN0 :=
  ⟨fun F a A ip R n ys s₀ c fs K J gd lv s σ H D g hn k hI ht => seg_execs_nil (k n ys s₀ s .next hn ⟨σ, H, hI, ht⟩)⟩
def tThn (t u : TGm) : TGm := fun a D ys σ H => t a { D with nx := fun ys' σ' H' => u a D ys' σ' H' } ys σ H
theorem gsn_cons {t u : TGm} (x : GSn X st t) (y : GSsn X rest u) : GSsn X (st :: rest) (tThn t u) := by
  refine ⟨fun F a A ip R n ys s₀ c fs K J gd lv s σ H D g hn k hI ht => ?_⟩
  refine seg_execs_cons ?_
  refine x.run F a A ip R n ys s₀ c fs _ J gd lv s σ H { D with nx := fun ys' σ' H' => u a D ys' σ' H' } g hn (fun n' ys' s₀' s' f hn' hs => ?_) hI ht
  cases f with
  | next =>
    obtain ⟨σ', H', I', q⟩ := hs
    exact y.run F a A ip R n' ys' s₀' c fs K J gd lv s' σ' H' D g hn' k I' q
  | brk => exact k n' ys' s₀' s' .brk hn' hs
  | cont => exact k n' ys' s₀' s' .cont hn' hs
  | ret u => exact k n' ys' s₀' s' (.ret u) hn' hs
/-! ### yield -/
def tYld (te : Shared → Hp → TE) : TGm := fun a D ys σ H => ys.length < sizeLine ∧ ∀ s0 h0, te s0 h0 σ H fun x H1 => a.pre (ys ++ [x]) ∧ a.hp ys H1 ∧ ∀ H2, Wk a H1 H2 → a.hp (ys ++ [x]) H2 → D.nx (ys ++ [x]) σ H2
theorem gsn_yield {e : Expr} {yp pos : Pos} {te : Shared → Hp → TE} (hx : X.xe = fun _ _ => False) (he : ∀ s0 h0, PE (reX X s0 h0) e (te s0 h0)) (hco : X.env.scope.isCoroutine = false := by rfl) (hi : interactive X.env = false := by rfl) : GSn X (.Expr (.Yield (some e) yp) pos) (tYld te) := by
  refine ⟨fun F a A ip R n ys s₀ c fs K J gd lv s σ H D g hn k hI ht => ?_⟩
  obtain ⟨hlt, ht⟩ := ht
  obtain ⟨n, rfl⟩ : ∃ m, n = m + 1 := ⟨n - 1, by omega⟩
  obtain ⟨γ, φ, z1, z2, I⟩ := hI
  refine seg_Expr_Yield g.split g.gd g.guard ?_ hco hi
  rw [g.over]
  refine wpAny_mono ((he (F.s0 γ) (F.h0 γ)).run _ s σ H _ I (ht _ _)) (fun v s' hv => ?_) fun x s' hq => (no_xe hx hq).elim
  obtain ⟨x, H1, I1, rv, hp, hh, q⟩ := hv
  intro kap hk
  refine ⟨ys, x, ip, σ, H1, hn, rv, ⟨γ, φ, z1, z2, I1⟩, hp, hh, fun H' s'' hw hv hG => hk .none s'' ?_⟩
  refine k n (ys ++ [x]) s'' s'' .next ?_ ⟨σ, H', hG, q H' hw hv⟩
  rw [List.length_append, List.length_singleton]; omega
end
/-! ### for -/
section
variable {prog : Program} {w : World} {A : Around} {R : GenEnd} {Y : Protocol} {n : Nat} {s₀ : Shared} {fs : List Frame} {s : Shared} {env : Env}
theorem seg_forLoop {tg : Expr} {it : Value} {body : List Stmt}
    (h : wpAny (model prog w) (A.over (.forLoop tg it body [] env) fs) (pyNext it) (fun r s' => match r with
      | none => Seg (model prog w) A R Y n s₀ (.forLoop tg it body [] env) (.pure (.again (.block [] env))) fs s'
      | some v => wpAny (model prog w) (A.over (.forLoop tg it body [] env) fs) (letOwnedTupleGo tg it v) (fun _ s1 =>
          wpAny (model prog w) (A.over (.forLoop tg it body [] env) fs) (assign tg env v) (fun _ s2 => ∀ J, Seg (model prog w) A R Y n s₀ (.forLoop tg it body [] env) ((execs body env).wrap (fun f => match f with
            | .next | .cont => .pure (.again (.forLoop tg it body [] env))
            | .brk => .pure (.done .next)
            | .ret v => .pure (.done (.ret v))) J id id) fs s2) (fun _ _ => False) s1) (fun _ _ => False) s') (fun _ _ => False) s) :
    Seg (model prog w) A R Y n s₀ (.forLoop tg it body [] env) ((model prog w).den (.forLoop tg it body [] env)) fs s := by
  show Seg _ A R Y n s₀ _ ((forTurn tg it body [] env).onRaise (fun x => do noteFrame x env; theTreesLotGoes x)) fs s
  unfold forTurn
  rw [Sem.onRaise_eq_wrap]
  refine seg_bind_wrap (wpAny_standAt ?_)
  refine seg_bind_wrap (wpAny_onRaise (wpAny_mono h (fun r s1 h1 => ?_) fun _ _ z => z.elim))
  cases r with
  | none => exact h1
  | some v =>
    refine seg_bind_wrap (wpAny_mono h1 (fun _ s2 h2 => ?_) fun _ _ z => z.elim)
    refine seg_bind_wrap (wpAny_mono h2 (fun _ s3 h3 => ?_) fun _ _ z => z.elim)
    rw [Sem.bind_eq_wrap', Sem.wrap_wrap]
    rw [Sem.wrap_congr (execs body env) _ _ (K' := fun f => match f with
            | .next | .cont => .pure (.again (.forLoop tg it body [] env))
            | .brk => .pure (.done .next)
            | .ret v => .pure (.done (.ret v))) (fun f => by cases f <;> rfl) (fun _ => rfl)]
    exact h3 _
end
section
variable {X : Cx}
theorem gcn_loop {A : Around} {c c' : Code} {fs : List Frame} {gd : Bool → Bool} {k : Result → Sem PySem.Fin} {l kp : List Value} {p : Pos} (g : GCn X A c fs gd) (hw : c'.weight = 0) (hu : c'.cUnits = 0) :
    GCn X A c' (.ret k none (gd false) l c p kp :: fs) id where
  over := (over_loop hw hu).trans g.over
  split := by
    show (splitAtGen fs).map _ = none
    rw [g.split]; rfl
  guard := by
    show (gd false || fs.any Frame.guarded) = false
    rw [g.gd, g.guard]; rfl
  gd := rfl
def tForn (wi : Shared → Hp → TI) (g : Shared → Hp → TG) (tb : TGm) : TGm := fun a D ys σ H => ∀ s0 h0, wi s0 h0 σ H fun J H1 => ∃ W : Nat → Nat → List V → L2.St → Hp → Prop, (∃ m, W 0 m ys σ H1) ∧ ∀ i m ys σ H, W i m ys σ H →
  (J.stop i H ∧ D.nx ys σ H) ∨ (J.go i H ∧ ∃ N : List V → L2.St → Hp → Prop, (∀ ys' σ' H', N ys' σ' H' → ∃ m', m' < m ∧ W (i + 1) m' ys' σ' H') ∧
    ∀ x H', J.yld i H x H' → ∀ s0 h0, g s0 h0 x σ H' fun σ2 H2 => tb a { D with nx := N, ct := N, bk := D.nx } ys σ2 H2)
theorem gsn_for {tg iter : Expr} {body : List Stmt} {pos : Pos} {wi : Shared → Hp → TI} {g : Shared → Hp → TG} {tb : TGm} (hx : X.xe = fun _ _ => False) (hc : X.calm = true) (hex : X.ex = [])
    (hi : ∀ s0 h0, PI (reX X s0 h0) tg iter (wi s0 h0)) (hg : ∀ s0 h0, PG (reX X s0 h0) tg (g s0 h0)) (hb : GSsn X body tb)
    (hs : ∀ x, foldedSetIterable iter X.env x = pure x := by intro _; rfl) : GSn X (.For tg iter body [] pos) (tForn wi g tb) := by
  refine ⟨fun F a A ip R n ys s₀ c fs K J gd lv s σ H D gc hn k hI ht => ?_⟩
  obtain ⟨γ, φ, z1, ⟨z2, z3⟩, I⟩ := hI
  rw [exec_For]
  refine seg_bind_wrap (wpAny_standAt ?_)
  refine seg_bind_wrap ?_
  rw [gc.over]
  refine wpAny_mono ((hi (F.s0 γ) (F.h0 γ)).run _ s σ H _ I (ht _ _)) (fun v s1 h1 => ?_) fun _ _ q => (no_xe hx q).elim
  refine seg_bind_wrap (wpAny_of_eq (hs v) ?_)
  refine seg_bind_wrap (wpAny_standAt ?_)
  refine seg_bind_wrap (wpAny_holding ?_)
  rw [gc.over]
  refine wpAny_mono h1 (fun itv s2 h2 => ?_) fun _ _ q => (no_xe hx q).elim
  obtain ⟨it, fp, tn, Jt, H2, e, I2, T, st2, f2, W, ⟨m0, w0⟩, turn⟩ := h2
  subst e
  have stat : ∀ {γ' : F.Γ} {H' : Hp}, (F.s0 γ').heap.objs.size = X.s_0.heap.objs.size → (F.cp γ').map Prod.fst = F.ca → (∀ b ∈ fp, H' b = none) → ∀ b ∈ fp, FpOk (reX X (F.s0 γ') (F.h0 γ')) (F.cp γ' ++ ip) H' b := by
    intro γ' H' y1 y2 hn b hb
    obtain ⟨_, q2, q3, q4, q5, q6⟩ := f2 b hb
    refine ⟨hn b hb, q2, q3, q4.imp id fun z => ?_, q5, fun p hp => ?_⟩
    · have z' : (F.s0 γ).heap.objs.size ≤ b := z
      show (F.s0 γ').heap.objs.size ≤ b
      rw [y1, ← z1]; exact z'
    · rcases List.mem_append.mp hp with hp | hp
      · exact q6 p (List.mem_append_left _ hp)
      · rcases List.mem_append.mp hp with hp | hp
        · have hm : p.1 ∈ (F.cp γ).map Prod.fst := by rw [z2, ← y2]; exact List.mem_map.mpr ⟨p, hp, rfl⟩
          obtain ⟨p', hp', e'⟩ := List.mem_map.mp hm
          rw [← e']
          exact q6 p' (List.mem_append_right _ (List.mem_append_left _ hp'))
        · exact q6 p (List.mem_append_right _ (List.mem_append_right _ hp))
  have fpz : ∀ b ∈ fp, X.s_0.heap.objs.size ≤ b ∧ b ∉ F.ca := fun b hb => by
    obtain ⟨_, _, _, q4, _, q6⟩ := f2 b hb
    refine ⟨?_, fun hm => ?_⟩
    rotate_left
    · rw [← z2] at hm
      obtain ⟨p, hp, e⟩ := List.mem_map.mp hm
      exact q6 p (List.mem_append_right _ (List.mem_append_left _ hp)) e
    rcases q4 with z | z
    · have z' : b ∈ X.ex := z
      rw [hex] at z'
      cases z'
    · have z' : (F.s0 γ).heap.objs.size ≤ b := z
      rw [← z1]; exact z'
  refine seg_call fun p => ?_
  have gl := fun (kk : Result → Sem PySem.Fin) => gcn_loop (k := kk) (c' := .forLoop tg (.ref it) body [] X.env) (l := lv []) (kp := []) (p := p) gc rfl rfl
  have loop : ∀ (m n i : Nat) (ys : List V) (s₀ s : Shared) (σ : L2.St) (H : Hp), n + ys.length = sizeLine → W i m ys σ H →
      (∃ g : F.Γ, F.Φ ys g ∧ (F.s0 g).heap.objs.size = X.s_0.heap.objs.size ∧ (F.cp g).map Prod.fst = F.ca ∧ L2.Inv (reX X (F.s0 g) (F.h0 g)) (F.cp g ++ ip) σ H s ∧ tn i s.heap ∧ ∀ b ∈ fp, H b = none) →
      Seg (model X.prog X.w) A R (GYn X F a) n s₀ (.forLoop tg (.ref it) body [] X.env) ((model X.prog X.w).den (.forLoop tg (.ref it) body [] X.env))
        (.ret (fun r => ((match r with | .ok f => (.pure f : Sem Flow) | .error e => .raise e).onRaise (cameBack X.env)).wrap K J gd lv) none (gd false) (lv []) c p [] :: fs) s := by
    intro m
    induction m using Nat.strongRecOn with
    | ind m ih =>
      intro n i ys s₀ s σ H hn w ⟨γ, φ, z1, z2, I, st, fr⟩
      refine seg_forLoop ?_
      rw [(gl _).over]
      rcases turn i m ys σ H w with ⟨stop, qn⟩ | ⟨go, N, hN, step⟩
      · refine wpAny_mono (T.done (reX X (F.s0 γ) (F.h0 γ)) rfl rfl rfl hc i _ s σ H (fun _ _ => False) I (stat z1 z2 fr) st stop) (fun r s4 h4 => ?_) fun _ _ z => z
        obtain ⟨hr, I4⟩ := h4
        subst hr
        refine seg_again rfl ?_
        exact seg_leaf (.ok .next) (k n ys s₀ s4 .next hn ⟨σ, H, ⟨γ, φ, z1, ⟨z2, z3⟩, I4⟩, qn⟩)
      · refine wpAny_mono (T.item (reX X (F.s0 γ) (F.h0 γ)) rfl rfl rfl hc i _ s σ H (fun _ _ => False) I (stat z1 z2 fr) st go) (fun r s4 h4 => ?_) fun _ _ z => z
        obtain ⟨u, hr, h4⟩ := h4
        subst hr
        refine wpAny_mono h4 (fun _ s5 h5 => ?_) fun _ _ z => z
        obtain ⟨x, H5, I5, r5, y5, st5, fr5⟩ := h5
        have I5' := I5.pinned (stat z1 z2 fr5) (T.obj _ _ st5)
        refine wpAny_mono ((hg (F.s0 γ) (F.h0 γ)).run _ s5 σ H5 x u _ I5' r5 (step x H5 y5 _ _)) (fun _ s6 h6 => ?_) fun _ _ q => (no_xe hx q).elim
        obtain ⟨σ6, H6, I6, q6⟩ := h6
        intro J'
        refine hb.run F a A (ip ++ pinsAt fp s5.heap) R n ys s₀ _ _ _ J' id id s6 σ6 H6 { D with nx := N, ct := N, bk := D.nx } (gl _) hn (fun n' ys' s₀' s7 f hn' hs => ?_) ⟨γ, φ, z1, ⟨z2, fun p hp => (List.mem_append.mp hp).elim (z3 p) fun z => fpz p.1 (of_pinsAt z).1⟩, by rw [← List.append_assoc]; exact I6⟩ q6
        have un : ∀ {γ7 : F.Γ} {σ7 : L2.St} {H7 : Hp}, L2.Inv (reX X (F.s0 γ7) (F.h0 γ7)) (F.cp γ7 ++ (ip ++ pinsAt fp s5.heap)) σ7 H7 s7 → L2.Inv (reX X (F.s0 γ7) (F.h0 γ7)) (F.cp γ7 ++ ip ++ pinsAt fp s5.heap) σ7 H7 s7 := fun q => by
          rw [List.append_assoc]; exact q
        have again : ∀ {σ7 : L2.St} {H7 : Hp}, GIn X F (ip ++ pinsAt fp s5.heap) ys' σ7 H7 s7 → N ys' σ7 H7 → Seg (model X.prog X.w) A R (GYn X F a) n' s₀' (.forLoop tg (.ref it) body [] X.env) (.pure (.again (.forLoop tg (.ref it) body [] X.env)))
            (.ret (fun r => ((match r with | .ok f => (.pure f : Sem Flow) | .error e => .raise e).onRaise (cameBack X.env)).wrap K J gd lv) none (gd false) (lv []) c p [] :: fs) s7 := by
          intro σ7 H7 ⟨γ7, φ7, y1, ⟨y2, _⟩, I7⟩ n7
          have I7' := un I7
          obtain ⟨m', hm, w7⟩ := hN ys' σ7 H7 n7
          refine seg_again rfl (ih m' hm n' (i + 1) ys' s₀' s7 σ7 H7 hn' w7 ⟨γ7, φ7, y1, y2, I7'.unpinned, T.keep _ _ _ st5 fun b hb o e => (I7'.pin (b, o) (List.mem_append_right _ (List.mem_append_right _ (mem_pinsAt hb e)))).1, fun b hb => ?_⟩)
          obtain ⟨o, e, d⟩ := T.obj _ _ st5 b hb
          exact (I7'.pin (b, o) (List.mem_append_right _ (List.mem_append_right _ (mem_pinsAt hb e)))).2.1
        cases f with
        | next => obtain ⟨σ7, H7, I7, n7⟩ := hs; exact again I7 n7
        | cont => obtain ⟨σ7, H7, I7, n7⟩ := hs; exact again I7 n7
        | brk =>
          obtain ⟨σ7, H7, ⟨γ7, φ7, y1, ⟨y2, _⟩, I7⟩, q7⟩ := hs
          exact seg_leaf (.ok .next) (k n' ys' s₀' s7 .next hn' ⟨σ7, H7, ⟨γ7, φ7, y1, ⟨y2, z3⟩, (un I7).unpinned⟩, q7⟩)
        | ret v =>
          obtain ⟨x7, σ7, H7, ⟨γ7, φ7, y1, ⟨y2, _⟩, I7⟩, r7, q7⟩ := hs
          exact seg_leaf (.ok (.ret v)) (k n' ys' s₀' s7 (.ret v) hn' ⟨x7, σ7, H7, ⟨γ7, φ7, y1, ⟨y2, z3⟩, (un I7).unpinned⟩, r7, q7⟩)
  exact loop m0 n 0 ys s₀ s2 σ H2 hn w0 ⟨γ, φ, z1, z2, I2, st2, fun b hb => (f2 b hb).1⟩
end
end MN
/-! yield from a list -/
namespace MN
open PySem PySem.Spec PyProof.Rows L2 GenW
section
variable {prog : Program} {w : World} {A : Around} {E : Value → Shared → Prop} {s : Shared}
theorem special_list_item {it t : Addr} {i : Nat} {items : Array Value} {x : Value} {Q : Option Value → Shared → Prop} (hit : s.heap.IsListIter it t i) (ht : s.heap.IsList t items) (hx : items[i]? = some x)
    (hQ : ∀ h', h'.IsListIter it t (i + 1) → Heap.SameBut it s.heap h' → Q (some x) { s with heap := h' }) : wpAny (model prog w) A (callSpecial? (.ref it) "__next__") Q E s := by
  obtain ⟨o, ho, hc, hd⟩ := id hit
  obtain ⟨ol, hol, _, nl, hdl⟩ := ht
  refine wpAny_callSpecial?_slot (name := Str.ofString "__next__") hit.typeIs slot_listiter_next (wpAny_call_entry slot_listiter_next hit.typeIs entry_listiter_next ?_ (args_listiter_next _))
  show wpAny _ _ (field (.ref it) 0 >>= _) _ _ s
  refine wpAny_bind (wpAny_field ho hd (x := .ref t) rfl ?_)
  show wpAny _ _ (if (Value.ref t == Value.none) = true then _ else _) _ _ s
  rw [if_neg (show ¬ ((Value.ref t == Value.none) = true) from Bool.false_ne_true)]
  show wpAny _ _ (field (.ref it) 1 >>= _) _ _ s
  refine wpAny_bind (wpAny_field ho hd (x := .int i 0) rfl ?_)
  show wpAny _ _ (seqItems? (.ref t) >>= _) _ _ s
  refine wpAny_bind (wpAny_seqItems hol hdl ?_)
  simp only [Int.toNat_natCast, hx]
  refine wpAny_bind (wpAny_setField ho hd (by simp) (wpAny_pure ⟨x, rfl, hQ _ ?_ (Heap.SameBut.update ..)⟩))
  exact ⟨_, Heap.get?_update_self _ ho (Obj.isFreed_of_fields (Obj.data_mapFields hd _)), (Obj.cls_mapFields ..).trans hc, by
    rw [Obj.data_mapFields hd]; simp [rawInt]⟩
theorem special_list_end {it t : Addr} {i : Nat} {items : Array Value} {Q : Option Value → Shared → Prop} (hh : A.handled = none) (hit : s.heap.IsListIter it t i) (ht : s.heap.IsList t items) (hx : items[i]? = none)
    (hE : ∀ e h', StopX e h' → Heap.ExtBut it s.heap h' → E e { s with heap := h' }) : wpAny (model prog w) A (callSpecial? (.ref it) "__next__") Q E s := by
  obtain ⟨o, ho, hc, hd⟩ := id hit
  obtain ⟨ol, hol, _, nl, hdl⟩ := ht
  refine wpAny_callSpecial?_slot (name := Str.ofString "__next__") hit.typeIs slot_listiter_next (wpAny_call_entry slot_listiter_next hit.typeIs entry_listiter_next ?_ (args_listiter_next _))
  show wpAny _ _ (field (.ref it) 0 >>= _) _ _ s
  refine wpAny_bind (wpAny_field ho hd (x := .ref t) rfl ?_)
  show wpAny _ _ (if (Value.ref t == Value.none) = true then _ else _) _ _ s
  rw [if_neg (show ¬ ((Value.ref t == Value.none) = true) from Bool.false_ne_true)]
  show wpAny _ _ (field (.ref it) 1 >>= _) _ _ s
  refine wpAny_bind (wpAny_field ho hd (x := .int i 0) rfl ?_)
  show wpAny _ _ (seqItems? (.ref t) >>= _) _ _ s
  refine wpAny_bind (wpAny_seqItems hol hdl ?_)
  simp only [Int.toNat_natCast, hx]
  refine wpAny_bind (wpAny_rule (wpAny_bind (wpAny_setField ho hd (by simp) ?_)))
  show wpAny _ _ (newExc (.type "StopIteration") [] >>= _) _ _ _
  refine wpAny_bind ?_
  simp only [newExc, newTuple]
  refine wpAny_bind (wpAny_newObj_type ?_ (by size_fits))
  refine wpAny_bind (m := firstArgMember _ _) (wpAny_of_eq (a := Value.none) (by first | rfl | (simp only [firstArgMember]; rfl)) ?_)
  refine wpAny_newObj_type ?_ (by size_fits)
  simp only [raiseNew]
  refine wpAny_bind (wpAny_handled ?_)
  first | rw [show A.in1.handled = none from hh] | rw [hh]
  refine wpAny_bind (wpAny_pure (wpAny_throw ?_))
  refine hE _ _ ⟨_, _, _, rfl, Heap.get?_push_size _ rfl, rfl, rfl, ?_⟩ (((Heap.SameBut.update ..).extBut.push _).push _)
  first
    | rfl
    | (rw [Array.getElem?_append_left (by decide)]; rfl)
    | kernel_rfl
theorem close_list : typeLookup (.type "list_iterator") "close" = pure none := by rw [typeLookup_type, builtinLookup_eq_fast]; kernel_rfl
end
section
variable {X : Cx}
/-- where the list's iterator stands -/
structure YSt (X : Cx) (F : GFam) (ip : List (Addr × Obj)) (it : Addr) : Prop where
  loc : it ≠ X.env.locals
  fs : it ∉ X.fs
  sz : X.s_0.heap.objs.size ≤ it
  cell : ∀ x c, X.env.cells.lookup x = some c → c ≠ it
  pin : ∀ p ∈ X.pn ++ ip, p.1 ≠ it
  ca : it ∉ F.ca
theorem YSt.fp {F : GFam} {ip : List (Addr × Obj)} {it : Addr} (q : YSt X F ip it) {γ : F.Γ} {H : Hp} (y1 : (F.s0 γ).heap.objs.size = X.s_0.heap.objs.size) (y2 : (F.cp γ).map Prod.fst = F.ca) (hn : H it = none) :
    FpOk (reX X (F.s0 γ) (F.h0 γ)) (F.cp γ ++ ip) H it := by
  refine ⟨hn, q.loc, q.fs, .inr ?_, q.cell, fun p hp => ?_⟩
  · show (F.s0 γ).heap.objs.size ≤ it
    rw [y1]; exact q.sz
  · rcases List.mem_append.mp hp with hp | hp
    · exact q.pin p (List.mem_append_left _ hp)
    · rcases List.mem_append.mp hp with hp | hp
      · intro e
        exact q.ca (by rw [← e, ← y2]; exact List.mem_map.mpr ⟨p, hp, rfl⟩)
      · exact q.pin p (List.mem_append_right _ hp)
theorem list_at {pins : List (Addr × Obj)} {σ : L2.St} {H : Hp} {s : Shared} {t : Addr} {xs : List V} (I : L2.Inv X pins σ H s) (h : H t = some (.lst xs)) : ∃ its : List Value, Vals xs its ∧ s.heap.IsList t its.toArray := by
  obtain ⟨_, its, n, r, e⟩ := I.hok t _ h
  exact ⟨its, r, _, e, rfl, n, rfl⟩
/-- the turns of «yield from» over the list at t -/
theorem seg_yfn {F : GFam} {a : Amb} {ip : List (Addr × Obj)} {A : Around} {R : GenEnd} {fs : List Frame} {it t : Addr} {xs ys : List V} {σ : L2.St} {H1 : Hp} (q : YSt X F ip it) (ht : H1 t = some (.lst xs)) (hto : ¬ a.own t)
    (ho : (A.over (.builtin "proto.yield_from" ⟨[.ref it, .bool false, .none], []⟩) fs).handled = none) (hsp : splitAtGen fs = none) (hgd : fs.any Frame.guarded = false) (hle : ys.length + xs.length ≤ sizeLine)
    (hpre : ∀ j, j < xs.length → a.pre (ys ++ xs.take (j + 1)))
    (hend : ∀ (n : Nat) (s₀ s : Shared) (H : Hp), n + (ys ++ xs).length = sizeLine → Wk a H1 H → a.hp (ys ++ xs) H → GIn X F ip (ys ++ xs) σ H s → Seg (model X.prog X.w) A R (GYn X F a) n s₀ (.builtin "proto.yield_from" ⟨[.ref it, .bool false, .none], []⟩) (.pure (.done (.ret .none))) fs s) :
    ∀ (r j n : Nat) (s₀ s : Shared) (H : Hp), j + r = xs.length → n + (ys.length + j) = sizeLine → Wk a H1 H → a.hp (ys ++ xs.take j) H → H it = none → GIn X F ip (ys ++ xs.take j) σ H s → s.heap.IsListIter it t j →
      Seg (model X.prog X.w) A R (GYn X F a) n s₀ (.builtin "proto.yield_from" ⟨[.ref it, .bool false, .none], []⟩) ((model X.prog X.w).den (.builtin "proto.yield_from" ⟨[.ref it, .bool false, .none], []⟩)) fs s := by
  have turned : ∀ {zs : List V} {s : Shared} {h' : Heap} {tk : Nat} {H : Hp}, H it = none → GIn X F ip zs σ H s → (∀ b o, b ≠ it → s.heap.get? b = some o → h'.get? b = some o) → GIn X F ip zs σ H { s with heap := h', toks := tk } := by
    intro zs s h' tk H hn ⟨γ, φ, y1, y2, I⟩ hk
    exact ⟨γ, φ, y1, y2, I.turnedL (ch := [it]) (fun b o hb e => hk b o (fun z => hb (List.mem_singleton.mpr z)) e) fun b hb => by rw [List.mem_singleton.mp hb]; exact q.fp y1 y2.1 hn⟩
  intro r
  induction r with
  | zero =>
    intro j n s₀ s H hj hn hw hv hit hI hst
    have hj' : j = xs.length := by omega
    subst hj'
    rw [List.take_length] at hI hv
    obtain ⟨γ, φ, y1, y2, I⟩ := id hI
    obtain ⟨its, rits, hl⟩ := list_at I (hw t _ hto ht)
    have hnone : its.toArray[xs.length]? = none := by
      have e := rits.length
      have e2 : its[xs.length]? = none := List.getElem?_eq_none_iff.mpr (by omega)
      simpa using e2
    rw [den_yf]
    unfold Builtin.«proto.yield_from»
    try dsimp only
    refine seg_bind (wpAny_pure ?_)
    try dsimp only
    refine seg_bind (wpAny_attempt (wpAny_holding ?_))
    rw [if_neg Bool.false_ne_true, if_pos (show (Value.none == Value.none) = true from rfl)]
    refine wpAny_bind (wpAny_rule (wpAny_bind ?_))
    refine special_list_end ho hst hl hnone fun e h' hS hk => ?_
    obtain ⟨a', o, vs, rfl, hoa, hcls, hdat, h5⟩ := hS
    try dsimp only
    refine seg_bind (wpAny_endsTurn hoa hcls ?_)
    try dsimp only
    rw [if_pos rfl]
    first
      | refine seg_bind (wpAny_rule ?_)
      | (rw [if_neg Bool.false_ne_true]; refine seg_bind (wpAny_rule ?_))
      | (rw [if_neg Bool.false_ne_true]; refine seg_bind (wpAny_pure ?_); refine seg_bind (wpAny_rule ?_))
    refine seg_bind (wpAny_field hoa hdat h5 ?_)
    exact hend n s₀ _ H (by rw [List.length_append]; exact hn) hw hv (turned (tk := s.toks) hit hI fun b o hb e => hk b o hb e)
  | succ r ih =>
    intro j n s₀ s H hj hn hw hv hit hI hst
    have hjl : j < xs.length := by omega
    obtain ⟨x, hx⟩ : ∃ x, xs[j]? = some x := ⟨xs[j], List.getElem?_eq_getElem hjl⟩
    obtain ⟨n, rfl⟩ : ∃ m, n = m + 1 := ⟨n - 1, by omega⟩
    have htl : (xs.take j).length = j := by rw [List.length_take]; omega
    obtain ⟨γ, φ, y1, y2, I⟩ := id hI
    obtain ⟨its, rits, hl⟩ := list_at I (hw t _ hto ht)
    obtain ⟨u, hu, ru⟩ := rits.get hx
    rw [den_yf]
    unfold Builtin.«proto.yield_from»
    try dsimp only
    refine seg_bind (wpAny_pure ?_)
    try dsimp only
    refine seg_bind (wpAny_attempt (wpAny_holding ?_))
    rw [if_neg Bool.false_ne_true, if_pos (show (Value.none == Value.none) = true from rfl)]
    refine wpAny_bind (wpAny_rule (wpAny_bind ?_))
    refine special_list_item hst hl (x := u) (by simpa using hu) fun h' hst' hs => ?_
    have hI' : GIn X F ip (ys ++ xs.take j) σ H { s with heap := h' } := turned (tk := s.toks) hit hI fun b o hb e => hs.extBut b o hb e
    obtain ⟨oi, hoi, hoc, hod⟩ := id hst'
    have hng : (Value.type "list_iterator" != Value.type "generator") = true := by decide
    refine wpAny_pure ?_
    try dsimp only
    refine seg_bind (wpAny_typeOf (T := "list_iterator") ⟨oi, hoi, hoc⟩ ?_)
    try dsimp only
    first
      | (refine seg_bind (wpAny_of_eq close_list ?_); refine seg_bind (wpAny_pure ?_))
      | refine seg_bind (wpAny_bind (wpAny_of_eq close_list (wpAny_pure ?_)))
      | refine seg_bind (wpAny_of_eq close_list ?_)
    try dsimp only
    refine seg_bind (wpAny_sleptOver hoi hoc hng ?_)
    refine seg_yield hsp rfl hgd ?_
    have etk : ys ++ xs.take j ++ [x] = ys ++ xs.take (j + 1) := by
      rw [List.append_assoc, List.take_add_one, hx]; rfl
    have pinned : GIn X F (ip ++ [(it, oi)]) (ys ++ xs.take j) σ H { s with heap := h' } := by
      obtain ⟨γ, φ, y1, ⟨y2, y3⟩, I'⟩ := hI'
      refine ⟨γ, φ, y1, ⟨y2, fun p hp => (List.mem_append.mp hp).elim (y3 p) fun z => by rw [List.mem_singleton.mp z]; exact ⟨q.sz, q.ca⟩⟩, I'.pins_of fun p hp => ?_⟩
      rw [← List.append_assoc] at hp
      rcases List.mem_append.mp hp with hp | hp
      · exact I'.pin p (List.mem_append_right _ hp)
      · rw [List.mem_singleton.mp hp]
        exact ⟨hoi, hit, q.loc, q.fs, fun v z => by rw [hod] at z; cases z⟩
    refine ⟨ys ++ xs.take j, x, ip ++ [(it, oi)], σ, H, ?_, ru, pinned, ?_, hv, fun H' s'' hw2 hv2 hG => ?_⟩
    · rw [List.length_append, htl]; exact hn
    · rw [etk]; exact hpre j hjl
    rw [etk] at hG hv2
    obtain ⟨γ2, φ2, v1, ⟨v2, v3⟩, I2⟩ := hG
    rw [← List.append_assoc] at I2
    obtain ⟨p1, p2, _⟩ := I2.pin (it, oi) (List.mem_append_right _ (List.mem_append_right _ (List.mem_singleton.mpr rfl)))
    show Seg _ _ _ _ n s'' _ (Builtin.Generator.sleptOver (.ref it) false >>= fun _ => _) fs s''
    refine seg_bind (wpAny_sleptOver p1 hoc hng ?_)
    try dsimp only
    refine seg_bind (wpAny_pure ?_)
    exact seg_again (plainId_quiet plain_yf _) (ih (j + 1) n s'' s'' H' (by omega) (by omega) (hw.trans hw2) hv2 p2 ⟨γ2, φ2, v1, ⟨v2, fun p hp => v3 p (List.mem_append_left _ hp)⟩, I2.unpinned⟩ ⟨oi, p1, hoc, hod⟩)
def tYfl (te : Shared → Hp → TE) : TGm := fun a D ys σ H => ∀ s0 h0, te s0 h0 σ H fun x H1 => ∃ t xs, x = .ref t ∧ H1 t = some (.lst xs) ∧ ¬ a.own t ∧ a.hp ys H1 ∧ ys.length + xs.length ≤ sizeLine ∧
  (∀ j, j < xs.length → a.pre (ys ++ xs.take (j + 1))) ∧ ∀ H2, Wk a H1 H2 → a.hp (ys ++ xs) H2 → D.nx (ys ++ xs) σ H2
theorem gsn_yieldFrom {e : Expr} {yp pos : Pos} {te : Shared → Hp → TE} (hx : X.xe = fun _ _ => False) (he : ∀ s0 h0, PE (reX X s0 h0) e (te s0 h0)) (hc : X.A.handled = none) (hi : interactive X.env = false := by rfl) :
    GSn X (.Expr (.YieldFrom e yp) pos) (tYfl te) := by
  refine ⟨fun F a A ip R n ys s₀ c fs K J gd lv s σ H D g hn k hI ht => ?_⟩
  rw [exec_Expr X.env _ pos hi rfl]
  show Seg _ _ _ _ n s₀ c (.at pos fun _ => ((eval e X.env >>= fun v => (standAt yp >>= fun _ => yieldFrom X.env v)) >>= fun x => dropValue (.YieldFrom e yp) pos x).wrap K J gd lv) fs s
  refine seg_at ?_
  obtain ⟨γ, φ, y1, ⟨y2, y3⟩, I⟩ := hI
  refine segw_bind2 ?_
  rw [g.over]
  refine wpAny_mono ((he (F.s0 γ) (F.h0 γ)).run _ s σ H _ I (ht _ _)) (fun v s1 hv => ?_) fun x s' hq => (no_xe hx hq).elim
  obtain ⟨x, H1, I1, rv, t, xs, ex, hT, hto, hown, hle, hpre, hq⟩ := hv
  subst ex
  obtain rfl : v = Value.ref t := rv
  obtain ⟨its, rits, hl⟩ := list_at I1 hT
  refine seg_at ?_
  show Seg _ _ _ _ n s₀ c ((yieldFrom X.env (.ref t)).wrap (fun b => (dropValue (.YieldFrom e yp) pos b).wrap K J gd lv) J gd lv) fs s1
  unfold yieldFrom
  refine seg_bind_wrap (wpAny_typeOf hl.typeIs ?_)
  rw [if_neg (by decide)]
  refine seg_bind_wrap (wpAny_holding ?_)
  rw [g.over]
  refine wpAny_pyIter_list hl ?_
  have ksz : ∀ b o, s1.heap.get? b = some o → b ≠ s1.heap.objs.size := fun b o e => Nat.ne_of_lt (Heap.lt_size e)
  have kp : ∀ b o, s1.heap.get? b = some o → (s1.heap.push { cls := .type "list_iterator", data := .fields #[.ref t, .int 0 0] }).get? b = some o := fun b o e => Heap.get?_push_of_some _ e
  refine seg_call fun p => ?_
  have fr : H1 s1.heap.objs.size = none := I1.hok.fresh (Nat.le_refl _)
  have hst : YSt X F ip s1.heap.objs.size := by
    refine ⟨Nat.ne_of_gt I1.lt, I1.nofs (Nat.le_refl _), ?_, fun y c hy => ?_, fun p hp => ?_, fun hm => ?_⟩
    · have z : (F.s0 γ).heap.objs.size ≤ s1.heap.objs.size := I1.sz
      rw [← y1]; exact z
    · obtain ⟨v, o, ho, _⟩ := I1.cell y c hy
      exact ksz c o ho
    · rcases List.mem_append.mp hp with hp | hp
      · exact ksz p.1 _ (I1.pin p (List.mem_append_left _ hp)).1
      · exact ksz p.1 _ (I1.pin p (List.mem_append_right _ (List.mem_append_right _ hp))).1
    · rw [← y2] at hm
      obtain ⟨p, hp, e⟩ := List.mem_map.mp hm
      exact ksz p.1 _ (I1.pin p (List.mem_append_right _ (List.mem_append_left _ hp))).1 e
  refine seg_yfn (xs := xs) (ys := ys) (σ := σ) (H1 := H1) hst hT hto ?_ ?_ ?_ hle hpre (fun n' s₀' s' H' hn' hw' hv' hG => ?_) xs.length 0 n s₀ _ H1 (Nat.zero_add _) hn .refl ?_ fr ⟨γ, ?_, y1, ⟨y2, y3⟩, ?_⟩ ⟨_, Heap.get?_push_size _ rfl, rfl, rfl⟩
  · show (A.over c fs).handled = none
    rw [g.over]; exact hc
  · show (splitAtGen fs).map _ = none
    rw [g.split]; rfl
  · show (gd false || fs.any Frame.guarded) = false
    rw [g.gd, g.guard]; rfl
  · exact seg_leaf (.ok (.ret .none)) (k n' (ys ++ xs) s₀' s' .next hn' ⟨σ, H', hG, hq H' hw' hv'⟩)
  · rw [List.take_zero, List.append_nil]; exact hown
  · rw [List.take_zero, List.append_nil]; exact φ
  · exact I1.kept (t' := s1.toks) kp
end
end MN
/-! generator defs called; list(g) -/
namespace MN
open PySem PySem.Spec PyProof.Rows L2 GenW
/-- the context of a generator def's body -/
def gcx (P : Program) (w : World) (K : PySem.W.Frag) (mg : Str → Option Value) (base : Heap) (N : List Str) (qual : Str) (scope : Scope) (f : Addr) (cd : Value) (A : Around) (outer : List Env) (s : Shared) (H : Hp) (pn : List (Addr × Obj)) : Cx :=
  { (cxOf CX0 P w K mg base N qual scope f cd A outer s H E0).nox with pn := pn }
def REn (X : Cx) (F : GFam) (Q : List V → Hp → Prop) : GenEnd := fun n _ r s =>
  ((r = .ok (.ret .none) ∨ r = .ok .next) ∧ ∃ ys ip σ H, n + ys.length = sizeLine ∧ GIn X F ip ys σ H s ∧ Q ys H) ∨ ∃ e, r = .error e ∧ False
/-- a generator that has not begun, made at s, H -/
def GMadeN (P : Program) (w : World) (K : PySem.W.Frag) (mg : Str → Option Value) (base : Heap) (k : Nat) (outer : List Env) (H : Hp) (s : Shared) (W : Amb → Hp → (List V → Hp → Prop) → Prop) (u : Value) (s' : Shared) : Prop :=
  ∃ (a : Addr) (g : Nat) (go : Obj) (c : Code) (N : List Str) (qual : Str) (scope : Scope) (f : Addr) (cd : Value) (σ0 : L2.St), u = .ref a ∧ s.heap.objs.size < a ∧ a < s'.heap.objs.size ∧ (∀ h : Heap, h.get? a = some go → h.IsGen a g) ∧
    s'.gens[g]? = some (.fresh c) ∧ s'.os = s.os ∧ AllBare s'.gens ∧ s'.heap.NoLimit ∧ (∀ b o, s.heap.get? b = some o → s'.heap.get? b = some o) ∧
    (∀ A : Around, A.handled = none → A.frames = some outer → L2.Inv (gcx P w K mg base N qual scope f cd A outer s H [(a, go)]) [] σ0 H s') ∧
    ∀ (F : GFam) (am : Amb) (A : Around) (s2 : Shared) (H2 : Hp) (Q : List V → Hp → Prop), Room k A → A.frames = some outer → GIn (gcx P w K mg base N qual scope f cd A outer s H [(a, go)]) F [] [] σ0 H2 s2 → W am H2 Q →
      Seg (model P w) A (REn (gcx P w K mg base N qual scope f cd A outer s H [(a, go)]) F Q) (GYn (gcx P w K mg base N qual scope f cd A outer s H [(a, go)]) F am) sizeLine s2 c ((model P w).den c) [] s2
abbrev SpM := List V → Amb → Hp → (List V → Hp → Prop) → Prop
structure GFnN (P : Program) (w : World) (K : PySem.W.Frag) (mg : Str → Option Value) (base : Heap) (k : Nat) (f : Addr) (fd : FuncData) (ps : List Str) (sp : SpM) : Prop where
  run : ∀ (A : Around) (outer : List Env) (s : Shared) (H : Hp) (args : Args) (us : List Value) (vs : List V), Room k A → Env0 P w K mg base A outer s H → BindsTo s fd args (ps.zip us) → Vals vs us → vs.length = ps.length →
    codeAny (model P w) A (.call (.ref f) args) (fun r s' => match r with | .ok (.ret u) => GMadeN P w K mg base k outer H s (sp vs) u s' | _ => False) s
theorem inv_gcx {P : Program} {w : World} {K : PySem.W.Frag} {mg : Str → Option Value} {base : Heap} {N : List Str} {qual : Str} {scope : Scope} {f : Addr} {cd : Value} {A : Around} {outer : List Env} {s s1 : Shared} {H H' : Hp} {E : XK} {pn : List (Addr × Obj)} {σ : L2.St}
    (I : L2.Inv (gcxOf P w K mg base N qual scope f cd A outer s H E []) [] σ H' s1)
    (h : ∀ p ∈ pn, s1.heap.get? p.1 = some p.2 ∧ H' p.1 = none ∧ p.1 ≠ (envOfC qual scope s.heap.objs.size f cd).locals ∧ p.1 ∉ frs outer ∧ ∀ v, p.2.data ≠ .cell v) :
    L2.Inv (gcx P w K mg base N qual scope f cd A outer s H pn) [] σ H' s1 :=
  ⟨⟨I.ok.mod, I.ok.kind, I.ok.glob, I.ok.blt, I.ok.above, I.ok.inj, I.ok.has, I.ok.cab, I.ok.hd, I.ok.frames, I.ok.stk, I.ok.exf, I.ok.bs, I.ok.bsz, I.ok.noex, I.ok.exfs, I.ok.funs, I.ok.frf⟩, I.os, I.bare, I.base, I.loc, I.cell, I.free, I.freeC,
    fun p hp => h p (by rw [List.append_nil] at hp; exact hp), I.hok, I.len⟩
theorem gfnN_of {P : Program} {w : World} {K : PySem.W.Frag} {mg : Str → Option Value} {base : Heap} {k : Nat} {f : Addr} {name qual : Str} {params : Arguments} {body : List Stmt} {scope : Scope} {dV kV doc pm cdv ct oc : Value} {an od : Option Addr}
    {osl : Array (Option Value)} {N ps : List Str} {sp : SpM} (lk : K.lookup f = some ⟨oc, od, .func (PySem.W.fnOf name qual params body scope dV kV doc pm an cdv ct), osl⟩) (hcd : PySem.W.codeIn K cdv qual = true) (S : GScope N ps scope)
    (hbody : ∀ (A : Around) (outer : List Env) (s : Shared) (H : Hp) (vs : List V) (am : Amb) (H2 : Hp) (Q : List V → Hp → Prop) (pn : List (Addr × Obj)), Room k (A.deeper (envOfC qual scope s.heap.objs.size f cdv)) → sp vs am H2 Q →
      ∃ t, GSsn (gcx P w K mg base N qual scope f cdv A outer s H pn) body t ∧ t am { nx := fun ys _ H' => Q ys H', rt := fun ys v H' => v = .non ∧ Q ys H' } [] (start N vs) H2) :
    GFnN P w K mg base (k + 1) f (PySem.W.fnOf name qual params body scope dV kV doc pm an cdv ct) ps sp := by
  refine ⟨fun A outer s H args us vs hr e0 hb r hl => ?_⟩
  have KX : K.In s.heap := e0.mod.kin.keeps fun b o e => (e0.bs b o e).1
  have lim : s.heap.NoLimit := e0.mod.nolimit.keeps fun b o e => (e0.bs b o e).1
  have hkind : ∀ y ∈ ps.zip us, scope.names.lookup y.1 = some .local ∨ (scope.names.lookup y.1 = some .cell ∧ ((cellsFrom (s.heap.objs.size + 1) scope.names []).lookup y.1).isSome = true) := fun ⟨n, v⟩ hy => by
    rcases S.par n (List.of_mem_zip hy).1 with q | q
    · exact .inl q
    · exact .inr ⟨q, PySem.W.cellsFrom_some _ _ _ (.inl q)⟩
  refine codeAny_call_generator hr.depth (KX _ _ lk) rfl S.co S.gen rfl (PySem.W.codeRec_of KX hcd) (hb _ _ _ _ ?_)
  refine wpAny_newFunctionEnv_cells S.kind hkind fun env he s1 x => ?_
  subst he
  have lim1 : s1.heap.NoLimit := lim.keeps x.toInCall.keep
  refine ⟨lim1, ?_⟩
  obtain ⟨h1, tk, es1, hk1⟩ := x.done
  have os1 : s1.os = s.os := by rw [es1]
  have gen1 : s1.gens = s.gens := by rw [es1]
  have lt1 : s.heap.objs.size < s1.heap.objs.size := x.toInCall.ns.lt
  have kp1 : ∀ b o, s.heap.get? b = some o → s1.heap.get? b = some o := x.toInCall.keep
  have main : ∀ (go : Obj) (nm qn : Value) (tk2 : Nat), go.cls = .type "generator" → go.data = .fields #[.int s1.gens.size 0, nm, qn] → go.slots = #[] → (∀ h : Heap, (h.push go).get? h.objs.size = some go) →
      GMadeN P w K mg base (k + 1) outer H s (sp vs) (.ref s1.heap.objs.size) { s1 with gens := s1.gens.push (.fresh (.func body (envOfC qual scope s.heap.objs.size f cdv))), toks := tk2, heap := s1.heap.push go } := by
    intro go nm qn tk2 hgc hgd0 hgs hgp
    have hgen : ∀ h : Heap, h.get? s1.heap.objs.size = some go → h.IsGen s1.heap.objs.size s1.gens.size := fun h e => ⟨go, nm, qn, e, hgc, hgd0, hgs⟩
    have kp : ∀ b o, s1.heap.get? b = some o → (s1.heap.push go).get? b = some o := fun b o e => Heap.get?_push_of_some _ e
    have bare : AllBare (s1.gens.push (.fresh (.func body (envOfC qual scope s.heap.objs.size f cdv)))) := AllBare.push (by rw [gen1]; exact e0.bare) rfl
    refine ⟨s1.heap.objs.size, s1.gens.size, go, _, N, qual, scope, f, cdv, start N vs, rfl, lt1, ?_, hgen, Array.getElem?_push_size .., os1, bare, lim1.keeps kp, fun b o e => kp b o (kp1 b o e), fun Aw hd hfr => ?_, fun F am Aw s2 H2 Q hrw hfr hG hW => ?_⟩
    · show _ < (s1.heap.push _).objs.size
      rw [Heap.size_push]; exact Nat.lt_succ_self _
    · have e0w : Env0 P w K mg base Aw outer s H := ⟨hfr, e0.mod, e0.bs, e0.bsz, e0.funs, e0.frf, e0.hok, e0.bare⟩
      have I1 : L2.Inv (gcxOf P w K mg base N qual scope f cdv Aw outer s H E0 []) [] (start N vs) H s1 := inv_startG S hd e0w hl r x
      have I2 : L2.Inv (gcxOf P w K mg base N qual scope f cdv Aw outer s H E0 []) [] (start N vs) H { s1 with gens := s1.gens.push (.fresh (.func body (envOfC qual scope s.heap.objs.size f cdv))), toks := tk2, heap := s1.heap.push go } :=
        I1.call' (ch := []) rfl (Un.kept kp) (I1.hok.kept kp) bare fun b z => by simp at z
      refine inv_gcx I2 fun p hp => ?_
      rw [List.mem_singleton.mp hp]
      exact ⟨hgp _, I1.hok.fresh (Nat.le_refl _), Nat.ne_of_gt lt1, I1.nofs (Nat.le_refl _), fun v q => by rw [hgd0] at q; cases q⟩
    · obtain ⟨t, ht, hq⟩ := hbody Aw outer s H vs am H2 Q [(s1.heap.objs.size, go)] (hrw.deeper _) hW
      refine seg_func ?_
      refine ht.run F am Aw [] _ sizeLine [] s2 _ [] _ _ id id s2 (start N vs) H2 _ ⟨over_func, rfl, rfl, rfl⟩ (Nat.add_zero _) (fun n ys s₀ s' fl hn hs => ?_) hG hq
      cases fl with
      | next =>
        obtain ⟨σ', H', hI, hQ⟩ := hs
        exact seg_end (.ok (.ret .none)) (.inl ⟨.inl rfl, ys, [], σ', H', hn, hI, hQ⟩)
      | brk => obtain ⟨_, _, _, q⟩ := hs; exact False.elim q
      | cont => obtain ⟨_, _, _, q⟩ := hs; exact False.elim q
      | ret u =>
        obtain ⟨v, σ', H', hI, rv, ev, hQ⟩ := hs
        subst ev
        have eu : u = Value.none := rv
        subst eu
        exact seg_end (.ok (.ret .none)) (.inl ⟨.inl rfl, ys, [], σ', H', hn, hI, hQ⟩)
  exact main _ _ _ _ rfl rfl rfl fun h => Heap.get?_push_size _ rfl
/-- a generator def that may be called by its name -/
structure CalN (P : Program) (w : World) (K : PySem.W.Frag) (mg : Str → Option Value) (base : Heap) (k : Nat) (x : Str) (n : Nat) (sp : SpM) : Prop where
  ex : ∃ (f : Addr) (fd : FuncData) (ps : List Str), GFnN P w K mg base k f fd ps sp ∧ ps.length = n ∧ mg x = some (.ref f) ∧ PySem.W.keepIn K (.ref f) = true ∧ Binds K fd ps []
theorem calN_of {P : Program} {w : World} {K : PySem.W.Frag} {mg : Str → Option Value} {base : Heap} {x : Str} {st : Stmt} {N ps : List Str} {k : Nat} {sp : SpM} (A : At K mg x st) (S : GScope N ps (defScope st)) (hb : BindEq x st ps)
    (hbody : ∀ (f : Addr) (cdv : Value) (A : Around) (outer : List Env) (s : Shared) (H : Hp) (vs : List V) (am : Amb) (H2 : Hp) (Q : List V → Hp → Prop) (pn : List (Addr × Obj)), Room k (A.deeper (envOfC x (defScope st) s.heap.objs.size f cdv)) → sp vs am H2 Q →
      ∃ t, GSsn (gcx P w K mg base N x (defScope st) f cdv A outer s H pn) (defBody st) t ∧ t am { nx := fun ys _ H' => Q ys H', rt := fun ys v H' => v = .non ∧ Q ys H' } [] (start N vs) H2) : CalN P w K mg base (k + 1) x ps.length sp := by
  obtain ⟨f, fd, F, hm⟩ := A
  have bn := F.bindsN hb
  have kp := F.kp
  obtain ⟨oc, od, dV, kV, doc, pm, an, cdv, ct, osl, rfl, lk, hcd, -, -⟩ := F.ex
  exact ⟨f, _, ps, gfnN_of lk hcd S (hbody f cdv), rfl, hm, kp, bn⟩
/-- an expression whose value is a generator that has not begun -/
abbrev TGe := L2.St → Hp → ((Amb → Hp → (List V → Hp → Prop) → Prop) → Hp → Prop) → Prop
structure PGe (X : Cx) (k : Nat) (e : Expr) (tg : TGe) : Prop where
  run : ∀ (pins : List (Addr × Obj)) (s : Shared) (σ : L2.St) (H : Hp) (cont : (Amb → Hp → (List V → Hp → Prop) → Prop) → Hp → Prop), L2.Inv X pins σ H s → tg σ H cont → wpAny (model X.prog X.w) X.A (eval e X.env)
    (fun u s' => ∃ H1 sc W, L2.Inv X pins σ H1 sc ∧ GMadeN X.prog X.w X.K X.mg X.base k X.stack H1 sc W u s' ∧ cont W H1) X.xe s
def tCallN (sp : SpM) (n : Nat) (t : TA) : TGe := fun σ H cont => t σ H fun vs H1 => vs.length = n ∧ cont (sp vs) H1
section
variable {X : Cx} {k j : Nat} {x : Str} {sp : SpM} {p pos : Pos} {e : Expr} {es : List Expr} {t : TA} {n : Nat}
theorem pge_call (c : CalN X.prog X.w X.K X.mg X.base k x n sp) (hr : Room k X.A) (hg : Gl X x) (ha : PA X (e :: es) t)
    (hdb : (x == ("__debug__" : Str)) = false := by decide) (he : starEach (e :: es) X.env = (false, eval e X.env) :: starEach es X.env := by rfl)
    (hpl : (backTo pos (starEach es X.env)).any (·.1) = false := by rfl) : PGe X k (.Call (.Name x p) (e :: es) [] pos) (tCallN sp n t) := by
  obtain ⟨f, fd, ps, F, hl, hm, kp, b⟩ := c.ex
  refine ⟨fun pins s σ H cont I h => ?_⟩
  refine wpAny_Call_Name_kw (ld_glob I hg hm ?_ hdb)
  refine PySem.W.callWith_K (h₀ := X.base) I.ok.mod.kin kp (thn (ha.run pos pins s σ H _ I h) fun us s1 ⟨vs, H1, I1, r, hn, q⟩ => ⟨I1.kIn, ?_⟩) he hpl
  have hb' := b s1 us I1.kIn (by rw [List.append_nil, ← r.length, hn, hl])
  rw [List.append_nil] at hb'
  refine wpAny_call (codeAny_mono (F.run X.A X.stack s1 H1 ⟨us, []⟩ us vs hr I1.env0 hb' r (by rw [hn, hl])) fun r s' hq => ?_)
  match r, hq with
  | .ok (.ret u), hq => exact ⟨H1, s1, sp vs, I1, hq, q⟩
end
end MN
/-! list(g) -/
namespace MN
open PySem PySem.Spec PyProof.Rows L2 GenW
/-- the consumer is list: it fills the list at S -/
def lF (s : Shared) (H : Hp) (S : Addr) : GFam := ⟨Array Value × Nat, fun _ => s, fun _ => H, fun g => [(S, lstObj g.1 g.2)], fun ys g => Vals ys g.1.toList, [S]⟩
def lA : Amb := ⟨fun _ => False, fun _ => True, fun _ _ => True, fun _ _ _ _ h => h, fun _ _ _ _ h => h.elim⟩
section
variable {X : Cx} {S : Addr}
theorem lF_at {ip : List (Addr × Obj)} {ys : List V} {σ : L2.St} {H : Hp} {s : Shared} (h : GIn X (lF X.s_0 X.H_0 S) ip ys σ H s) :
    ∃ (acc : Array Value) (c : Nat), Vals ys acc.toList ∧ s.heap.get? S = some (lstObj acc c) ∧ H S = none ∧ S ≠ X.env.locals ∧ S ∉ X.fs ∧ L2.Inv X ip σ H s ∧ (∀ p ∈ ip, X.s_0.heap.objs.size ≤ p.1 ∧ p.1 ≠ S) := by
  obtain ⟨⟨acc, c⟩, r, _, ⟨_, z⟩, I⟩ := h
  have I' : L2.Inv X ([(S, lstObj acc c)] ++ ip) σ H s := I
  obtain ⟨q1, q2, q3, q4, _⟩ := I'.pin (S, lstObj acc c) (List.mem_append_right _ List.mem_cons_self)
  exact ⟨acc, c, r, q1, q2, q3, q4, I'.pins_of fun p hp => I'.pin p (List.mem_append_right _ (List.mem_append_right _ hp)), fun p hp => ⟨(z p hp).1, fun e => (z p hp).2 (List.mem_singleton.mpr e)⟩⟩
theorem lF_push {ip : List (Addr × Obj)} {ys : List V} {x : V} {v : Value} {σ : L2.St} {H : Hp} {s : Shared} {G : Array GenState} (hS : X.s_0.heap.objs.size ≤ S) (hpn : ∀ p ∈ X.pn, p.1 ≠ S) (hcell : ∀ x c, X.env.cells.lookup x = some c → c ≠ S)
    (h : GIn X (lF X.s_0 X.H_0 S) ip ys σ H s) (rv : RelV x v) (hG : AllBare G) : GIn X (lF X.s_0 X.H_0 S) ip (ys ++ [x]) σ H { s with gens := G, heap := s.heap.update S (Obj.mapSeq (·.push v)) } := by
  obtain ⟨acc, c, r, eS, hS0, hSL, hSf, I0, hip⟩ := lF_at h
  have nt : ∀ b u, H b = some u → b ≠ S := fun b u q hb => by rw [hb, hS0] at q; cases q
  have nc : ∀ b, b ∉ [S] → b ≠ S := fun b hb e => hb (by rw [e]; exact List.mem_singleton.mpr rfl)
  have z3 : ∀ b o, b ≠ S → s.heap.get? b = some o → (s.heap.update S (Obj.mapSeq (·.push v))).get? b = some o := fun b o hb e => (Heap.get?_update_other _ _ (Ne.symm hb)).trans e
  obtain ⟨c', eS'⟩ : ∃ c', (s.heap.update S (Obj.mapSeq (·.push v))).get? S = some (lstObj (acc.push v) c') := ⟨_, Heap.get?_update_self (Obj.mapSeq (·.push v)) eS rfl⟩
  have J : L2.Inv X ip σ H { s with heap := s.heap.update S (Obj.mapSeq (·.push v)), gens := G, drawn := s.drawn, toks := s.toks } := by
    refine I0.step (g' := G) (t' := s.toks) (d' := s.drawn) (ch := [S]) (fun b hb => ?_)
      (fun b ob _ _ hc q _ => z3 b ob (nc b hc) q) (fun b ob _ _ hc q _ => ⟨ob.slots, z3 b ob (nc b hc) q⟩) (fun _ _ _ _ n => n) (fun b ob hc q => ⟨ob, z3 b ob (nc b hc) q⟩)
      (fun _ _ q => q) (fun _ _ _ q => q) (fun b ps q => ⟨#[], by rw [q]; simp⟩) (fun m hm => ?_) (fun b u q => ?_) hG
    · rw [List.mem_singleton.mp hb]
      refine ⟨.inr hS, hSL, hcell, fun p hp => ?_⟩
      rcases List.mem_append.mp hp with hp | hp
      · exact hpn p hp
      · exact (hip p hp).2
    · obtain ⟨ob, es, ep, ho, r⟩ := hm
      exact ⟨ob, es, ep, z3 _ ob (Ne.symm hSL) ho, r⟩
    · refine (I0.hok b u q).stay (fun c v hc y => z3 c v ?_ y) (fun _ y => y) fun _ _ y => y
      rcases hc with y | y
      · rw [y]; exact nt b u q
      · exact nt c _ y
  refine ⟨(acc.push v, c'), ?_, rfl, ⟨rfl, fun p hp => ⟨(hip p hp).1, fun e => (hip p hp).2 (List.mem_singleton.mp e)⟩⟩, J.pins_of fun p hp => ?_⟩
  · show Vals (ys ++ [x]) (acc.push v).toList
    rw [Array.toList_push]
    exact r.append (.cons rv .nil)
  · rcases List.mem_cons.mp hp with hp | hp
    · rw [hp]
      exact ⟨eS', hS0, hSL, hSf, fun v q => by cases q⟩
    · exact J.pin p (List.mem_append_right _ hp)
end
theorem drainN {P : Program} {w : World} {X : Cx} {Q : List V → Hp → Prop} {A : Around} {R : Result → Shared → Prop} {S a : Addr} {g : Nat} {go : Obj} {res : Value}
    (hh : A.handled = none) (hd : A.depth < recursionLimit) (hgo : (a, go) ∈ X.pn) (hgen : ∀ h : Heap, h.get? a = some go → h.IsGen a g)
    (hS : X.s_0.heap.objs.size ≤ S) (hpn : ∀ p ∈ X.pn, p.1 ≠ S) (hcell : ∀ x c, X.env.cells.lookup x = some c → c ≠ S)
    (hend : ∀ s' acc c ip σ H' ys, s'.heap.get? S = some (lstObj acc c) → Vals ys acc.toList → ys.length ≤ sizeLine → H' S = none → L2.Inv X ip σ H' s' → Q ys H' → ∀ (h' : Heap) (G : Array GenState), AllBare G → (∀ b o, s'.heap.get? b = some o → h'.get? b = some o) → R (.ok (.ret res)) { s' with heap := h', gens := G }) :
    ∀ (m : Nat) (s : Shared), s.heap.IsGen a g → s.heap.NoLimit →
      (∃ gs, s.gens[g]? = some gs ∧ gs.Goes (model P w) A.in1.in1 (REn X (lF X.s_0 X.H_0 S) Q) (GYn X (lF X.s_0 X.H_0 S) lA) m (.send .none) (s.setGen g .running)) →
      codeAny (model P w) A (.builtin "list.extend.loop" ⟨[.ref S, .ref a, res], []⟩) R s := by
  have goes : ∀ {gs : GenState} {B : Around} {n : Nat} {r : Resume} {s : Shared}, gs.Goes (model P w) B (REn X (lF X.s_0 X.H_0 S) Q) (GYn X (lF X.s_0 X.H_0 S) lA) n r s →
      gs.Goes (model P w) B (fun n s₀ r s => ((r = .ok (.ret .none) ∨ r = .ok .next) ∧ (fun n (_ : Shared) s => ∃ ys ip σ H, n + ys.length = sizeLine ∧ GIn X (lF X.s_0 X.H_0 S) ip ys σ H s ∧ Q ys H) n s₀ s) ∨ ∃ e, r = .error e ∧ (fun _ _ => False) e s) (GYn X (lF X.s_0 X.H_0 S) lA) n r s := fun h => h
  intro m
  induction m with
  | zero =>
    intro s hg hl ⟨gs, hgs, hgo'⟩
    refine codeAny_builtin F.entry_extend_loop ?_
    rw [Around.under_plainId F.plain_extend_loop _]
    show wpAny _ A.in1 (pyNext (.ref a) >>= _) _ _ s
    refine wpAny_bind (next_genG (A := A.in1) hh hl hd hg hgs (goes hgo') (fun v s₁ gs' hbare hv => ?_) (fun s₁ hp h' hk => ?_) fun e s₁ he => he.elim)
    · obtain ⟨ys, x, ip, σ, H, _, rv, hG, _, _, hk⟩ := hv
      obtain ⟨_, _, _, _, _, _, _, I, _⟩ := lF_at hG
      exact False.elim (hk H _ .refl trivial (lF_push hS hpn hcell hG rv I.bare))
    · obtain ⟨ys, ip, σ, H', hn, hG, hQ⟩ := hp
      obtain ⟨acc, c, r, eS, hS0, _, _, I, _⟩ := lF_at hG
      exact wpAny_pure (hend _ acc c ip σ H' ys eS r (by omega) hS0 I hQ h' _ (allBare_setGen I.bare rfl) hk)
  | succ m ih =>
    intro s hg hl ⟨gs, hgs, hgo'⟩
    have hgl : g < s.gens.size := (Array.getElem?_eq_some_iff.mp hgs).1
    refine codeAny_builtin F.entry_extend_loop ?_
    rw [Around.under_plainId F.plain_extend_loop _]
    show wpAny _ A.in1 (pyNext (.ref a) >>= _) _ _ s
    refine wpAny_bind (wpAny_gsz (n := g + 1) hgl (next_genG (A := A.in1) hh hl hd hg hgs (goes hgo') (fun v s₁ gs' hbare hv => ?_) (fun s₁ hp h' hk => ?_) fun e s₁ he => he.elim))
    · intro hsz
      obtain ⟨ys, x, ip, σ, H, hn, rv, hG, _, _, hk⟩ := hv
      obtain ⟨acc, c, r, eS, hS0, hSL, hSf, I, hip⟩ := lF_at hG
      have hasz' : acc.size < sizeLine := by
        have e1 := r.length
        have e2 : acc.toList.length = acc.size := by simp
        omega
      show wpAny _ A.in1 (updateSeq S (·.push v) >>= _) _ _ _
      refine wpAny_bind ?_
      refine wpAny_updateSeq eS rfl (wpAny_pure ⟨plainId_quiet F.plain_extend_loop _, ?_⟩) (Nat.le_of_lt hasz') (by show (acc.push v).size ≤ sizeLine + 1; rw [Array.size_push]; omega)
      have keep3 : ∀ b o, b ≠ S → s₁.heap.get? b = some o → (s₁.heap.update S (Obj.mapSeq (·.push v))).get? b = some o := fun b o hbS e => (Heap.get?_update_other _ _ (Ne.symm hbS)).trans e
      have hsz1 : g < s₁.gens.size := by
        have q : (s₁.setGen g gs').gens.size = s₁.gens.size := setGen_size _ _ _
        have hsz' : g + 1 ≤ (s₁.setGen g gs').gens.size := hsz
        omega
      have hgo1 : s₁.heap.get? a = some go := (I.pin (a, go) (List.mem_append_left _ hgo)).1
      have hSc : cStatics ≠ S := fun e => by
        obtain ⟨mc, hns, _⟩ := I.ok.mod.nolimit
        have h1 := hns.lt
        have h2 := Nat.le_trans I.ok.bsz hS
        rw [e] at h1
        exact absurd (Nat.lt_of_lt_of_le h1 h2) (Nat.lt_irrefl _)
      refine ih { s₁.setGen g gs' with heap := s₁.heap.update S (Obj.mapSeq (·.push v)) } (hgen _ (keep3 a go (hpn (a, go) hgo) hgo1)) ?_ ⟨gs', setGen_at hsz1, ?_⟩
      · obtain ⟨mc, hns, hnn⟩ := I.nolimit
        exact ⟨mc, hns.at' fun o e => keep3 _ o hSc e, hnn⟩
      · exact hk H _ .refl trivial (lF_push hS hpn hcell hG rv (allBare_setGen (s := s₁.setGen g gs') (allBare_setGen I.bare hbare) rfl))
    · intro hsz
      obtain ⟨ys, ip, σ, H', hn, hG, hQ⟩ := hp
      obtain ⟨acc, c, r, eS, hS0, _, _, I, _⟩ := lF_at hG
      exact wpAny_pure (hend _ acc c ip σ H' ys eS r (by omega) hS0 I hQ h' _ (allBare_setGen I.bare rfl) hk)
theorem call_list_newN {P : Program} {w : World} {K : PySem.W.Frag} {mg : Str → Option Value} {base : Heap} {outer : List Env} {H : Hp} {sc s : Shared} {W : Amb → Hp → (List V → Hp → Prop) → Prop} {Q : List V → Hp → Prop} {A : Around} {k : Nat} {u : Value} {Q' : Value → Shared → Prop} {E : Value → Shared → Prop}
    (hr : Room (k + 3) A) (hfr : A.frames = some outer) (h : GMadeN P w K mg base k outer H sc W u s) (hW : W lA H Q)
    (hQ : ∀ S s' acc c H' ys, s.heap.objs.size ≤ S → s'.heap.get? S = some (lstObj acc c) → Vals ys acc.toList → ys.length ≤ sizeLine → s'.os = sc.os → AllBare s'.gens → Un (frs outer) [] H H' sc.heap s'.heap → HOk P w H' s'.heap → H' S = none → Q ys H' → Q' (.ref S) s') :
    wpAny (model P w) A (call (.type "list") [u]) Q' E s := by
  obtain ⟨a, g, go, c, N, qual, scope, f, cd, σ0, rfl, ha1, ha2, hgen, hgs, hos, hb, hl, hkp, start0, wake⟩ := h
  have I0 := start0 A hr.hd hfr
  have hg : s.heap.IsGen a g := hgen _ (I0.pin (a, go) (List.mem_append_left _ (List.mem_singleton.mpr rfl))).1
  have hSa : s.heap.objs.size ≠ a := Nat.ne_of_gt ha2
  refine callType_codes (Q₁ := fun obj s₁ => obj = .ref s.heap.objs.size ∧ s₁ = { s with heap := s.heap.push { cls := .type "list", data := .seq #[] } }) F.called_list (F.typeCall_list_1 _) F.entry_list_init
    (code_list_new _ ⟨rfl, rfl⟩) fun obj s₁ h₁ => ?_
  obtain ⟨rfl, rfl⟩ := h₁
  have hS : (s.heap.push { cls := .type "list", data := .seq #[] }).get? s.heap.objs.size = some { cls := .type "list", data := .seq #[] } := Heap.get?_push_size _ rfl
  refine ⟨⟨_, hS, rfl⟩, F.args_list_init_2 _ _, ?_⟩
  show wpAny _ A.in1.in1 (do let old ← Builtin.List.listItems (.ref s.heap.objs.size); Builtin.List.listUpdate (.ref s.heap.objs.size) (fun _ => #[]); letGo old.toList.reverse; Builtin.List.listExtendWith (.ref s.heap.objs.size) (.ref a) .none) _ _ _
  refine wpAny_bind ?_
  unfold Builtin.List.listItems
  refine wpAny_bind (wpAny_seqItems hS rfl (wpAny_pure ?_))
  show wpAny _ A.in1.in1 (updateSeq s.heap.objs.size (fun _ => #[]) >>= fun _ => letGo (#[] : Array Value).toList.reverse >>= fun _ => Builtin.List.listExtendWith (.ref s.heap.objs.size) (.ref a) .none) _ _ _
  refine wpAny_bind (wpAny_updateSeq hS rfl ?_)
  have hS2 := Heap.get?_update_self (Obj.mapSeq (fun _ => (#[] : Array Value))) hS rfl
  refine wpAny_bind (wpAny_letGo ?_)
  unfold Builtin.List.listExtendWith
  have up : ∀ (h : Heap) (f : Obj → Obj), (∀ b o, s.heap.get? b = some o → h.get? b = some o) → ∀ b o, s.heap.get? b = some o → (h.update s.heap.objs.size f).get? b = some o := fun h f q b o e =>
    (Heap.get?_update_other _ _ (Ne.symm (Nat.ne_of_lt (Heap.lt_size e)))).trans (q b o e)
  have k1 : ∀ b o, s.heap.get? b = some o → (s.heap.push { cls := .type "list", data := .seq #[] }).get? b = some o := fun b o e => Heap.get?_push_of_some _ e
  have k2 := up _ (Obj.mapSeq (fun _ => (#[] : Array Value))) k1
  have gty : ∀ {h : Heap}, (∀ b o, s.heap.get? b = some o → h.get? b = some o) → h.IsGen a g := fun {h} q => hg.keeps q
  refine wpAny_bind (wpAny_typeOf (Heap.IsGen.typeIs (s := { s with heap := _ }) (gty k2)) ?_)
  have h1 : Builtin.List.listSameRef (.ref s.heap.objs.size) (.ref a) = false := by simp [Builtin.List.listSameRef, hSa]
  have h2 : (Value.type "generator" == Value.type "list") = false := by decide
  have h3 : (Value.type "generator" == Value.type "tuple") = false := by decide
  simp only [h1, h2, h3, Bool.or_false, Bool.false_eq_true, if_false]
  refine wpAny_bind (wpAny_pyIter_gen (s := { s with heap := _ }) (gty k2) ?_)
  refine wpAny_bind (wpAny_holding ?_)
  unfold Builtin.List.listLengthHint
  refine wpAny_bind (wpAny_specialOf (Heap.IsGen.typeIs (s := { s with heap := _ }) (gty k2)) F.gen_no_len ?_)
  show wpAny _ A.in1.in1 (specialOf (Value.ref a) (Str.ofString "__length_hint__") >>= _) _ _ _
  refine wpAny_bind (wpAny_specialOf (Heap.IsGen.typeIs (s := { s with heap := _ }) (gty k2)) F.gen_no_hint ?_)
  refine wpAny_pure ?_
  show wpAny _ A.in1.in1 (rule "list.extend.makes-room" >>= fun _ => Builtin.List.listTouch (.ref s.heap.objs.size) >>= fun _ =>
    again (.builtin "list.extend.loop" ⟨[.ref s.heap.objs.size, .ref a, .none], []⟩)) _ _ _
  refine wpAny_bind (wpAny_rule ?_)
  refine wpAny_bind ?_
  show wpAny _ A.in1.in1 (updateSeq s.heap.objs.size (·.push .none) >>= fun _ => updateSeq s.heap.objs.size (·.pop)) _ _ _
  refine wpAny_bind (wpAny_updateSeq hS2 rfl ?_)
  have hS3 := Heap.get?_update_self (Obj.mapSeq (·.push Value.none)) hS2 rfl
  refine wpAny_updateSeq (hz := by seq_fits) hS3 rfl ?_
  have hS4 := Heap.get?_update_self (Obj.mapSeq (·.pop)) hS3 rfl
  obtain ⟨c4, hS5⟩ : ∃ c4, ((((s.heap.push { cls := .type "list", data := .seq #[] }).update s.heap.objs.size (Obj.mapSeq (fun _ => (#[] : Array Value)))).update s.heap.objs.size (Obj.mapSeq (·.push Value.none))).update s.heap.objs.size (Obj.mapSeq (·.pop))).get? s.heap.objs.size = some (lstObj #[] c4) := ⟨_, hS4⟩
  have k4 := up _ (Obj.mapSeq (·.pop)) (up _ (Obj.mapSeq (·.push Value.none)) k2)
  refine wpAny_pure ⟨plainId_quiet F.plain_extend_loop _, ?_⟩
  have Iw := start0 A.in1.in1.in1 hr.hd hfr
  have hcell : ∀ x c', (gcx P w K mg base N qual scope f cd A.in1.in1.in1 outer sc H [(a, go)]).env.cells.lookup x = some c' → c' ≠ s.heap.objs.size := fun x c' e z => by
    obtain ⟨v, o, ho, _⟩ := Iw.cell x c' e
    exact Nat.ne_of_lt (Heap.lt_size ho) z
  have hpn : ∀ p ∈ (gcx P w K mg base N qual scope f cd A.in1.in1.in1 outer sc H [(a, go)]).pn, p.1 ≠ s.heap.objs.size := fun p hp => by
    rw [List.mem_singleton.mp hp]; exact Nat.ne_of_lt ha2
  refine drainN (P := P) (w := w) (X := gcx P w K mg base N qual scope f cd A.in1.in1.in1 outer sc H [(a, go)]) (Q := Q) (A := A.in1) (g := g) (go := go) hr.hd (by have := hr.dp; show A.depth < _; omega) (List.mem_singleton.mpr rfl) hgen Iw.sz hpn hcell
    (fun s' acc c ip σ H' ys q1 q2 q3 q4 I q5 h' G hG hk => ⟨rfl, hQ _ _ acc c H' ys (Nat.le_refl _) (hk _ _ q1) q2 q3 I.os hG (I.base.trans (Un.kept hk)) (I.hok.kept hk) q4 q5⟩)
    sizeLine _ (gty k4) (hl.keeps k4) ⟨_, hgs, rfl, ?_⟩
  refine wake (lF sc H s.heap.objs.size) lA _ _ H Q ⟨hr.hd, ?_, ?_⟩ hfr ⟨(#[], c4), .nil, rfl, ⟨rfl, fun p hp => by cases hp⟩, ?_⟩ hW
  · have := hr.dp
    show A.depth + 3 * k + 5 < _
    omega
  · have := hr.un
    show A.units + 1 + 1 + 1 + 16 * k + 200 < _
    omega
  · have J : L2.Inv (gcx P w K mg base N qual scope f cd A.in1.in1.in1 outer sc H [(a, go)]) [] σ0 H (Shared.setGen { s with heap := ((s.heap.push { cls := .type "list", data := .seq #[] }).update s.heap.objs.size (Obj.mapSeq (fun _ => (#[] : Array Value)))).update s.heap.objs.size (Obj.mapSeq (·.push Value.none)) |>.update s.heap.objs.size (Obj.mapSeq (·.pop)) } g .running) :=
      Iw.call' (ch := []) rfl (Un.kept k4) (Iw.hok.kept k4) (allBare_setGen (s := { s with heap := _ }) hb rfl) fun b z => by simp at z
    refine L2.Inv.pins_of J fun p hp => ?_
    rw [List.append_nil] at hp
    rw [List.mem_singleton.mp hp]
    exact ⟨hS5, Iw.hok.fresh (Nat.le_refl _), Nat.ne_of_gt Iw.lt, Iw.nofs (Nat.le_refl _), fun v q => by cases q⟩
section
variable {X : Cx} {k : Nat} {p pos : Pos}
def tListN (tg : TGe) : TE := fun σ H Q => tg σ H fun W H1 => W lA H1 fun out H2 => ∀ p, H2 p = none → Q (.ref p) (upd H2 p (.lst out))
/-- list(g) -/
theorem pe_listN {e : Expr} {tg : TGe} {nm : Str} (h : PGe X k e tg) (hr : Room (k + 3) X.A) (hg : Gl X nm) (hmg : X.mg nm = none) (hv : bootBuiltins nm = some (.type "list")) (hnm : nm ≠ "__name__" := by decide) (hdb : (nm == ("__debug__" : Str)) = false := by decide)
    (he : starEach [e] X.env = (false, eval e X.env) :: starEach [] X.env := by rfl) : PE X (.Call (.Name nm p) [e] [] pos) (tListN tg) := by
  refine ⟨fun pins s σ H Q I hq => ?_⟩
  refine wpAny_Call_Name_kw (ld_blt I hg hmg hv ?_ hnm hdb)
  refine PyProof.Rows.callWith_type1 ?_ he rfl
  rw [he]
  show wpAny _ _ (spliced ((false, eval e X.env) :: backTo pos (starEach [] X.env))) _ _ s
  refine Calls.spliced_cons (thn (h.run pins s σ H _ I hq) fun u s1 ⟨H1, sc, W, I1, hG, hW⟩ => ?_)
  refine Calls.spliced_nil ?_
  have hsz : sc.heap.objs.size ≤ s1.heap.objs.size := by
    obtain ⟨a, g, go, c, _, _, _, _, _, _, _, h1, h2, _⟩ := hG
    exact Nat.le_of_lt (Nat.lt_trans h1 h2)
  refine call_list_newN hr I1.ok.frames hG hW (fun S s' acc c H' ys q0 q1 q2 hl q3 q4 q5 q6 q7 q8 => ?_)
  exact ⟨.ref S, upd H' S (.lst ys), I1.drained (Nat.le_trans hsz q0) hl q1 q2 .nil q3 q4 q5 q6 q7, rfl, q8 S q7⟩
end
end MN
/-! a generator that sleeps in its consumer's state -/
namespace MN
open PySem PySem.Spec PyProof.Rows L2 GenW
/-- the heap's first n objects -/
def cut (n : Nat) (h : Heap) : Heap := { h with objs := h.objs.extract 0 n }
theorem cut_get {n : Nat} {h : Heap} {b : Addr} (hb : b < n) : (cut n h).get? b = h.get? b := by
  have e : (h.objs.extract 0 n)[b]? = h.objs[b]? := by
    rw [Array.getElem?_extract]
    simp only [Nat.zero_add, Nat.sub_zero]
    split
    · rfl
    · rename_i hn
      have hb' : @LT.lt Nat _ b n := hb
      have : h.objs.size ≤ b := by
        by_cases z : h.objs.size ≤ b
        · exact z
        · exact absurd (Nat.lt_min.mpr ⟨hb', Nat.lt_of_not_le z⟩) hn
      exact (Array.getElem?_eq_none this).symm
  show (match (h.objs.extract 0 n)[b]? with | some ⟨_, _, .freed, _⟩ => none | o => o) = (match h.objs[b]? with | some ⟨_, _, .freed, _⟩ => none | o => o)
  rw [e]
theorem cut_size {n : Nat} {h : Heap} (hn : n ≤ h.objs.size) : (cut n h).objs.size = n := by
  show (h.objs.extract 0 n).size = n
  rw [Array.size_extract]; omega
theorem cut_of {n : Nat} {h : Heap} {b : Addr} {o : Obj} (hn : n ≤ h.objs.size) (e : (cut n h).get? b = some o) : b < n ∧ h.get? b = some o := by
  have hb : b < n := by have := Heap.lt_size e; rw [cut_size hn] at this; exact this
  exact ⟨hb, by rw [← cut_get hb]; exact e⟩
open Classical in
noncomputable def hideH (PA : List Addr) (H : Hp) : Hp := fun b => if b ∈ PA then none else H b
open Classical in
noncomputable def frzH (PA : List Addr) (h : Heap) (H : Hp) : Hp := fun b => if b ∈ PA then (h.get? b).map (fun o => HO.frz o (.ext fun h' => h'.get? b = some o)) else H b
theorem hide_in {PA : List Addr} {H : Hp} {b : Addr} (h : b ∈ PA) : hideH PA H b = none := by unfold hideH; rw [if_pos h]
theorem hide_out {PA : List Addr} {H : Hp} {b : Addr} (h : b ∉ PA) : hideH PA H b = H b := by unfold hideH; rw [if_neg h]
theorem frz_in {PA : List Addr} {h : Heap} {H : Hp} {b : Addr} {o : Obj} (hb : b ∈ PA) (e : h.get? b = some o) : frzH PA h H b = some (.frz o (.ext fun h' => h'.get? b = some o)) := by unfold frzH; rw [if_pos hb, e]; rfl
theorem frz_out {PA : List Addr} {h : Heap} {H : Hp} {b : Addr} (hb : b ∉ PA) : frzH PA h H b = H b := by unfold frzH; rw [if_neg hb]
theorem hide_ok {P : Program} {w : World} {PA : List Addr} {H : Hp} {h : Heap} (hok : HOk P w H h) (hf : ∀ b ∈ PA, ∃ o u, H b = some (.frz o u)) : HOk P w (hideH PA H) h := by
  intro b u e
  have hb : b ∉ PA := fun z => by rw [hide_in z] at e; cases e
  rw [hide_out hb] at e
  refine (hok b u e).stay (fun _ _ _ q => q) (fun c q => ?_) (fun c xs q => ?_)
  · rw [hide_out (fun z => ?_)]
    · exact q
    · obtain ⟨o, u, z⟩ := hf c z; rw [q] at z; cases z
  · rw [hide_out (fun z => ?_)]
    · exact q
    · obtain ⟨o, u, z⟩ := hf c z; rw [q] at z; cases z
theorem frz_same {PA : List Addr} {H : Hp} {h : Heap} (hn : ∀ b ∈ PA, H b = none) : Same H (frzH PA h H) := by
  intro b o e
  rw [frz_out (fun z => by rw [hn b z] at e; cases e)]
  exact e
theorem frz_ok {P : Program} {w : World} {PA : List Addr} {H : Hp} {h : Heap} (hok : HOk P w H h) (hn : ∀ b ∈ PA, H b = none) : HOk P w (frzH PA h H) h := by
  intro b u e
  by_cases hb : b ∈ PA
  · cases q : h.get? b with
    | none => unfold frzH at e; rw [if_pos hb, q] at e; cases e
    | some o =>
      rw [frz_in hb q] at e
      cases e
      exact ⟨q, q, ⟨o, q⟩, fun h1 h2 z1 z2 => z2 o z1⟩
  · rw [frz_out hb] at e
    exact (hok b u e).stay (fun _ _ _ q => q) (fun c q => frz_same hn c _ q) fun c xs q => frz_same hn c _ q
/-- the generator's own untracked objects -/
def privs (X : Cx) (ip : List (Addr × Obj)) : List Addr := X.env.locals :: (X.env.cells.filterMap (fun p => X.env.cells.lookup p.1) ++ (X.pn ++ ip).map Prod.fst)
theorem priv_loc {X : Cx} {ip : List (Addr × Obj)} : X.env.locals ∈ privs X ip := List.mem_cons_self
theorem priv_cell {X : Cx} {ip : List (Addr × Obj)} {x : Str} {c : Addr} (h : X.env.cells.lookup x = some c) : c ∈ privs X ip :=
  List.mem_cons_of_mem _ (List.mem_append_left _ (List.mem_filterMap.mpr ⟨(x, c), PySem.mem_of_lookup h, h⟩))
theorem priv_pin {X : Cx} {ip : List (Addr × Obj)} {p : Addr × Obj} (h : p ∈ X.pn ++ ip) : p.1 ∈ privs X ip :=
  List.mem_cons_of_mem _ (List.mem_append_right _ (List.mem_map.mpr ⟨p, h, rfl⟩))
theorem privs_of {X : Cx} {ip : List (Addr × Obj)} {b : Addr} (h : b ∈ privs X ip) : b = X.env.locals ∨ (∃ x, X.env.cells.lookup x = some b) ∨ ∃ p ∈ X.pn ++ ip, p.1 = b := by
  rcases List.mem_cons.mp h with h | h
  · exact .inl h
  · rcases List.mem_append.mp h with h | h
    · obtain ⟨p, _, e⟩ := List.mem_filterMap.mp h
      exact .inr (.inl ⟨p.1, e⟩)
    · obtain ⟨p, hp, e⟩ := List.mem_map.mp h
      exact .inr (.inr ⟨p, hp, e⟩)
section
variable {Xg X : Cx} {ip pins : List (Addr × Obj)} {σg σ : L2.St} {H H' : Hp} {s s' s0 : Shared} {h0 : Hp} {PA : List Addr}
theorem privs_none (I : L2.Inv (reX Xg s0 h0) ip σg H s) : ∀ b ∈ privs Xg ip, H b = none := by
  intro b hb
  rcases privs_of hb with rfl | ⟨x, e⟩ | ⟨p, hp, rfl⟩
  · exact I.free
  · exact I.freeC x b e
  · exact (I.pin p hp).2.1
theorem privs_some (I : L2.Inv (reX Xg s0 h0) ip σg H s) : ∀ b ∈ privs Xg ip, ∃ o, s.heap.get? b = some o := by
  intro b hb
  rcases privs_of hb with rfl | ⟨x, e⟩ | ⟨p, hp, rfl⟩
  · obtain ⟨m, ⟨o, _, _, ho, _⟩, _⟩ := I.loc; exact ⟨o, ho⟩
  · obtain ⟨v, o, ho, _⟩ := I.cell x b e; exact ⟨o, ho⟩
  · exact ⟨_, (I.pin p hp).1⟩
/-- the generator wakes in its consumer's state -/
theorem rebase (I : L2.Inv X pins σ H' s') (Ig : L2.Inv (reX Xg s0 h0) ip σg H s) (sz : s0.heap.objs.size = Xg.s_0.heap.objs.size) (hout : Xg.outer = X.stack) (hex : Xg.ex = []) (hbase : Xg.base = X.base) (hP : Xg.prog = X.prog) (hw : Xg.w = X.w)
    (hf : ∀ b ∈ PA, ∃ o u, H' b = some (.frz o u)) (hpr : ∀ b ∈ privs Xg ip, hideH PA H' b = none) (hsame : ∀ b ∈ privs Xg ip, ∀ o, s.heap.get? b = some o → s'.heap.get? b = some o)
    (hn : Xg.s_0.heap.objs.size ≤ s'.heap.objs.size) (hfr : ∀ b ∈ frs X.stack, b < Xg.s_0.heap.objs.size) :
    L2.Inv (reX Xg { s' with heap := cut Xg.s_0.heap.objs.size s'.heap } (hideH PA H')) ip σg (hideH PA H') s' := by
  have k := Ig.ok
  have hid : ∀ b, H' b = none → hideH PA H' b = none := fun b e => by
    by_cases z : b ∈ PA
    · exact hide_in z
    · rw [hide_out z]; exact e
  refine ⟨⟨k.mod, k.kind, k.glob, k.blt, ?_, k.inj, k.has, fun x c h1 h2 => ?_, k.hd, k.frames, k.stk, k.exf, fun b o e => ?_, ?_, k.noex, k.exfs, ?_, fun b hb => ?_⟩, rfl, I.bare, Un.kept fun b o e => (cut_of hn e).2, ?_, fun x c e => ?_, hpr _ priv_loc, fun x c e => hpr _ (priv_cell e), fun p hp => ?_, ?_, Ig.len⟩
  · show (cut _ s'.heap).objs.size ≤ _
    rw [cut_size hn, ← sz]; exact k.above
  · show (cut _ s'.heap).objs.size ≤ c
    rw [cut_size hn, ← sz]; exact k.cab x c h1 h2
  · have e' : X.base.get? b = some o := hbase ▸ e
    obtain ⟨q1, q2⟩ := I.bs b o e'
    refine ⟨?_, hid b q2⟩
    have hb : b < Xg.s_0.heap.objs.size := by
      have h1 := Heap.lt_size e
      have h2 : Xg.base.objs.size ≤ s0.heap.objs.size := k.bsz
      rw [sz] at h2
      exact Nat.lt_of_lt_of_le h1 h2
    show (cut _ s'.heap).get? b = some o
    rw [cut_get hb]; exact q1
  · show Xg.base.objs.size ≤ (cut _ s'.heap).objs.size
    have h2 : Xg.base.objs.size ≤ s0.heap.objs.size := k.bsz
    rw [cut_size hn, ← sz]; exact h2
  · have fs := I.stack
    rw [← hout, ← hbase] at fs
    have hfr' : ∀ b ∈ frs Xg.outer, b < Xg.s_0.heap.objs.size := by rw [hout]; exact hfr
    show (cut _ s'.heap).FunFrames Xg.base Xg.outer
    have all : ∀ l : List Env, (∀ b ∈ frs l, b < Xg.s_0.heap.objs.size) → s'.heap.FunFrames Xg.base l → (cut Xg.s_0.heap.objs.size s'.heap).FunFrames Xg.base l := by
      intro l
      induction l with
      | nil => intro _ _; trivial
      | cons env r ih =>
        intro hs ⟨hk, ⟨L, o, hf, hn', ho, hd⟩, hr⟩
        have hL : L < Xg.s_0.heap.objs.size := hs L (by unfold frs; rw [List.filterMap_cons, hf]; exact List.mem_cons_self)
        exact ⟨hk, ⟨L, o, hf, hn', by rw [cut_get hL]; exact ho, hd⟩, ih (fun b hb => hs b (by unfold frs; rw [List.filterMap_cons, hf]; exact List.mem_cons_of_mem _ hb)) hr⟩
    exact all _ hfr' fs
  · have hb' : b ∈ frs X.stack := hout ▸ hb
    exact hid b (I.stkFree b hb')
  · obtain ⟨m, ⟨o, es, ep, ho, r⟩, hl⟩ := Ig.loc
    refine ⟨m, ⟨o, es, ep, hsame _ priv_loc o ho, r⟩, fun i x v e1 e2 e3 => ?_⟩
    obtain ⟨u, ru, l⟩ := hl i x v e1 e2 e3
    refine ⟨u, ru, ?_⟩
    rcases l with l | ⟨kk, c, e, oc, hoc, hd⟩
    · exact .inl l
    · exact .inr ⟨kk, c, e, oc, hsame c (priv_cell e) oc hoc, hd⟩
  · obtain ⟨v, oc, hoc, hd⟩ := Ig.cell x c e
    exact ⟨v, oc, hsame c (priv_cell e) oc hoc, hd⟩
  · obtain ⟨q1, _, q3, q4, q5⟩ := Ig.pin p hp
    exact ⟨hsame _ (priv_pin hp) _ q1, hpr _ (priv_pin hp), q3, q4, q5⟩
  · show HOk Xg.prog Xg.w (hideH PA H') s'.heap
    rw [hP, hw]
    exact hide_ok I.hok hf
/-- the consumer's state behind a run of the generator -/
theorem back {sw : Shared} {Hw : Hp} (I : L2.Inv X pins σ Hw sw) (Ig : L2.Inv (reX Xg { sw with heap := cut Xg.s_0.heap.objs.size sw.heap } (hideH PA Hw)) ip σg H s) (hout : Xg.outer = X.stack) (hxg : Xg.ex = []) (hex : X.ex = []) (hP : Xg.prog = X.prog) (hw : Xg.w = X.w)
    (hPA : ∀ b ∈ PA, Xg.s_0.heap.objs.size ≤ b ∧ ∃ o u, Hw b = some (.frz o u)) (hn : Xg.s_0.heap.objs.size ≤ sw.heap.objs.size) (hpz : ∀ b ∈ privs Xg ip, Xg.s_0.heap.objs.size ≤ b)
    (hL : X.env.locals < Xg.s_0.heap.objs.size) (hC : ∀ x c, X.env.cells.lookup x = some c → c < Xg.s_0.heap.objs.size) (hpin : ∀ p ∈ X.pn ++ pins, p.1 < Xg.s_0.heap.objs.size)
    (hfz : ∀ b o u, X.H_0 b = some (.frz o u) → b < Xg.s_0.heap.objs.size) (G : Array GenState) (hG : AllBare G) :
    L2.Inv X pins σ (frzH (privs Xg ip) s.heap H) { s with gens := G } := by
  have B : Un (frs X.stack) [] (hideH PA Hw) H (cut Xg.s_0.heap.objs.size sw.heap) s.heap := by
    have q := Ig.base
    have q' : Un (frs Xg.outer) Xg.ex (hideH PA Hw) H (cut Xg.s_0.heap.objs.size sw.heap) s.heap := q
    rw [hout, hxg] at q'
    exact q'
  have hid : ∀ b, Hw b = none → hideH PA Hw b = none := fun b e => by
    by_cases z : b ∈ PA
    · exact hide_in z
    · rw [hide_out z]; exact e
  have low : ∀ b, b < Xg.s_0.heap.objs.size → b ∉ privs Xg ip := fun b hb z => absurd (Nat.lt_of_lt_of_le hb (hpz b z)) (Nat.lt_irrefl _)
  have nopr := privs_none Ig
  have keepB : ∀ b o, b < Xg.s_0.heap.objs.size → sw.heap.get? b = some o → Hw b = none → b ∉ frs X.stack → s.heap.get? b = some o := fun b o hb e n hf =>
    B.keep b o (by rw [cut_get hb]; exact e) (hid b n) hf (by simp)
  have slotB : ∀ b o, b < Xg.s_0.heap.objs.size → sw.heap.get? b = some o → Hw b = none → ∃ sl, s.heap.get? b = some { o with slots := sl } := fun b o hb e n =>
    B.any (by rw [cut_get hb]; exact e) (hid b n) (by simp)
  have freeB : ∀ b o, b < Xg.s_0.heap.objs.size → sw.heap.get? b = some o → Hw b = none → frzH (privs Xg ip) s.heap H b = none := fun b o hb e n => by
    rw [frz_out (low b hb)]
    exact B.free b o (by rw [cut_get hb]; exact e) (hid b n) (by simp)
  have old : ∀ b o, X.s_0.heap.get? b = some o → b < Xg.s_0.heap.objs.size := fun b o e => Nat.lt_trans (Nat.lt_of_lt_of_le (Heap.lt_size e) I.ok.above) hL
  have nex : ∀ b : Addr, b ∉ X.ex := fun b z => by rw [hex] at z; cases z
  have keepH : ∀ b u, (∀ o u', u ≠ HO.frz o u') → Hw b = some u → hideH PA Hw b = some u := fun b u hu e => by
    rw [hide_out fun z => ?_]
    · exact e
    · obtain ⟨_, o, u', q⟩ := hPA b z
      rw [e] at q
      exact hu o u' (Option.some.inj q)
  have upH : ∀ b u, H b = some u → frzH (privs Xg ip) s.heap H b = some u := fun b u e => frz_same nopr b u e
  refine ⟨I.ok, ?_, hG, ⟨fun b o e n hb hx => ?_, fun b o e n hb hx => ?_, fun b o e n hx => ?_, fun b o e hx => ?_, fun b xs e => ?_, fun b o u e => ?_, fun b ps e => ?_⟩, ?_, fun x c e => ?_, ?_, fun x c e => ?_, fun p hp => ?_, ?_, I.len⟩
  · have q : s.os = sw.os := Ig.os
    exact q.trans I.os
  · refine keepB b o (old b o e) (I.base.keep b o e n hb hx) (I.base.free b o e n hx) fun z => ?_
    rcases List.mem_cons.mp (I.stkSub b z) with z | z
    · rw [z] at e
      exact absurd (Nat.lt_of_lt_of_le (Heap.lt_size e) I.ok.above) (Nat.lt_irrefl _)
    · exact hb z
  · obtain ⟨sl, e1⟩ := I.base.slot b o e n hb hx
    obtain ⟨sl', e2⟩ := slotB b _ (old b o e) e1 (I.base.free b o e n hx)
    exact ⟨sl', e2⟩
  · obtain ⟨o', e1⟩ := I.base.there b o e hx
    exact freeB b o' (old b o e) e1 (I.base.free b o e n hx)
  · obtain ⟨o', e1⟩ := I.base.there b o e hx
    exact B.there b o' (by rw [cut_get (old b o e)]; exact e1) (by simp)
  · exact upH b _ (B.tups b xs (keepH b _ (fun _ _ z => by cases z) (I.base.tups b xs e)))
  · have q := I.base.frzs b o u e
    have q2 : hideH PA Hw b = some (.frz o u) := by
      rw [hide_out fun z => ?_]
      · exact q
      · exact absurd (Nat.lt_of_lt_of_le (hfz b o u e) (hPA b z).1) (Nat.lt_irrefl _)
    exact upH b _ (B.frzs b o u q2)
  · obtain ⟨m1, e1⟩ := I.base.tbls b ps e
    obtain ⟨m2, e2⟩ := B.tbls b _ (keepH b _ (fun _ _ z => by cases z) e1)
    exact ⟨m1 ++ m2, by rw [upH b _ e2, Array.append_assoc]⟩
  · obtain ⟨m, ⟨o, es, ep, ho, r⟩, hl⟩ := I.loc
    obtain ⟨sl, e1⟩ := slotB _ o hL ho I.free
    refine ⟨m, ⟨_, es, ep, e1, r⟩, fun i x v e1 e2 e3 => ?_⟩
    obtain ⟨u, ru, l⟩ := hl i x v e1 e2 e3
    refine ⟨u, ru, ?_⟩
    rcases l with l | ⟨kk, c, e, oc, hoc, hd⟩
    · exact .inl l
    · obtain ⟨sl, e4⟩ := slotB c oc (hC x c e) hoc (I.freeC x c e)
      exact .inr ⟨kk, c, e, _, e4, hd⟩
  · obtain ⟨v, oc, hoc, hd⟩ := I.cell x c e
    obtain ⟨sl, e4⟩ := slotB c oc (hC x c e) hoc (I.freeC x c e)
    exact ⟨v, _, e4, hd⟩
  · obtain ⟨m, ⟨o, es, ep, ho, r⟩, hl⟩ := I.loc
    exact freeB _ o hL ho I.free
  · obtain ⟨v, oc, hoc, hd⟩ := I.cell x c e
    exact freeB c oc (hC x c e) hoc (I.freeC x c e)
  · obtain ⟨q1, q2, q3, q4, q5⟩ := I.pin p hp
    refine ⟨keepB _ _ (hpin p hp) q1 q2 fun z => ?_, freeB _ _ (hpin p hp) q1 q2, q3, q4, q5⟩
    rcases List.mem_cons.mp (I.stkSub _ z) with z | z
    · exact q3 z
    · exact q4 z
  · have q : HOk Xg.prog Xg.w H s.heap := Ig.hok
    rw [hP, hw] at q
    exact frz_ok q nopr
end
end MN
/-! for over a generator, in a def's body -/
namespace MN
open PySem PySem.Spec PyProof.Rows L2 GenW
/-- a target, a block, that leave the generators as they are -/
structure PGg (X : Cx) (tg : Expr) (g : TG) : Prop where
  run : ∀ (pins : List (Addr × Obj)) (s : Shared) (σ : L2.St) (H : Hp) (v : V) (u : Value) (Q : L2.St → Hp → Prop), L2.Inv X pins σ H s → RelV v u → g v σ H Q →
    wpAny (model X.prog X.w) X.A (assign tg X.env u) (fun _ s' => s'.gens = s.gens ∧ ∃ σ' H', L2.Inv X pins σ' H' s' ∧ Q σ' H') X.xe s
structure PSg (X : Cx) (body : List Stmt) (t : TS) : Prop where
  run : ∀ (pins : List (Addr × Obj)) (s : Shared) (σ : L2.St) (H : Hp) (D : Ends), L2.Inv X pins σ H s → t D σ H →
    wpAny (model X.prog X.w) X.A (execs body X.env) (fun f s' => s'.gens = s.gens ∧ SP X pins D f s') X.xe s
/-- the consumer's ghost -/
structure Gho where
  s : Shared
  H : Hp
  σ : L2.St
  PA : List Addr
noncomputable def fF (X : Cx) (n : Nat) (pins : List (Addr × Obj)) (Ps : List V → L2.St → Prop) : GFam :=
  ⟨Gho, fun g => { g.s with heap := cut n g.s.heap }, fun g => hideH g.PA g.H, fun _ => [],
    fun ys g => L2.Inv X pins g.σ g.H g.s ∧ (∀ b ∈ g.PA, n ≤ b ∧ ∃ o u, g.H b = some (.frz o u)) ∧ Ps ys g.σ ∧ n ≤ g.s.heap.objs.size, []⟩
theorem hide_nil {H : Hp} : hideH [] H = H := by
  funext b
  exact hide_out (by simp)
def nxF (am : Amb) (Ps : List V → L2.St → Prop) (ys : List V) (x : V) (H : Hp) : L2.St → Hp → Prop := fun σ' H' => Ps (ys ++ [x]) σ' ∧ am.hp (ys ++ [x]) H' ∧ Wk am H H'
def tForG (tge : TGe) (g : TG) (tb : TS) : TS := fun D σ H => tge σ H fun W H1 => ∃ (am : Amb) (Ps : List V → L2.St → Prop) (fin : List V → Prop), am.hp [] H1 ∧ Ps [] σ ∧ W am H1 (fun ys H' => fin ys ∧ am.hp ys H') ∧
  (∀ ys x σ H, am.pre (ys ++ [x]) → am.hp ys H → Ps ys σ → g x σ H fun σ2 H2 => tb { D with nx := nxF am Ps ys x H, ct := nxF am Ps ys x H, bk := D.nx } σ2 H2) ∧
  ∀ ys σ H, fin ys → am.hp ys H → Ps ys σ → D.nx σ H
section
variable {X : Cx} {k : Nat}
theorem inv_gens {pins : List (Addr × Obj)} {σ : L2.St} {H : Hp} {s : Shared} (I : L2.Inv X pins σ H s) {G : Array GenState} (hG : AllBare G) : L2.Inv X pins σ H { s with gens := G } :=
  ⟨I.ok, I.os, hG, I.base, I.loc, I.cell, I.free, I.freeC, I.pin, I.hok, I.len⟩
theorem ps_forN {x : Str} {px : Pos} {iter : Expr} {body : List Stmt} {pos : Pos} {tge : TGe} {g : TG} {tb : TS} (hx : X.xe = fun _ _ => False) (hcalm : X.calm = true) (hex : X.ex = []) (hr : Room (k + 1) X.A)
    (hi : PGe X k iter tge) (hg : PGg X (.Name x px) g) (hb : PSg X body tb) (hs : ∀ x, foldedSetIterable iter X.env x = pure x := by intro _; rfl) : PS X (.For (.Name x px) iter body [] pos) (tForG tge g tb) := by
  refine ⟨fun pins s σ H D I h => ?_⟩
  refine wpAny_For (thn (hi.run pins s σ H _ I h) fun u s' hu => ?_) hs
  obtain ⟨H1, sc, W, I1, ⟨a, gn, go, c, N, qual, scope, f, cd, σ0, rfl, ha1, ha2, hgen, hgs, hos, hbare, hl, hkp, start0, wake⟩, am, Ps, fin, hp0, ps0, hW, turn, done⟩ := hu
  have noX : ∀ {e : Value} {s : Shared}, X.xe e s → False := fun q => by rw [hx] at q; exact q
  have I' : L2.Inv X pins σ H1 s' := I1.call' (ch := []) hos (Un.kept hkp) (I1.hok.kept hkp) hbare fun b z => by simp at z
  have hd : X.A.handled = none := I1.ok.hd hcalm
  let Xg := gcx X.prog X.w X.K X.mg X.base N qual scope f cd X.A.in1 X.stack sc H1 [(a, go)]
  have Ig0 : L2.Inv Xg [] σ0 H1 s' := start0 X.A.in1 hd I1.ok.frames
  have hg0 : s'.heap.IsGen a gn := hgen _ (Ig0.pin (a, go) (List.mem_append_left _ (List.mem_singleton.mpr rfl))).1
  refine wpAny_pyIter_gen hg0 ?_
  -- what stays
  have hL : X.env.locals < sc.heap.objs.size := I1.lt
  have hC : ∀ x c, X.env.cells.lookup x = some c → c < sc.heap.objs.size := fun x c e => by
    obtain ⟨v, o, ho, _⟩ := I1.cell x c e; exact Heap.lt_size ho
  have hpin : ∀ p ∈ X.pn ++ pins, p.1 < sc.heap.objs.size := fun p hp => Heap.lt_size (I1.pin p hp).1
  have hfz : ∀ b o u, X.H_0 b = some (.frz o u) → b < sc.heap.objs.size := fun b o u e => I1.hok.lt (I1.base.frzs b o u e)
  have hfr : ∀ b ∈ frs X.stack, b < sc.heap.objs.size := fun b hb => by
    obtain ⟨_, o, ho, _⟩ := I1.stack.mem hb; exact Heap.lt_size ho
  have hns : sc.heap.objs.size ≤ s'.heap.objs.size := Nat.le_of_lt (Nat.lt_trans ha1 ha2)
  have privz : ∀ {ip : List (Addr × Obj)} {s0 : Shared} {h0 : Hp} {σg : L2.St} {H : Hp} {s : Shared}, s0.heap.objs.size = sc.heap.objs.size → (∀ p ∈ ip, sc.heap.objs.size ≤ p.1) → L2.Inv (reX Xg s0 h0) ip σg H s → ∀ b ∈ privs Xg ip, sc.heap.objs.size ≤ b := by
    intro ip s0 h0 σg H s hz hip Ig b hb
    rcases privs_of hb with rfl | ⟨y, e⟩ | ⟨p, hp, rfl⟩
    · exact Nat.le_refl _
    · have q := Ig.ok.cab y b rfl e
      have q' : s0.heap.objs.size ≤ b := q
      rw [hz] at q'; exact q'
    · rcases List.mem_append.mp hp with hp | hp
      · rw [List.mem_singleton.mp hp]; exact Nat.le_of_lt ha1
      · exact hip p hp
  -- the loop
  refine codeAny_forLoop (fun m s => ∃ (ys : List V) (σ : L2.St) (Hc : Hp) (gs : GenState) (fu : Nat), m = fu ∧ L2.Inv X pins σ Hc s ∧ s.gens[gn]? = some gs ∧ s.heap.IsGen a gn ∧ s.heap.NoLimit ∧
    gs.Goes (model X.prog X.w) X.A.in1 (REn Xg (fF X sc.heap.objs.size pins Ps) (fun ys H' => fin ys ∧ am.hp ys H')) (GYn Xg (fF X sc.heap.objs.size pins Ps) am) fu (.send .none) (s.setGen gn .running)) ?_ sizeLine
    ⟨[], σ, H1, _, sizeLine, rfl, I', hgs, hg0, hl, rfl, wake (fF X sc.heap.objs.size pins Ps) am X.A.in1 _ H1 _ hr.in1 I1.ok.frames ?_ hW⟩
  · rintro fu s ⟨ys0, σ, Hc, gs, _, rfl, I, hgs, hgi, hlim, hgo⟩
    have hgl : gn < s.gens.size := (Array.getElem?_eq_some_iff.mp hgs).1
    have goes : gs.Goes (model X.prog X.w) X.A.in1 (fun n s₀ r s => ((r = .ok (.ret .none) ∨ r = .ok .next) ∧ (fun n (_ : Shared) s => ∃ ys ip σ H, n + ys.length = sizeLine ∧ GIn Xg (fF X sc.heap.objs.size pins Ps) ip ys σ H s ∧ (fin ys ∧ am.hp ys H)) n s₀ s) ∨ ∃ e, r = .error e ∧ (fun _ _ => False) e s)
        (GYn Xg (fF X sc.heap.objs.size pins Ps) am) fu (.send .none) (s.setGen gn .running) := hgo
    refine wpAny_gsz (n := gn + 1) hgl (next_genG (A := X.A) hd hlim (by have := hr.dp; omega) hgi hgs goes (fun v s₁ gs' hbr hv => ?_) (fun s₁ hp h' hk => ?_) fun e s₁ he => he.elim)
    · intro hsz
      obtain ⟨ys, y, ip, σg, Hg, hn, rv, ⟨γ, ⟨Iw, hPA, psw, hnw⟩, zz, ⟨_, zip⟩, Ig⟩, hpre, hhp, hk⟩ := hv
      have Ig1 : L2.Inv (reX Xg { γ.s with heap := cut sc.heap.objs.size γ.s.heap } (hideH γ.PA γ.H)) ip σg Hg s₁ := Ig
      have hpz := privz (ip := ip) (by show (cut _ _).objs.size = _; exact cut_size hnw) (fun p hp => (zip p hp).1) Ig1
      have nopr := privs_none Ig1
      have somepr := privs_some Ig1
      have Ib : L2.Inv X pins γ.σ (frzH (privs Xg ip) s₁.heap Hg) (s₁.setGen gn gs') := back (Xg := Xg) Iw Ig1 rfl rfl hex rfl rfl hPA hnw hpz hL hC hpin hfz _ (allBare_setGen Ig1.bare hbr)
      have hhc : am.hp ys (frzH (privs Xg ip) s₁.heap Hg) := am.hpS _ _ _ (frz_same nopr) hhp
      have hsz1 : gn < s₁.gens.size := by
        have q : (s₁.setGen gn gs').gens.size = s₁.gens.size := setGen_size _ _ _
        have hsz' : gn + 1 ≤ (s₁.setGen gn gs').gens.size := hsz
        omega
      refine wpAny_mono (hg.run pins _ γ.σ _ y v _ Ib rv (turn ys y γ.σ _ hpre hhc psw)) (fun _ s2 h2 => ?_) fun _ _ q => (noX q).elim
      obtain ⟨g2, σ2, H2, I2, q2⟩ := h2
      refine wpAny_mono (hb.run pins s2 σ2 H2 _ I2 q2) (fun fl s3 h3 => ?_) fun _ _ q => (noX q).elim
      obtain ⟨g3, h3⟩ := h3
      have gat : s3.gens[gn]? = some gs' := by rw [g3, g2]; exact setGen_at hsz1
      have next : ∀ {σ7 : L2.St} {H7 : Hp}, L2.Inv X pins σ7 H7 s3 → nxF am Ps ys y (frzH (privs Xg ip) s₁.heap Hg) σ7 H7 → ∃ m, m < fu ∧ ∃ (ys : List V) (σ : L2.St) (Hc : Hp) (gs : GenState) (fu : Nat), m = fu ∧ L2.Inv X pins σ Hc s3 ∧ s3.gens[gn]? = some gs ∧ s3.heap.IsGen a gn ∧ s3.heap.NoLimit ∧
          gs.Goes (model X.prog X.w) X.A.in1 (REn Xg (fF X sc.heap.objs.size pins Ps) (fun ys H' => fin ys ∧ am.hp ys H')) (GYn Xg (fF X sc.heap.objs.size pins Ps) am) fu (.send .none) (s3.setGen gn .running) := by
        intro σ7 H7 I7 ⟨ps7, hp7, wk7⟩
        have nown : ∀ b ∈ privs Xg ip, ¬ am.own b := fun b hb ho => am.hpO ys Hg b hhp ho (nopr b hb)
        have fr7 : ∀ b ∈ privs Xg ip, ∀ o, s₁.heap.get? b = some o → H7 b = some (.frz o (.ext fun h' => h'.get? b = some o)) := fun b hb o e => wk7 b _ (nown b hb) (frz_in hb e)
        have same7 : ∀ b ∈ privs Xg ip, ∀ o, s₁.heap.get? b = some o → s3.heap.get? b = some o := fun b hb o e => (I7.hok b _ (fr7 b hb o e)).1
        have fz7 : ∀ b ∈ privs Xg ip, ∃ o u, H7 b = some (.frz o u) := fun b hb => by
          obtain ⟨o, e⟩ := somepr b hb
          exact ⟨o, _, fr7 b hb o e⟩
        have n7 : sc.heap.objs.size ≤ s3.heap.objs.size := by
          obtain ⟨o, e⟩ := somepr _ (priv_loc (X := Xg) (ip := ip))
          exact Nat.le_of_lt (Heap.lt_size (same7 _ priv_loc o e))
        have I7r : L2.Inv X pins σ7 H7 (s3.setGen gn .running) := inv_gens I7 (allBare_setGen I7.bare rfl)
        have Gn : GIn Xg (fF X sc.heap.objs.size pins Ps) ip (ys ++ [y]) σg (hideH (privs Xg ip) H7) (s3.setGen gn .running) := by
          refine ⟨(⟨s3.setGen gn .running, H7, σ7, privs Xg ip⟩ : Gho), ⟨I7r, fun b hb => ⟨hpz b hb, fz7 b hb⟩, ps7, n7⟩, ?_, ⟨rfl, zip⟩, ?_⟩
          · show (cut _ s3.heap).objs.size = _
            exact cut_size n7
          · exact rebase (Xg := Xg) (s0 := { γ.s with heap := cut sc.heap.objs.size γ.s.heap }) I7r Ig1 (by show (cut _ _).objs.size = _; exact cut_size hnw) rfl rfl rfl rfl rfl fz7 (fun b hb => hide_in hb) same7 n7 hfr
        have wkg : Wk am Hg (hideH (privs Xg ip) H7) := fun b o no e => by
          rw [hide_out fun z => by rw [nopr b z] at e; cases e]
          exact wk7 b o no (frz_same nopr b o e)
        have hpg : am.hp (ys ++ [y]) (hideH (privs Xg ip) H7) := am.hpL _ H7 _ (fun b ho => hide_out fun z => nown b z ho) hp7
        have kk := hk _ _ wkg hpg Gn
        have hgo3 : s3.heap.IsGen a gn := by
          have e := (Ig1.pin (a, go) (List.mem_append_left _ (List.mem_singleton.mpr rfl))).1
          exact hgen _ (same7 a (priv_pin (p := (a, go)) (List.mem_append_left _ (List.mem_singleton.mpr rfl))) go e)
        cases fu with
        | zero => exact kk.elim
        | succ m => exact ⟨m, Nat.lt_succ_self m, ys ++ [y], σ7, H7, gs', m, rfl, I7, gat, hgo3, I7.nolimit, kk⟩
      cases fl with
      | next => obtain ⟨σ7, H7, I7, q7⟩ := h3; exact next I7 q7
      | cont => obtain ⟨σ7, H7, I7, q7⟩ := h3; exact next I7 q7
      | brk => exact h3
      | ret v => exact h3
    · intro _
      obtain ⟨ys, ip, σg, Hg, hn, ⟨γ, ⟨Iw, hPA, psw, hnw⟩, zz, ⟨_, zip⟩, Ig⟩, hfin, hhp⟩ := hp
      have Ig1 : L2.Inv (reX Xg { γ.s with heap := cut sc.heap.objs.size γ.s.heap } (hideH γ.PA γ.H)) ip σg Hg s₁ := Ig
      have hpz := privz (ip := ip) (by show (cut _ _).objs.size = _; exact cut_size hnw) (fun p hp => (zip p hp).1) Ig1
      have nopr := privs_none Ig1
      have Ib : L2.Inv X pins γ.σ (frzH (privs Xg ip) s₁.heap Hg) (s₁.setGen gn .finished) := back (Xg := Xg) Iw Ig1 rfl rfl hex rfl rfl hPA hnw hpz hL hC hpin hfz _ (allBare_setGen Ig1.bare rfl)
      have Ic : L2.Inv X pins γ.σ (frzH (privs Xg ip) s₁.heap Hg) { s₁.setGen gn .finished with heap := h' } := Ib.call' (ch := []) rfl (Un.kept hk) (Ib.hok.kept hk) Ib.bare fun b z => by simp at z
      exact wpAny_execs_nil ⟨γ.σ, _, Ic, done ys γ.σ _ hfin (am.hpS _ _ _ (frz_same nopr) hhp) psw⟩
  · have I0r : L2.Inv X pins σ H1 (s'.setGen gn .running) := inv_gens I' (allBare_setGen hbare rfl)
    have Ig0' : L2.Inv (reX Xg sc H1) [] σ0 H1 s' := Ig0
    refine ⟨(⟨s'.setGen gn .running, H1, σ, []⟩ : Gho), ⟨I0r, fun b hb => (by cases hb), ps0, hns⟩, ?_, ⟨rfl, fun p hp => (by cases hp)⟩, ?_⟩
    · show (cut _ s'.heap).objs.size = _
      exact cut_size hns
    · have q := rebase (Xg := Xg) (s0 := sc) (PA := []) I0r Ig0' rfl rfl rfl rfl rfl rfl (fun b hb => (by cases hb)) (fun b hb => by rw [hide_nil]; exact privs_none Ig0' b hb) (fun b _ o e => e) hns hfr
      rw [hide_nil] at q
      show L2.Inv (reX Xg _ (hideH [] H1)) _ _ _ _
      rw [hide_nil]
      exact q
end
end MN
/-! a target and a block that leave the generators as they are -/
namespace MN
open PySem PySem.Spec PyProof.Rows L2 GenW
section
variable {X : Cx} {pins : List (Addr × Obj)} {σ : L2.St} {H : Hp} {s : Shared}
/-- a name is read: the state stays -/
theorem name_ok {E : Value → Shared → Prop} {i : Nat} {x : Str} {pos : Pos} {v : V} {Q : Value → Shared → Prop} (I : L2.Inv X pins σ H s) (hN : X.N[i]? = some x) (e : σ[i]? = some (some v)) (hv : Vis X.env.scope x) (h : ∀ u, RelV v u → Q u s)
    (hd : (x == ("__debug__" : Str)) = false := by decide) (hcd : (x == ("__classdict__" : Str)) = false := by decide) : wpAny (model X.prog X.w) X.A (eval (.Name x pos) X.env) Q E s := by
  obtain ⟨m, hn, hl⟩ := I.loc
  obtain ⟨u, r, l⟩ := hl i x v hN e hv
  rcases l with ⟨hk, hm⟩ | ⟨hk, c, hc, hcell⟩
  · exact wpAny_Name (wpAny_loadName_local I.ok.kind hk hn hm (h u r)) hd
  · rcases hk with hk | hk
    · exact wpAny_Name (wpAny_loadName_cell I.ok.kind hk hc hcell (h u r)) hd
    · exact wpAny_Name (wpAny_loadName_free I.ok.kind hk hc hcell (h u r) hcd) hd
theorem pgg_name {i : Nat} {x : Str} {pos : Pos} (hN : X.N.Nodup) (hi : X.N[i]? = some x) (hk : X.env.scope.names.lookup x = some .local) : PGg X (.Name x pos) (gName i) := by
  refine ⟨fun pins s σ H v u Q I r h => wpAny_assign_Name ?_⟩
  obtain ⟨m, hn, hl⟩ := id I.loc
  have hcls : (X.env.scope.kind == .class || (X.env.scope.kind == .module && X.env.locals != X.env.globals)) = false := by rw [I.ok.kind]; rfl
  have hiσ : i < σ.length := by rw [I.len]; exact (List.getElem?_eq_some_iff.mp hi).1
  have cne := I.cne
  refine wpAny_storeName_local hk hn (fun h' hn' hs => ?_) hcls
  have neL : ∀ b o, X.s_0.heap.get? b = some o → b ≠ X.env.locals := fun b o e => Nat.ne_of_lt (Nat.lt_of_lt_of_le (Heap.lt_size e) I.ok.above)
  refine ⟨rfl, σ.set i (some v), H, ⟨I.ok, I.os, I.bare, ⟨fun b o e n hb hx => ?_, fun b o e n hb hx => ?_, I.base.free, fun b o e hx => ?_, I.base.tups, I.base.frzs, I.base.tbls⟩, ⟨_, hn', fun j y v' e1 e2 e3 => ?_⟩, fun y c e => ?_, I.free, I.freeC, fun p hp => ?_, fun b ob e => ?_, by simpa using I.len⟩, h⟩
  · exact (hs.2 b (neL b o e)).trans (I.base.keep b o e n hb hx)
  · obtain ⟨sl, e1⟩ := I.base.slot b o e n hb hx
    exact ⟨sl, (hs.2 b (neL b o e)).trans e1⟩
  · obtain ⟨o', e1⟩ := I.base.there b o e hx
    exact ⟨o', (hs.2 b (neL b o e)).trans e1⟩
  · by_cases hj : j = i
    · subst hj
      rw [hi] at e1; cases e1
      rw [List.getElem?_set_self hiσ] at e2
      cases e2
      exact ⟨u, r, .inl ⟨hk, by simp⟩⟩
    · rw [List.getElem?_set_ne (Ne.symm hj)] at e2
      obtain ⟨u', r', q⟩ := hl j y v' e1 e2 e3
      refine ⟨u', r', ?_⟩
      rcases q with ⟨k, e⟩ | ⟨k, c, e, z⟩
      · refine .inl ⟨k, ?_⟩
        have : y ≠ x := fun e => hj (nodup_ix hN e1 (e ▸ hi))
        simp [this, e]
      · exact .inr ⟨k, c, e, z.sameBut hs (cne y c e)⟩
  · obtain ⟨w', z⟩ := I.cell y c e
    exact ⟨w', z.sameBut hs (cne y c e)⟩
  · obtain ⟨e, n, ne, nf, d⟩ := I.pin p hp
    exact ⟨(hs.2 p.1 ne).trans e, n, ne, nf, d⟩
  · refine (I.hok b ob e).stay (fun c w' hc q => (hs.2 c ?_).trans q) (fun _ q => q) fun _ _ q => q
    rintro rfl
    rcases hc with rfl | hc
    · rw [I.free] at e; cases e
    · rw [I.free] at hc; cases hc
def tApBr (i j : Nat) (n : Int) : TS := fun D σ H => ∃ p y xs, σ[i]? = some (some (.ref p)) ∧ σ[j]? = some (some y) ∧ H p = some (.lst xs) ∧ xs.length < 1000000 ∧
  (if (xs.length : Int) + 1 = n then D.bk σ (upd H p (.lst (xs ++ [y]))) else D.nx σ (upd H p (.lst (xs ++ [y]))))
/-- xs.append(y); if len(xs) == n: break -/
theorem psg_apbr {i j : Nat} {xf xw : Str} {p1 p2 p3 p4 p5 pb apos cpos cpos2 pos1 pos2 pos3 : Pos} {kk : _} {n : Int} (hi : X.N[i]? = some xf) (hj : X.N[j]? = some xw) (hvi : Vis X.env.scope xf) (hvj : Vis X.env.scope xw)
    (hg : Gl X "len") (hm : X.mg "len" = none)
    (hbase : attributeBase (.Name xf p1) "append" X.env (eval (.Name xf p1) X.env) = eval (.Name xf p1) X.env := by rfl)
    (hfew : ((backTo cpos (starEach [.Name xw p2] X.env)).all (fun x => !x.1) && (backToKw cpos (keywordEach [] X.env)).all (fun x => x.1.isSome) && decide (([.Name xw p2] : List Expr).length + ([] : List Keyword).length + (if ([] : List Keyword).isEmpty then 0 else 1) < 30)) = true := by rfl)
    (hline : (apos.endLine == cpos.line) = true := by rfl) (hs : starEach [.Name xw p2] X.env = (false, eval (.Name xw p2) X.env) :: starEach [] X.env := by rfl)
    (hsw : swapsWith (.Call (.Attribute (.Name xf p1) "append" apos) [.Name xw p2] [] cpos) none pos1.line X.env = pure false := by rfl)
    (he : starEach [.Name xf p4] X.env = (false, eval (.Name xf p4) X.env) :: starEach [] X.env := by rfl)
    (hdf : (xf == ("__debug__" : Str)) = false := by decide) (hcf : (xf == ("__classdict__" : Str)) = false := by decide) (hdw : (xw == ("__debug__" : Str)) = false := by decide) (hcw : (xw == ("__classdict__" : Str)) = false := by decide) :
    PSg X [.Expr (.Call (.Attribute (.Name xf p1) "append" apos) [.Name xw p2] [] cpos) pos1, .If (.Compare (.Call (.Name "len" p3) [.Name xf p4] [] cpos2) [.Eq] [.Constant (.int n) kk p5] pos3) [.Break pb] [] pos2] (tApBr i j n) := by
  refine ⟨fun pins s σ H D I h => ?_⟩
  obtain ⟨p, y, xs, e1, e2, hp, hlt, q⟩ := h
  have hz : xs.length < sizeLine := Nat.lt_trans hlt (by decide)
  refine wpAny_execs_cons (wpAny_Expr_any ?_ I.quiet hsw)
  refine wpAny_Call_method_late hbase hfew hline rfl (name_ok I hi e1 hvi (fun u ru => ?_) hdf hcf)
  cases ru
  obtain ⟨h1, h2⟩ := tyV_is (T := "list") I (x := .ref p) (v := .ref p) rfl (.inl ⟨rfl, xs, SqL.of hp⟩)
  refine ⟨"list", _, PySem.F.plainAttrs_list, PySem.F.slot_list_append, PySem.F.type_list_append, h1, h2, ?_⟩
  rw [hs]
  refine Calls.callWith_builtin (by rfl) (Calls.evalArgs_plain ?_)
  refine Calls.spliced_cons (name_ok I hj e2 hvj (fun u ru => ?_) hdw hcw)
  refine Calls.spliced_nil ?_
  obtain ⟨z, its, nn, r, hl, e⟩ := I.lstM hp
  refine call_meets F.slot_list_append ⟨_, e, rfl⟩ F.entry_list_append (F.args_list_append_2 _ _) (PySem.list_append p its.toArray nn u (by rw [List.size_toArray]; omega)) ⟨e, ?_⟩
  have hz1 : (xs ++ [y]).length ≤ sizeLine := by rw [List.length_append, List.length_singleton]; omega
  have I1 := I.lset (t' := s.toks) (its' := its ++ [u]) (f := (·.push u)) hp e (by simp) (r.append (.cons ru .nil)) hz1
  have hp1 : upd H p (.lst (xs ++ [y])) p = some (.lst (xs ++ [y])) := upd_same
  generalize hH1 : upd H p (.lst (xs ++ [y])) = H1 at I1 hp1 q
  refine wpAny_execs_cons (wpAny_If (wpAny_isTrue_Compare1 ?_ (by with_unfolding_all rfl)))
  refine wpAny_Call_Name_kw (ld_blt I1 hg hm PySem.boot_len ?_)
  refine PyProof.Rows.callWith_builtin1 ?_ he rfl
  rw [he]
  refine Calls.spliced_cons (name_ok I1 hi e1 hvi (fun u2 ru2 => ?_) hdf hcf)
  cases ru2
  refine Calls.spliced_nil ?_
  obtain ⟨its2, r2, pl, hz2⟩ := I1.list (SqL.of hp1)
  have hlen := r2.length
  have hn := line63
  refine Calls.call_len_list pl.isList (by simp only [List.size_toArray] <;> omega) ?_
  refine wpAny_Constant_int ?_
  rw [show ((its2.toArray.size : Nat) : Int) = (xs.length : Int) + 1 by rw [List.size_toArray, ← hlen, List.length_append, List.length_singleton]; omega]
  refine eq_int ?_
  refine wpAny_truthy_bool ?_

  by_cases hc : (xs.length : Int) + 1 = n
  · rw [if_pos hc] at q
    rw [show (((xs.length : Int) + 1 == n) = true) from by simp [hc], if_pos rfl]
    refine wpAny_execs_cons (wpAny_Break ?_)
    exact ⟨rfl, σ, H1, I1.tok _, q⟩
  · rw [if_neg hc] at q
    rw [show (((xs.length : Int) + 1 == n) = false) from by simp [hc], if_neg Bool.false_ne_true]
    refine wpAny_execs_nil ?_
    refine wpAny_execs_nil ?_
    exact ⟨rfl, σ, H1, I1.tok _, q⟩
end
end MN
/-! all words in order: plain -/
namespace MN
open PySem
def e0 : Str := Str.ofString ""
def kids (zs : List Str) (w : Str) : List Str := zs.map fun z => w ++ z
def lvl (zs : List Str) : Nat → List Str
  | 0 => [e0]
  | n + 1 => (lvl zs n).flatMap (kids zs)
def allW (zs : List Str) : Nat → List Str
  | 0 => [e0]
  | n + 1 => allW zs n ++ lvl zs (n + 1)
def tot (m : Nat) : Nat → Nat
  | 0 => 1
  | n + 1 => tot m n + m ^ (n + 1)
theorem allW_succ (zs : List Str) (n : Nat) : allW zs (n + 1) = e0 :: (allW zs n).flatMap (kids zs) := by
  induction n with
  | zero => rfl
  | succ n ih =>
    show allW zs (n + 1) ++ lvl zs (n + 2) = _
    rw [show lvl zs (n + 2) = (lvl zs (n + 1)).flatMap (kids zs) from rfl]
    conv => lhs; rw [ih]
    rw [List.cons_append, ← List.flatMap_append]
    rfl
theorem lvl_length (zs : List Str) (n : Nat) : (lvl zs n).length = zs.length ^ n := by
  induction n with
  | zero => rfl
  | succ n ih =>
    show ((lvl zs n).flatMap (kids zs)).length = _
    rw [List.length_flatMap]
    have : ((lvl zs n).map fun a => (kids zs a).length) = (lvl zs n).map fun _ => zs.length := by
      apply List.map_congr_left
      intro a _
      simp [kids]
    have s : ∀ l : List Str, (l.map fun _ => zs.length).sum = l.length * zs.length := by
      intro l
      induction l with
      | nil => simp
      | cons a l ih2 => rw [List.map_cons, List.sum_cons, ih2, List.length_cons, Nat.succ_mul]; omega
    rw [this, s, ih, Nat.pow_succ]
theorem allW_length (zs : List Str) (n : Nat) : (allW zs n).length = tot zs.length n := by
  induction n with
  | zero => rfl
  | succ n ih =>
    show (allW zs n ++ lvl zs (n + 1)).length = tot zs.length n + zs.length ^ (n + 1)
    rw [List.length_append, ih, lvl_length]
theorem flat_get {α β : Type} (f : α → Str → β) (zs : List Str) (hm : 0 < zs.length) : ∀ (l : List α) (i : Nat), (l.flatMap fun w => zs.map (f w))[i]? = (l[i / zs.length]?).bind fun w => (zs[i % zs.length]?).map (f w) := by
  intro l
  induction l with
  | nil => intro i; simp
  | cons a l ih =>
    intro i
    rw [List.flatMap_cons]
    by_cases h : i < zs.length
    · rw [List.getElem?_append_left (by simpa using h), Nat.div_eq_of_lt h, Nat.mod_eq_of_lt h]
      simp
    · have h' : zs.length ≤ i := Nat.le_of_not_lt h
      rw [List.getElem?_append_right (by simpa using h'), List.length_map, ih]
      have e1 : i / zs.length = (i - zs.length) / zs.length + 1 := by
        rw [Nat.div_eq i zs.length, if_pos ⟨hm, h'⟩]
      have e2 : (i - zs.length) % zs.length = i % zs.length := (Nat.mod_eq_sub_mod h').symm
      rw [e1, e2, List.getElem?_cons_succ]
theorem allW_next {zs : List Str} (hm : 0 < zs.length) {n i : Nat} : (allW zs (n + 1))[i + 1]? = ((allW zs n)[i / zs.length]?).bind fun w => (zs[i % zs.length]?).map fun z => w ++ z := by
  rw [allW_succ, List.getElem?_cons_succ]
  exact flat_get (fun w z => w ++ z) zs hm _ _
theorem allW_zero (zs : List Str) (n : Nat) : (allW zs n)[0]? = some e0 := by
  cases n with
  | zero => rfl
  | succ n => rw [allW_succ]; rfl
/-- the law's own number: k rounds -/
def numW (zs : List Str) : Nat → Nat → Str → Str
  | 0, _, acc => acc
  | k + 1, i, acc => if 0 < i then numW zs k ((i - 1) / zs.length) ((zs[(i - 1) % zs.length]?).getD e0 ++ acc) else numW zs k i acc
theorem numW_zero (zs : List Str) (k : Nat) (acc : Str) : numW zs k 0 acc = acc := by
  induction k with
  | zero => rfl
  | succ k ih => show (if 0 < 0 then _ else _) = _; rw [if_neg (Nat.lt_irrefl 0)]; exact ih
theorem numW_ok {zs : List Str} (hm : 0 < zs.length) : ∀ (n k i : Nat) (w acc : Str), n ≤ k → (allW zs n)[i]? = some w → numW zs k i acc = w ++ acc := by
  intro n
  induction n with
  | zero =>
    intro k i w acc _ h
    match i, h with
    | 0, h =>
      have : w = e0 := (Option.some.inj h).symm
      rw [numW_zero, this]
      exact (Str.empty_append acc).symm
  | succ n ih =>
    intro k i w acc hk h
    match k, hk with
    | k + 1, hk =>
      match i, h with
      | 0, h =>
        rw [allW_zero] at h
        have : w = e0 := (Option.some.inj h).symm
        rw [numW_zero, this]
        exact (Str.empty_append acc).symm
      | i + 1, h =>
        rw [allW_next hm] at h
        obtain ⟨v, h1, h2⟩ := Option.bind_eq_some_iff.mp h
        obtain ⟨z, h3, h4⟩ := Option.map_eq_some_iff.mp h2
        show (if 0 < i + 1 then numW zs k ((i + 1 - 1) / zs.length) ((zs[(i + 1 - 1) % zs.length]?).getD e0 ++ acc) else _) = _
        rw [if_pos (Nat.succ_pos i), Nat.add_sub_cancel, h3, ih k _ v _ (by omega) h1, ← h4]
        exact (Str.append_assoc v z acc).symm
theorem allW_take (zs : List Str) (n : Nat) : (allW zs (n + 1)).take (tot zs.length n) = allW zs n := by
  show (allW zs n ++ lvl zs (n + 1)).take _ = _
  rw [← allW_length zs n]
  exact List.take_left' rfl
/-- ascending signs -/
structure SgnOk (zs : List Str) : Prop where
  asc : zs.Pairwise fun a b => a.cps.toList < b.cps.toList
  one : ∀ z ∈ zs, ∃ c ∈ ("abcde" : Str).cps.toList, z = ⟨#[c]⟩
  pos : 0 < zs.length
  le : zs.length ≤ 5
theorem cpsL_append (a b : Str) : (a ++ b).cps.toList = a.cps.toList ++ b.cps.toList := by
  show (a.cps ++ b.cps).toList = _
  simp
theorem strLen_app (a b : Str) : (a ++ b).length = a.length + b.length := Str.length_append a b
theorem lex_same (a : List Nat) {s t : List Nat} (h : s < t) : a ++ s < a ++ t := by
  induction a with
  | nil => exact h
  | cons x a ih => exact List.cons_lt_cons_iff.mpr (.inr ⟨rfl, ih⟩)
theorem lex_app : ∀ {a b : List Nat} {s t : List Nat}, a.length = b.length → a < b → a ++ s < b ++ t
  | [], [], _, _, _, h => absurd h (List.lt_irrefl _)
  | x :: a, y :: b, s, t, hl, h => by
    rcases List.cons_lt_cons_iff.mp h with h | ⟨h1, h2⟩
    · exact List.cons_lt_cons_iff.mpr (.inl h)
    · exact List.cons_lt_cons_iff.mpr (.inr ⟨h1, lex_app (by simpa using hl) h2⟩)
theorem one_len {zs : List Str} (h : SgnOk zs) {z : Str} (hz : z ∈ zs) : z.length = 1 := by
  obtain ⟨c, _, rfl⟩ := h.one z hz
  rfl
theorem lvl_len {zs : List Str} (h : SgnOk zs) : ∀ (n : Nat) (w : Str), w ∈ lvl zs n → w.length = n := by
  intro n
  induction n with
  | zero => intro w hw; rw [List.mem_singleton.mp hw]; rfl
  | succ n ih =>
    intro w hw
    obtain ⟨v, hv, hw⟩ := List.mem_flatMap.mp hw
    obtain ⟨z, hz, rfl⟩ := List.mem_map.mp hw
    rw [strLen_app, ih v hv, one_len h hz]
theorem lvl_asc {zs : List Str} (h : SgnOk zs) (n : Nat) : (lvl zs n).Pairwise fun a b => a.cps.toList < b.cps.toList := by
  induction n with
  | zero => exact List.pairwise_singleton _ _
  | succ n ih =>
    show ((lvl zs n).flatMap (kids zs)).Pairwise _
    refine List.pairwise_flatMap.mpr ⟨fun a ha => ?_, ?_⟩
    · refine List.pairwise_map.mpr (h.asc.imp fun {s t} hst => ?_)
      rw [cpsL_append, cpsL_append]
      exact lex_same _ hst
    · refine ih.imp_of_mem fun {a b} ha hb hab x hx y hy => ?_
      obtain ⟨s, hs, rfl⟩ := List.mem_map.mp hx
      obtain ⟨t, ht, rfl⟩ := List.mem_map.mp hy
      rw [cpsL_append, cpsL_append]
      refine lex_app ?_ hab
      have h1 := lvl_len h n a ha
      have h2 := lvl_len h n b hb
      have e1 : a.cps.toList.length = a.length := by simp [Str.length]
      have e2 : b.cps.toList.length = b.length := by simp [Str.length]
      omega
theorem allW_len {zs : List Str} (h : SgnOk zs) : ∀ (n : Nat) (w : Str), w ∈ allW zs n → w.length ≤ n := by
  intro n
  induction n with
  | zero => intro w hw; rw [List.mem_singleton.mp hw]; exact Nat.le_refl _
  | succ n ih =>
    intro w hw
    rcases List.mem_append.mp hw with hw | hw
    · have := ih w hw; omega
    · have := lvl_len h _ w hw; omega
theorem allW_asc {zs : List Str} (h : SgnOk zs) (n : Nat) : (allW zs n).Pairwise ahead := by
  induction n with
  | zero => exact List.pairwise_singleton _ _
  | succ n ih =>
    refine List.pairwise_append.mpr ⟨ih, (lvl_asc h (n + 1)).imp_of_mem fun {a b} ha hb hab => .inr ⟨?_, hab⟩, fun a ha b hb => .inl ?_⟩
    · rw [lvl_len h _ a ha, lvl_len h _ b hb]
    · have h1 := allW_len h n a ha
      have h2 := lvl_len h _ b hb
      omega
theorem lvl_word {zs : List Str} (h : SgnOk zs) : ∀ (n : Nat) (w : Str), w ∈ lvl zs n → isWordS w = true := by
  intro n
  induction n with
  | zero => intro w hw; rw [List.mem_singleton.mp hw]; rfl
  | succ n ih =>
    intro w hw
    obtain ⟨v, hv, hw⟩ := List.mem_flatMap.mp hw
    obtain ⟨z, hz, rfl⟩ := List.mem_map.mp hw
    obtain ⟨c, hc, rfl⟩ := h.one z hz
    unfold isWordS
    rw [cpsL_append, List.all_append, Bool.and_eq_true]
    refine ⟨ih v hv, ?_⟩
    simp [sgn, hc]
theorem allW_word {zs : List Str} (h : SgnOk zs) : ∀ (n : Nat) (w : Str), w ∈ allW zs n → isWordS w = true := by
  intro n
  induction n with
  | zero => intro w hw; rw [List.mem_singleton.mp hw]; rfl
  | succ n ih =>
    intro w hw
    rcases List.mem_append.mp hw with hw | hw
    · exact ih w hw
    · exact lvl_word h _ w hw
theorem ord_allW {zs ws : List Str} (h : SgnOk zs) {n : Nat} (hp : ws.Perm (allW zs n)) : ord ws = allW zs n :=
  sorted_one (ord_sorted ws) (allW_asc h n) fun x => mem_ord.trans hp.mem_iff
theorem tot_le {m n : Nat} (hm : m ≤ 5) (hn : n ≤ 8) : tot m n ≤ 488281 := by
  have mono : ∀ n, tot m n ≤ tot 5 n := by
    intro n
    induction n with
    | zero => exact Nat.le_refl _
    | succ n ih => exact Nat.add_le_add ih (Nat.pow_le_pow_left hm _)
  have up : ∀ k, tot 5 n ≤ tot 5 (n + k) := by
    intro k
    induction k with
    | zero => exact Nat.le_refl _
    | succ k ih => exact Nat.le_trans ih (Nat.le_add_right _ _)
  have := up (8 - n)
  rw [show n + (8 - n) = 8 by omega] at this
  exact Nat.le_trans (mono n) (Nat.le_trans this (by decide))
end MN
/-! words_upto -/
namespace MN
open PySem PySem.Spec PyProof.Rows L2 GenW
theorem Wk.of_same {a : Amb} {H H' : Hp} (h : Same H H') : Wk a H H' := fun b o _ e => h b o e
theorem Wk.seqT {a : Amb} {K : PySem.W.Frag} {H H' : Hp} {t : Addr} {xs : List V} (e : Wk a H H') (hn : ¬ a.own t) (h : SqT K H t xs) : SqT K H' t xs := by
  rcases h with (h | ⟨o, h⟩) | h
  · exact .inl (.inl (e _ _ hn h))
  · exact .inl (.inr ⟨o, e _ _ hn h⟩)
  · exact .inr h
theorem SgnOk.are {zs : List Str} (h : SgnOk zs) : areSigns zs = true := by
  unfold areSigns
  rw [Bool.and_eq_true, Bool.and_eq_true]
  refine ⟨?_, List.all_eq_true.mpr fun z hz => ?_, ?_⟩
  · have := h.pos
    cases zs with
    | nil => exact absurd this (Nat.lt_irrefl 0)
    | cons a l => rfl
  · obtain ⟨c, hc, rfl⟩ := h.one z hz
    have : isWordS (⟨#[c]⟩ : Str) = true := by simp [isWordS, sgn, hc]
    simp [isSign, this, Str.length]
  · have hp := h.asc
    clear h
    show ((zs.zip zs.tail).all fun p => ltS p.1 p.2) = true
    induction zs with
    | nil => rfl
    | cons a l ih =>
      obtain ⟨h1, h2⟩ := List.pairwise_cons.mp hp
      cases l with
      | nil => rfl
      | cons b l =>
        show (((a, b) :: (b :: l).zip l).all fun p => ltS p.1 p.2) = true
        rw [List.all_cons, Bool.and_eq_true]
        exact ⟨decide_eq_true (h1 b List.mem_cons_self), ih h2⟩
theorem SgnOk.texts {K : PySem.W.Frag} {H : Hp} {t : Addr} {zs : List Str} (h : SgnOk zs) (ht : SqT K H t (zs.map V.str)) : TextsAt K H t zs :=
  ⟨ht, Nat.le_trans h.le (by decide), fun z hz => by rw [one_len h hz]; decide⟩
abbrev strsV (zs : List Str) : List V := zs.map V.str
/-- all words of these signs, in order -/
def spUpto (K : PySem.W.Frag) : SpM := fun vs am H Q => ∃ t zs n, vs = [.ref t, .int (n : Nat)] ∧ SgnOk zs ∧ SqT K H t (strsV zs) ∧ ¬ am.own t ∧ n ≤ 8 ∧ am.hp [] H ∧ (∀ j, am.pre (strsV ((allW zs n).take j))) ∧
  ∀ H', Wk am H H' → am.hp (strsV (allW zs n)) H' → Q (strsV (allW zs n)) H'
theorem lvl_le {zs : List Str} (h : SgnOk zs) {n : Nat} (hn : n ≤ 8) : (lvl zs n).length ≤ 488281 := by
  have h1 := tot_le h.le hn
  rw [← allW_length] at h1
  cases n with
  | zero => simp [lvl]
  | succ n =>
    have : (allW zs (n + 1)).length = (allW zs n).length + (lvl zs (n + 1)).length := by
      show (allW zs n ++ lvl zs (n + 1)).length = _
      rw [List.length_append]
    omega
theorem allW_pre (zs : List Str) (n k : Nat) : (allW zs (n + k)).take (tot zs.length n) = allW zs n := by
  induction k with
  | zero => rw [Nat.add_zero, ← allW_length, List.take_length]
  | succ k ih =>
    show (allW zs (n + k) ++ lvl zs (n + k + 1)).take _ = _
    rw [List.take_append_of_le_length, ih]
    have e := congrArg List.length ih
    rw [List.length_take, allW_length, allW_length] at e
    rw [allW_length]
    omega
theorem allW_split {zs : List Str} {n i : Nat} (h : i < n) : ∃ r, allW zs n = allW zs i ++ (lvl zs (i + 1) ++ r) := by
  obtain ⟨k, rfl⟩ : ∃ k, n = i + 1 + k := ⟨n - (i + 1), by omega⟩
  clear h
  induction k with
  | zero => exact ⟨[], by rw [List.append_nil]; rfl⟩
  | succ k ih =>
    obtain ⟨r, e⟩ := ih
    refine ⟨r ++ lvl zs (i + 1 + k + 1), ?_⟩
    show allW zs (i + 1 + k) ++ lvl zs (i + 1 + k + 1) = _
    rw [e]
    simp [List.append_assoc]
section
variable {P : Program} {w : World} {K : PySem.W.Frag} {mg : Str → Option Value} {base : Heap}
abbrev N_words_upto : List Str := ["signs", "many", "level", "length", "word", "sign"]
theorem sc_words_upto : GScope N_words_upto ["signs", "many"] (defScope (top 18)) := ⟨rfl, rfl, rfl, by decide +kernel, rfl, by decide +kernel, by decide +kernel⟩
theorem c_words_upto (A : At K mg "words_upto" (top 18)) (B : Blt mg) (GM : GlC mg "MAX_LISTED" (.int 8)) (c_require_signs : Cal P w K mg base 3 "require_signs" (spReqSigns K)) (c_require_number : Cal P w K mg base 2 "require_number" spReqNumber) :
    CalN P w K mg base 4 "words_upto" 2 (spUpto K) := by
  refine calN_of (k := 3) A sc_words_upto (fun _ _ _ _ _ _ us hl => match us, hl with | [_, _], _ => rfl) (fun f cdv A outer s H vs am H2 Q pn hr h => ?_)
  obtain ⟨t, zs, n, rfl, hz, ht, hno, hn8, hp0, hpre, hQ⟩ := h
  refine ⟨_, gsn_cons (gsn_ps rfl fun s0 h0 => ps_expr (pe_c c_require_signs hr (by decide) (by rfl) (pa_cons (pv 0) pa_nil)))
    (gsn_cons (gsn_ps rfl fun s0 h0 => ps_expr (pe_c c_require_number hr (by decide) (by rfl) (pa_cons (pv 1) (pa_cons pe_int (pa_cons (pe_gl (by rfl) GM) pa_nil)))))
    (gsn_cons (gsn_ps rfl fun s0 h0 => ps_set (i := 2) sc_words_upto.nd rfl (Or.inl rfl) (pe_lst (pa_cons pe_str pa_nil)))
    (gsn_cons (gsn_yield rfl fun s0 h0 => pe_str)
    (gsn_cons (gsn_for rfl rfl rfl (fun s0 h0 => pi_range1 (by rfl) B.range (pa_cons (pv 1) pa_nil)) (fun s0 h0 => pg_name (i := 3) sc_words_upto.nd rfl (Or.inl rfl))
      (gsn_cons (gsn_ps rfl fun s0 h0 => ps_setLc2 (i := 2) (own := [("word", 4), ("sign", 5)]) (vs1 := [5]) (g := gName 4) (g1 := gName 5) (tt := tYes) (tt1 := tYes) (by rfl) sc_words_upto.nd rfl rfl (sw_true rfl rfl rfl (by decide +kernel)) (pi_list (pv 2))
        (blkOk_by (own := [("word", 4), ("sign", 5)]) (N := N_words_upto) (sc := defScope (top 18)) (by decide +kernel)) (by decide) (fun _ _ _ _ _ => (pg_name (i := 4) sc_words_upto.nd rfl (Or.inl rfl))) (fun _ _ _ _ _ => pts_nil)
        (fun _ _ _ _ _ => piTupK (K := K) rfl (pv 0)) (fun _ _ _ _ _ => (pg_name (i := 5) sc_words_upto.nd rfl (Or.inl rfl))) (fun _ _ _ _ _ => pts_nil) (fun _ _ _ _ _ => pe_op op_add_str (pv 4) (pv 5)))
      (gsn_cons (gsn_yieldFrom rfl (fun s0 h0 => pv 2) hr.hd) gsn_nil))) gsn_nil)))), ?_⟩
  intro s0 h0
  refine ⟨_, rfl, t, zs, rfl, hz.texts ht, hz.are, fun H1 e1 => ?_⟩
  intro s1 h1
  refine ⟨_, rfl, _, _, _, rfl, ?_, by omega, by omega, ?_⟩
  · exact isInt_of (by omega) (by omega)
  intro s2 h2
  refine ⟨by decide, fun q hq => ?_⟩
  refine ⟨by decide, fun s3 h3 => ?_⟩
  have ex : Same H2 (upd H1 q (.lst [V.str e0])) := e1.trans (same_new hq)
  have nq : ¬ am.own q := fun z => am.hpO [] H2 q hp0 z (e1.free hq)
  refine ⟨?_, am.hpS _ _ _ ex hp0, fun H3 w3 hp3 => ?_⟩
  · have := hpre 1
    rw [show (allW zs n).take 1 = [e0] by cases n with | zero => rfl | succ n => rw [allW_succ]; rfl] at this
    exact this
  have wk3 : Wk am H2 H3 := (Wk.of_same ex).trans w3
  have q3 : H3 q = some (.lst (strsV (lvl zs 0))) := w3 q _ nq upd_same
  intro s4 h4
  refine ⟨_, rfl, _, rfl, by omega, by omega, ?_⟩
  refine ⟨fun i m ys σ H => m = n - i ∧ i ≤ n ∧ ys = strsV (allW zs i) ∧ Wk am H2 H ∧ am.hp ys H ∧ ∃ q x3, σ = [some (.ref t), some (.int (n : Nat)), some (.ref q), x3, none, none] ∧ H q = some (.lst (strsV (lvl zs i))),
    ⟨n, rfl, Nat.zero_le _, rfl, wk3, hp3, q, none, rfl, q3⟩, ?_⟩
  rintro i m ys σ H5 ⟨rfl, hi, rfl, wk, hp, q, x3, rfl, hq⟩
  rcases Nat.lt_or_ge i n with hlt | hge
  rotate_left
  · have e : i = n := by omega
    subst e
    exact .inl ⟨Nat.le_refl _, hQ _ wk hp⟩
  refine .inr ⟨hlt, fun ys' σ' H' => (fun i m ys σ H => m = n - i ∧ i ≤ n ∧ ys = strsV (allW zs i) ∧ Wk am H2 H ∧ am.hp ys H ∧ ∃ q x3, σ = [some (.ref t), some (.int (n : Nat)), some (.ref q), x3, none, none] ∧ H q = some (.lst (strsV (lvl zs i)))) (i + 1) (n - (i + 1)) ys' σ' H',
    fun ys' σ' H' h => ⟨n - (i + 1), by omega, h⟩, fun x H' y s5 h5 => ?_⟩
  obtain ⟨rfl, rfl⟩ := y
  intro s6 h6
  have ht5 : SqT K H' t (strsV zs) := wk.seqT hno ht
  refine ⟨_, rfl, q, rfl, ⟨_, SqL.of hq⟩, fun D hD => ?_⟩
  have big : (lvl zs (i + 1)).length ≤ 488281 := lvl_le hz (by omega)
  have part : ∀ a, (((lvl zs i).take a).flatMap (kids zs)).length ≤ (lvl zs (i + 1)).length := fun a => by
    have : lvl zs (i + 1) = ((lvl zs i).take a).flatMap (kids zs) ++ ((lvl zs i).drop a).flatMap (kids zs) := by
      rw [← List.flatMap_append, List.take_append_drop]; rfl
    rw [this, List.length_append]; omega
  refine lc2_out (walk_list (xs := strsV (lvl zs i))) (fun a H1 => Same H' H1 ∧ H1 D = some (.lst (strsV (((lvl zs i).take a).flatMap (kids zs))))) ⟨same_new hD, by rw [List.take_zero]; exact upd_same⟩ (fun a H1 _ e => Same.seq e.1 (SqL.of hq)) (fun a x H6 H6' ha e y => ?_) (fun H6 e => ?_)
  · obtain ⟨rfl, hx⟩ := y
    rw [List.getElem?_map] at hx
    obtain ⟨v, hv, rfl⟩ := Option.map_eq_some_iff.mp hx
    have vmem : v ∈ lvl zs i := List.mem_of_getElem? hv
    have tk : ((lvl zs i).take (a + 1)).flatMap (kids zs) = ((lvl zs i).take a).flatMap (kids zs) ++ kids zs v := by
      rw [List.take_add_one, hv, List.flatMap_append]; simp
    refine ⟨rfl, yes_q (iteT ⟨_, rfl, t, rfl, ⟨_, Same.seqT e.1 ht5⟩, ?_⟩)⟩
    refine lc2_in (walk_tup (xs := strsV zs)) (fun b H1 => Same H' H1 ∧ H1 D = some (.lst (strsV (((lvl zs i).take a).flatMap (kids zs) ++ (kids zs v).take b)))) ⟨e.1, by rw [List.take_zero, List.append_nil]; exact e.2⟩ (fun b H1 _ e => Same.seqT e.1 ht5) (fun b x H7 H7' hb e7 y => ?_) (fun H7 e7 => ⟨e7.1, ?_⟩)
    · obtain ⟨rfl, hx⟩ := y
      rw [List.getElem?_map] at hx
      obtain ⟨z, hz1, rfl⟩ := Option.map_eq_some_iff.mp hx
      have zmem : z ∈ zs := List.mem_of_getElem? hz1
      refine ⟨rfl, yes_q (iteT ⟨_, rfl, _, rfl, v, z, rfl, rfl, ?_, _, e7.2, ?_, fun b' o' z' => ?_, ?_⟩)⟩
      · rw [lvl_len hz i v vmem, one_len hz zmem]
        have : 100 ≤ sizeLine := by decide
        omega
      · have h1 := part (a + 1)
        rw [tk, List.length_append] at h1
        have h2 : ((kids zs v).take b).length ≤ (kids zs v).length := List.length_take_le' _ _
        have h3 : 1000000 < sizeLine := by decide
        rw [List.length_map, List.length_append]
        omega
      · rw [upd_ne (ne_of_none z' hD)]
        exact e7.1 _ _ z'
      · rw [upd_same, List.take_add_one]
        have : (kids zs v)[b]? = some (v ++ z) := by rw [kids, List.getElem?_map, hz1]; rfl
        rw [this]
        simp [List.map_append]
    · rw [e7.2, tk]
      congr 3
      have : (strsV zs).length = (kids zs v).length := by simp [kids]
      rw [this, List.take_length]
  · intro s7 h7
    have hD6 : H6 D = some (.lst (strsV (lvl zs (i + 1)))) := by
      rw [e.2]
      have : (strsV (lvl zs i)).length = (lvl zs i).length := List.length_map _
      rw [this, List.take_length]
      rfl
    have nD : ¬ am.own D := fun z => am.hpO _ H' D hp z hD
    have hall : (allW zs i).length + (lvl zs (i + 1)).length ≤ 488281 := by
      have := tot_le hz.le (show i + 1 ≤ 8 by omega)
      rw [← allW_length] at this
      have e2 : (allW zs (i + 1)).length = (allW zs i).length + (lvl zs (i + 1)).length := List.length_append
      omega
    refine ⟨_, rfl, D, strsV (lvl zs (i + 1)), rfl, hD6, nD, am.hpS _ _ _ e.1 hp, ?_, fun j hj => ?_, fun H8 w8 hp8 => ?_⟩
    · rw [List.length_map, List.length_map]
      have : 1000000 < sizeLine := by decide
      omega
    · obtain ⟨r, er⟩ := allW_split (zs := zs) hlt
      have := hpre ((allW zs i).length + (j + 1))
      rw [er, List.take_length_add_append, List.take_append_of_le_length (by rw [List.length_map] at hj; omega)] at this
      rw [← List.map_take, ← List.map_append]
      exact this
    · refine ⟨rfl, hlt, ?_, (wk.trans (Wk.of_same e.1)).trans w8, hp8, D, _, rfl, w8 D _ nD hD6⟩
      rw [← List.map_append]
      rfl
end
end MN
/-! _law_shuffled of a list or a text -/
namespace MN
open PySem PySem.Spec PyProof.Rows L2
section
variable {X : Cx}
/-- list(text) -/
theorem call_listS (hc : X.calm = true) : CallR X (.type "list") (fun xs H Q => ∃ z : Str, xs = [.str z] ∧ z.length ≤ 1000000 ∧ ∀ l, H l = none → Q (.ref l) (upd H l (.lst (signsOf z)))) := by
  intro pins s σ H xs us Q I r h
  obtain ⟨z, rfl, hz, q⟩ := h
  obtain ⟨u, rfl, t, rfl⟩ := vals1 r
  have hz1 : z.cps.size ≤ sizeLine := Nat.le_trans hz (by decide)
  refine PySem.call_list_str (hn := hz1) (I.ok.hd hc) z t fun h' tk acc' c' hk hS hacc => ?_
  have rv : Vals (signsOf z) acc'.toList := by
    have e := vals_of_get acc'.toList (fun j => V.str ⟨#[(z.cps[j]?).getD 0]⟩) fun j u hj => by
      obtain ⟨c, uu, h1, h2⟩ := hacc.2 j u (by simpa using hj)
      rw [h1, h2]
      exact ⟨_, rfl⟩
    have e2 : (List.range acc'.toList.length).map (fun j => V.str ⟨#[(z.cps[j]?).getD 0]⟩) = signsOf z := by
      apply List.ext_getElem?
      intro i
      unfold signsOf
      rw [List.getElem?_map, List.getElem?_map]
      have hl : acc'.toList.length = z.cps.size := by simpa using hacc.1
      by_cases hi : i < z.cps.size
      · rw [List.getElem?_range (by omega)]
        simp [hi]
      · rw [List.getElem?_eq_none (by simpa [hl] using Nat.le_of_not_lt hi), List.getElem?_eq_none (by simpa using Nat.le_of_not_lt hi)]
        rfl
    rw [e2] at e
    exact e
  refine ⟨.ref s.heap.objs.size, _, I.laid (t' := tk) hk (Nat.le_refl _) (show ObjOk X.prog X.w _ h' _ (.lst (signsOf z)) from ⟨?_, acc'.toList, c', rv, hS⟩), rfl, q _ (I.hok.fresh (Nat.le_refl _))⟩
  have : (signsOf z).length = z.cps.size := by simp [signsOf]
  omega
def ItemsL (K : PySem.W.Frag) (H : Hp) (x : V) (xs : List V) : Prop := (∃ l, x = .ref l ∧ SqL K H l xs) ∨ ∃ z : Str, x = .str z ∧ z.length ≤ 1000000 ∧ xs = signsOf z
theorem call_listI (hc : X.calm = true) : CallR X (.type "list") (fun vs H Q => ∃ x xs, vs = [x] ∧ ItemsL X.K H x xs ∧ ∀ l, H l = none → Q (.ref l) (upd H l (.lst xs))) := by
  intro pins s σ H vs us Q I r h
  obtain ⟨x, xs, rfl, hx, q⟩ := h
  rcases hx with ⟨l, rfl, hl⟩ | ⟨z, rfl, hz, rfl⟩
  · exact call_list_of pins s σ H _ us Q I r ⟨l, xs, rfl, .inl hl, q⟩
  · exact call_listS hc pins s σ H _ us Q I r ⟨z, rfl, hz, q⟩
end
section
variable {P : Program} {w : World} {K : PySem.W.Frag} {mg : Str → Option Value} {base : Heap}
/-- what is shuffled: a list, or a text's signs -/
def Items (K : PySem.W.Frag) (H : Hp) (p : Addr) (x : V) (xs : List V) : Prop := (∃ l, x = .ref l ∧ l ≠ p ∧ SqL K H l xs) ∨ (∃ z : Str, x = .str z ∧ xs = signsOf z)
theorem signs_len (z : Str) : (signsOf z).length = z.length := by simp [signsOf, Str.length]
def spShufI (K : PySem.W.Frag) : Sp := fun vs H Q _ => ∃ p x xs, vs = [.ref p, x] ∧ Pot H p ∧ Items K H p x xs ∧ xs.length < 100000 ∧ ∀ ys q H', ys.Perm xs → H q = none → Ex p H H' → H' q = some (.lst ys) → Q (.ref q) H'
abbrev N_law_shuffled : List Str := ["_law_pot", "_law_items", "_law_left", "_law_turn"]
theorem sc_law_shuffled : FnScope N_law_shuffled ["_law_pot", "_law_items"] (defScope (top 23)) := ⟨rfl, rfl, rfl, by decide +kernel, rfl, by decide +kernel, by decide +kernel⟩
theorem c_law_shuffled (A : At K mg "_law_shuffled" (top 23)) (B : Blt mg) (c_law_dip : Cal P w K mg base 1 "_law_dip" spDip) : Cal P w K mg base 2 "_law_shuffled" (spShufI K) := by
  refine cal_of A sc_law_shuffled (fun _ _ _ _ _ _ us hl => match us, hl with | [_, _], _ => rfl) (fun vs H Q E h => ?_) (fun _ cdv A outer s H vs Q E hr h => ?_)
  · obtain ⟨_, _, _, rfl, _⟩ := h; rfl
  · obtain ⟨p, x, xs, rfl, hp, hl, hlen, hQ⟩ := h
    refine ⟨_, (pss_cons (ps_set (i := 2) sc_law_shuffled.nd rfl (Or.inr rfl) (pe_callTy (call_listI rfl) (by rfl) B.list (by decide +kernel) (pa_cons (pv 1) pa_nil)))
      (pss_one (ps_ret (pe_lc (own := [("_law_turn", 3)]) (g := gName 3) (tt := tYes) (by rfl) sc_law_shuffled.nd (pi_range1 (by rfl) B.range (pa_cons (pe_callB call_len (by rfl) B.len (by decide +kernel) (pa_cons (pv 1) pa_nil)) pa_nil))
        (blkOk_by (own := [("_law_turn", 3)]) (N := N_law_shuffled) (sc := defScope (top 23)) (by decide +kernel)) (fun _ _ _ _ _ => (pg_name (i := 3) sc_law_shuffled.nd rfl (Or.inl rfl))) (fun _ _ _ _ _ => pts_nil)
        (fun _ _ _ _ _ => (pe_popAt K rfl (pv 2) (pe_c c_law_dip hr (by decide) (by rfl) (pa_cons (pv 0) (pa_cons (pe_callB (lenK (K := K) rfl) (by rfl) B.len (by decide +kernel) (pa_cons (pv 2) pa_nil)) pa_nil))))))))), ?_⟩
    have lenx : ∀ m, H m = none → LenV K x (upd H m (.lst xs)) xs.length := fun m hm => by
      rcases hl with ⟨l, rfl, hne, hl⟩ | ⟨z, rfl, rfl⟩
      · exact .inl ⟨xs, seqL_upd hl hm, rfl⟩
      · refine ⟨?_, signs_len z⟩
        rw [signs_len] at hlen
        exact Nat.le_trans (Nat.le_of_lt hlen) (by decide)
    have hl' : ItemsL K H x xs := by
      rcases hl with ⟨l, rfl, hne, hl⟩ | ⟨z, rfl, rfl⟩
      · exact .inl ⟨l, rfl, hl⟩
      · refine .inr ⟨z, rfl, ?_, rfl⟩
        rw [signs_len] at hlen
        omega
    refine ⟨_, rfl, x, xs, rfl, hl', fun m hm => ?_⟩
    refine ⟨_, rfl, _, xs.length, rfl, lenx m hm, _, rfl, by omega, by omega, fun D hD => ?_⟩
    have hmp : m ≠ p := by
      obtain ⟨a, b, c, e⟩ := hp
      exact (ne_of_none e hm).symm
    have hDm : D ≠ m := fun z => by rw [z, upd_same] at hD; cases hD
    have hD0 : H D = none := by rw [upd_ne hDm] at hD; exact hD
    have hDp : D ≠ p := by
      obtain ⟨a, b, c, e⟩ := hp
      exact (ne_of_none e hD0).symm
    refine lc_it (walk_range (lo := 0)) (fun i H' => Ex p H H' ∧ ∃ made left : List V, (made ++ left).Perm xs ∧ left.length + i = xs.length ∧ H' D = some (.lst made) ∧ H' m = some (.lst left)) ?_ (fun _ _ _ _ => trivial) (fun i x H1 H2 hi e y => ?_) (fun H1 e => ?_)
    · refine ⟨((Ex.refl hp).put hm hmp).put hD0 hDp, [], xs, List.Perm.refl _, by simp, upd_same, ?_⟩
      rw [upd_ne hDm.symm, upd_same]
    · obtain ⟨rfl, rfl⟩ := y
      obtain ⟨ex, made, left, hperm, hll, hD1, hm1⟩ := e
      have hi' : i < xs.length := by simpa using hi
      obtain ⟨a, b, c, hp1⟩ := ex.pot
      have hlen2 : made.length ≤ xs.length := by
        have := hperm.length_eq
        rw [List.length_append] at this
        omega
      refine ⟨rfl, yes_q (iteT ?_)⟩
      refine ⟨_, rfl, .inl ⟨rfl, _, SqL.of hm1⟩, _, rfl, _, rfl, m, left, rfl, .inl (SqL.of hm1), p, _, a, b, c, rfl, hp1, by omega, by omega, fun r a' b' c' r0 r1 => ?_⟩
      obtain ⟨y, hy, hy2, _⟩ := atI_some (xs := left) r0 r1
      have ex2 : Ex p H (upd _ p (potO a' b' c')) := ex.trans Ex.turn
      refine ⟨m, left, r, r.toNat, y, rfl, rfl, by rw [upd_ne hmp]; exact hm1, by omega, by omega, seqIx r0 r1, hy2, made, ?_, ?_, ?_⟩
      · rw [upd_ne hDm, upd_ne hDp]; exact hD1
      · have : 100000 < sizeLine := by decide
        omega
      · refine ⟨(ex2.put hm hmp).put hD0 hDp, made ++ [y], left.eraseIdx r.toNat, ?_, ?_, upd_same, ?_⟩
        · rw [List.append_assoc]
          exact (List.Perm.append_left made (perm_erase hy2)).trans hperm
        · rw [List.length_eraseIdx, if_pos (by omega)]
          omega
        · rw [upd_ne hDm.symm, upd_same]
    · obtain ⟨ex, made, left, hperm, hll, hD1, hm1⟩ := e
      have : left = [] := List.eq_nil_of_length_eq_zero (by omega)
      subst this
      rw [List.append_nil] at hperm
      exact hQ made D H1 hperm hD0 ex hD1
end
end MN
/-! _law_numbered, _law_total -/
namespace MN
open PySem PySem.Spec PyProof.Rows L2
section
variable {P : Program} {w : World} {K : PySem.W.Frag} {mg : Str → Option Value} {base : Heap}
/-- signs, as a tuple or as a text -/
def SgV (K : PySem.W.Frag) (H : Hp) (x : V) (zs : List Str) : Prop := (∃ t, x = .ref t ∧ SqT K H t (strsV zs)) ∨ ∃ z : Str, x = .str z ∧ signsOf z = strsV zs
def spNum (K : PySem.W.Frag) : Sp := fun vs H Q _ => ∃ x zs i, vs = [x, .int (i : Nat)] ∧ SgV K H x zs ∧ SgnOk zs ∧ i < 1000000 ∧ Q (.str (numW zs 12 i e0)) H
abbrev N_law_numbered : List Str := ["_law_signs", "_law_number", "_law_found", "_law_many", "_law_turn"]
theorem sc_law_numbered : FnScope N_law_numbered ["_law_signs", "_law_number"] (defScope (top 24)) := ⟨rfl, rfl, rfl, by decide +kernel, rfl, by decide +kernel, by decide +kernel⟩
theorem SgV.len {H : Hp} {x : V} {zs : List Str} (h : SgV K H x zs) (ok : SgnOk zs) : LenV K x H zs.length := by
  rcases h with ⟨t, rfl, ht⟩ | ⟨z, rfl, hz⟩
  · exact .inr ⟨_, ht, (List.length_map _).symm⟩
  · have e := congrArg List.length hz
    rw [signs_len, List.length_map] at e
    exact ⟨by rw [e]; exact Nat.le_trans ok.le (by decide), e.symm⟩
theorem SgV.ix {H : Hp} {x y : V} {zs : List Str} {Q : VK} (h : SgV K H x zs) (ok : SgnOk zs) {r : Nat} (hy : y = .int (r : Nat)) (hr : r < zs.length) (q : Q (.str ((zs[r]?).getD e0)) H) : rIx K x y H Q := by
  subst hy
  rw [List.getElem?_eq_getElem hr] at q
  rcases h with ⟨t, rfl, ht⟩ | ⟨z, rfl, hz⟩
  · refine .inr (.inl ⟨t, _, _, _, rfl, rfl, ht, atI_nat ?_, q⟩)
    rw [List.getElem?_map, List.getElem?_eq_getElem hr]; rfl
  · have e := congrArg List.length hz
    rw [signs_len, List.length_map] at e
    have hg : (signsOf z)[r]? = some (V.str zs[r]) := by rw [hz, List.getElem?_map, List.getElem?_eq_getElem hr]; rfl
    unfold signsOf at hg
    rw [List.getElem?_map] at hg
    obtain ⟨c, hc, ec⟩ := Option.map_eq_some_iff.mp hg
    refine .inr (.inr ⟨z, _, c, rfl, rfl, by rw [e]; exact Nat.le_trans ok.le (by decide), atI_nat hc, ?_⟩)
    rw [ec]; exact q
theorem c_law_numbered (A : At K mg "_law_numbered" (top 24)) (B : Blt mg) : Cal P w K mg base 1 "_law_numbered" (spNum K) := by
  refine cal_of A sc_law_numbered (fun _ _ _ _ _ _ us hl => match us, hl with | [_, _], _ => rfl) (fun vs H Q E h => ?_) (fun _ cdv A outer s H vs Q E hr h => ?_)
  · obtain ⟨_, _, _, rfl, _⟩ := h; rfl
  · obtain ⟨x, zs, i, rfl, hx, ok, hi, hQ⟩ := h
    refine ⟨_, (pss_cons (ps_par (i := 2) (j := 3) (by rfl) sc_law_numbered.nd rfl rfl (by decide) rfl rfl (pa_cons pe_str (pa_cons (pe_callB call_len (by rfl) B.len (by decide +kernel) (pa_cons (pv 0) pa_nil)) pa_nil)) (by rfl))
      (pss_cons (ps_for PassesOwn.never rfl (pi_range1 (by rfl) B.range (pa_cons pe_int pa_nil)) (pg_name (i := 4) sc_law_numbered.nd rfl (Or.inl rfl))
        (pss_one (ps_if (pt_cmpR op_gt (pv 1) pe_int (nomark _))
          (pss_cons (ps_set (i := 2) sc_law_numbered.nd rfl (Or.inl rfl) (pe_op op_add_str (pe_ix ix_seq (pv 0) (pe_op op_mod (pe_callTy call_int1 (by rfl) B.int (by decide +kernel) (pa_cons (pe_op op_sub (pv 1) pe_int) pa_nil)) (pv 3)) (fun _ _ => rfl)) (pv 2)))
          (pss_one (ps_set (i := 1) sc_law_numbered.nd rfl (Or.inl rfl) (pe_op op_fdiv (pe_op op_sub (pv 1) pe_int) (pv 3)))))
          pss_nil)))
      (pss_one (ps_ret (pv 2))))), ?_⟩
    have hm := ok.pos
    have hm5 := ok.le
    refine ⟨_, rfl, _, _, rfl, hx.len ok, _, _, rfl, ?_⟩
    refine ⟨_, rfl, (by omega), (by omega), for_it (walk_range (lo := 0)) (fun k σ H' => H' = H ∧ ∃ (j : Nat) (acc : Str) (o : Option V), σ = [some x, some (.int (j : Nat)), some (.str acc), some (.int (zs.length : Nat)), o] ∧ k ≤ 12 ∧ j < 1000000 ∧ acc.length ≤ k ∧ numW zs (12 - k) j acc = numW zs 12 i e0) ⟨rfl, i, e0, none, rfl, by omega, hi, Nat.le_refl _, rfl⟩ (fun _ _ _ _ _ => trivial) (fun k y σ H1 H2 hk e yy => ?_) (fun σ H' e => ?_)⟩
    · obtain ⟨rfl, rfl⟩ := yy
      obtain ⟨rfl, j, acc, o, rfl, _, hj, hacc, hnum⟩ := e
      have hk' : k < 12 := hk
      obtain ⟨d, hd⟩ : ∃ d, 12 - k = d + 1 := ⟨12 - k - 1, by omega⟩
      have hd' : 12 - (k + 1) = d := by omega
      rw [hd] at hnum
      refine ⟨_, rfl, _, _, rfl, rfl, _, rfl, ?_⟩
      by_cases hj0 : 0 < j
      · rw [decide_eq_true (by omega)]
        have hz : (zs[(j - 1) % zs.length]?) = some (zs[(j - 1) % zs.length]'(Nat.mod_lt _ hm)) := List.getElem?_eq_getElem _
        refine iteT ⟨_, rfl, _, rfl, _, _, rfl, rfl, .inl ⟨_, rfl, _, rfl, _, _, rfl, rfl, (by omega), ?_⟩⟩
        have em : ((j : Int) - 1) % (zs.length : Int) = (((j - 1) % zs.length : Nat) : Int) := by
          rw [Int.natCast_emod]; congr 1; omega
        have ed : ((j : Int) - 1) / (zs.length : Int) = (((j - 1) / zs.length : Nat) : Int) := by
          rw [Int.natCast_ediv]; congr 1; omega
        refine hx.ix ok (r := (j - 1) % zs.length) (by show V.int _ = V.int _; rw [em]) (Nat.mod_lt _ hm) ⟨_, rfl, _, _, rfl, rfl, ?_, ?_⟩
        · have h1 : ((zs[(j - 1) % zs.length]?).getD e0).length ≤ 1 := by
            rw [hz]
            exact Nat.le_of_eq (one_len ok (List.getElem_mem _))
          have : 100 ≤ sizeLine := by decide
          omega
        refine ⟨_, rfl, _, _, rfl, rfl, _, rfl, _, _, rfl, rfl, ⟨by omega, by omega⟩, ?_⟩
        refine ⟨rfl, (j - 1) / zs.length, (zs[(j - 1) % zs.length]?).getD e0 ++ acc, some (.int (0 + k)), ?_, by omega, ?_, ?_, ?_⟩
        · show [some x, some (V.int (((j : Int) - 1) / (zs.length : Int))), _, _, _] = _
          rw [ed]
        · exact Nat.lt_of_le_of_lt (Nat.div_le_self _ _) (by omega)
        · rw [strLen_app, hz]
          have : ((some (zs[(j - 1) % zs.length]'(Nat.mod_lt _ hm))).getD e0).length = 1 := one_len ok (List.getElem_mem _)
          omega
        · rw [hd', ← hnum]
          show _ = (if 0 < j then _ else _)
          rw [if_pos hj0]
      · have ej : j = 0 := by omega
        subst ej
        rw [decide_eq_false (by omega)]
        refine iteF ⟨rfl, 0, acc, _, rfl, by omega, by omega, by omega, ?_⟩
        rw [← hnum, numW_zero, numW_zero]
    · obtain ⟨rfl, j, acc, o, rfl, _, _, _, hnum⟩ := e
      refine ⟨_, rfl, ?_⟩
      have : acc = numW zs 12 i e0 := hnum
      rw [this]
      exact hQ
/-! ### _law_total -/
def totI (m : Nat) (n : Int) : Nat := tot m n.toNat
def spTot : Sp := fun vs H Q _ => ∃ (m : Nat) (n : Int), vs = [.int (m : Nat), .int n] ∧ m ≤ 5 ∧ -1 ≤ n ∧ n ≤ 8 ∧ ∀ H', Same H H' → Q (.int (totI m n : Nat)) H'
abbrev N_law_total : List Str := ["_law_many", "_law_length", "_law_total_here", "_law_level", "_law_turn"]
theorem sc_law_total : FnScope N_law_total ["_law_many", "_law_length"] (defScope (top 25)) := ⟨rfl, rfl, rfl, by decide +kernel, rfl, by decide +kernel, by decide +kernel⟩
theorem c_law_total (A : At K mg "_law_total" (top 25)) (B : Blt mg) : Cal P w K mg base 1 "_law_total" spTot := by
  refine cal_of A sc_law_total (fun _ _ _ _ _ _ us hl => match us, hl with | [_, _], _ => rfl) (fun vs H Q E h => ?_) (fun _ cdv A outer s H vs Q E hr h => ?_)
  · obtain ⟨_, _, rfl, _⟩ := h; rfl
  · obtain ⟨m, n, rfl, hm, hn0, hn8, hQ⟩ := h
    refine ⟨_, (pss_cons (ps_asg (pe_tup (pa_cons pe_int (pa_cons pe_int pa_nil))) (pg_tupK (K := K) (n := 2) rfl rfl (pgs_cons (pg_name (i := 2) sc_law_total.nd rfl (Or.inl rfl)) (pgs_cons (pg_name (i := 3) sc_law_total.nd rfl (Or.inl rfl)) pgs_nil))))
      (pss_cons (ps_for PassesOwn.never rfl (pi_range1 (by rfl) B.range (pa_cons (pv 1) pa_nil)) (pg_name (i := 4) sc_law_total.nd rfl (Or.inl rfl))
        (pss_cons (ps_set (i := 3) sc_law_total.nd rfl (Or.inl rfl) (pe_op op_mul (pv 3) (pv 0)))
        (pss_one (ps_set (i := 2) sc_law_total.nd rfl (Or.inl rfl) (pe_op op_add (pv 2) (pv 3))))))
      (pss_one (ps_ret (pv 2))))), ?_⟩
    refine ⟨by decide, fun q hq => ?_⟩
    refine ⟨q, _, rfl, .inl (.inl upd_same), rfl, _, _, rfl, _, _, rfl, rfl, ?_⟩
    have sm : Same H (upd H q (.tup [V.int 1, V.int 1])) := same_new hq
    generalize upd H q (.tup [V.int 1, V.int 1]) = H0 at sm ⊢
    refine ⟨_, rfl, _, rfl, (by omega), (by omega), for_it (walk_range (lo := 0)) (fun k σ H' => H' = H0 ∧ k ≤ n.toNat ∧ ∃ (o : Option V), σ = [some (.int (m : Nat)), some (.int n), some (.int (tot m k : Nat)), some (.int ((m ^ k : Nat) : Int)), o]) ⟨rfl, Nat.zero_le _, none, rfl⟩ (fun _ _ _ _ _ => trivial) (fun k y σ H1 H2 hk e yy => ?_) (fun σ H' e => ?_)⟩
    · obtain ⟨rfl, rfl⟩ := yy
      obtain ⟨rfl, _, o, rfl⟩ := e
      have hk' : k < n.toNat := hk
      refine ⟨_, rfl, _, rfl, _, _, rfl, rfl, .inr ⟨by omega, by omega⟩, ?_⟩
      refine ⟨_, rfl, _, rfl, _, _, rfl, rfl, ?_⟩
      have e1 : ((m ^ k : Nat) : Int) * (m : Int) = ((m ^ (k + 1) : Nat) : Int) := by rw [Nat.pow_succ, Int.natCast_mul]
      refine ⟨rfl, hk', some (.int (0 + k)), ?_⟩
      show [_, _, some (V.int (((tot m k : Nat) : Int) + ((m ^ k : Nat) : Int) * (m : Int))), some (V.int (((m ^ k : Nat) : Int) * (m : Int))), _] = _
      rw [e1, ← Int.natCast_add]
      rfl
    · obtain ⟨rfl, _, o, rfl⟩ := e
      exact ⟨_, rfl, hQ _ sm⟩
end
end MN
/-! the drawn signs; slices: plain -/
namespace MN
open PySem PySem.Spec PyProof.Rows L2
def one (c : Nat) : Str := ⟨#[c]⟩
theorem signsOf_one (z : Str) : signsOf z = (z.cps.toList.map one).map V.str := by
  unfold signsOf
  rw [List.map_map]; rfl
def strOf : V → Str
  | .str z => z
  | _ => e0
theorem perm_strsP {ys : List V} {zs : List Str} (h : ys.Perm (strsV zs)) : ∃ ws : List Str, ys = strsV ws ∧ ws.Perm zs := by
  refine ⟨ys.map strOf, ?_, ?_⟩
  · show ys = (ys.map strOf).map V.str
    rw [List.map_map]
    have : ys.map (V.str ∘ strOf) = ys.map id := by
      apply List.map_congr_left
      intro y hy
      obtain ⟨z, _, rfl⟩ := List.mem_map.mp (h.mem_iff.mp hy)
      rfl
    rw [this, List.map_id]
  · have := h.map strOf
    rw [List.map_map] at this
    have e : zs.map (strOf ∘ V.str) = zs.map id := List.map_congr_left fun _ _ => rfl
    rw [e, List.map_id] at this
    exact this
theorem ltCps_one (c d : Nat) : ltCps (one c).cps.toList (one d).cps.toList = decide (c < d) := by
  show (decide (c < d) || (c == d && false)) = _
  simp
theorem rising1 : ∀ (cs : List Nat) (p : Nat), risingS (one p) (cs.map one) = true → (∀ c ∈ cs, p ≤ c) ∧ cs.Pairwise (· ≤ ·)
  | [], _, _ => ⟨fun _ h => (by cases h), List.Pairwise.nil⟩
  | c :: cs, p, h => by
    have h' : (!ltCps (one c).cps.toList (one p).cps.toList && risingS (one c) (cs.map one)) = true := h
    rw [Bool.and_eq_true, ltCps_one] at h'
    obtain ⟨h1, h2⟩ := h'
    have hpc : p ≤ c := by simpa using h1
    obtain ⟨h3, h4⟩ := rising1 cs c h2
    refine ⟨fun d hd => ?_, .cons h3 h4⟩
    rcases List.mem_cons.mp hd with rfl | hd
    · exact hpc
    · exact Nat.le_trans hpc (h3 d hd)
theorem sorted1 : ∀ (cs : List Nat), sortedS (cs.map one) = true → cs.Pairwise (· ≤ ·)
  | [], _ => .nil
  | c :: cs, h => by
    obtain ⟨h1, h2⟩ := rising1 cs c h
    exact .cons h1 h2
/-- some of the five signs, sorted -/
theorem sgn_drawn {ws zs : List Str} {k : Nat} (hw : ws.Perm (("abcde" : Str).cps.toList.map one)) (hk : 0 < k) (hz : zs.Perm (ws.take k)) (hs : sortedS zs = true) : SgnOk zs := by
  have hnd : (("abcde" : Str).cps.toList.map one).Nodup := by decide +kernel
  have hws : ws.Nodup := hw.nodup_iff.mpr hnd
  have hzs : zs.Nodup := hz.nodup_iff.mpr (hws.sublist (List.take_sublist _ _))
  have hmem : ∀ z ∈ zs, ∃ c ∈ ("abcde" : Str).cps.toList, z = one c := fun z hz' => by
    have h1 := List.mem_of_mem_take (hz.mem_iff.mp hz')
    obtain ⟨c, hc, rfl⟩ := List.mem_map.mp (hw.mem_iff.mp h1)
    exact ⟨c, hc, rfl⟩
  have hl5 : ws.length = 5 := hw.length_eq
  have hzl : zs.length = min k 5 := by rw [hz.length_eq, List.length_take, hl5]
  obtain ⟨cs, rfl⟩ : ∃ cs : List Nat, zs = cs.map one := by
    refine ⟨zs.map fun z => z.cps.toList.headD 0, ?_⟩
    rw [List.map_map]
    have : zs.map (one ∘ fun z => z.cps.toList.headD 0) = zs.map id := by
      apply List.map_congr_left
      intro z hz'
      obtain ⟨c, _, rfl⟩ := hmem z hz'
      rfl
    rw [this, List.map_id]
  refine ⟨?_, hmem, by omega, by omega⟩
  have h1 := sorted1 cs hs
  have h2 : cs.Pairwise (· ≠ ·) := by
    have h3 : (cs.map one).Pairwise (· ≠ ·) := hzs
    rw [List.pairwise_map] at h3
    exact h3.imp fun {a b} h e => h (by rw [e])
  rw [List.pairwise_map]
  refine List.Pairwise.imp₂ (fun a b h h' => ?_) h1 h2
  show [a] < [b]
  exact List.cons_lt_cons_iff.mpr (.inl (Nat.lt_of_le_of_ne h h'))
theorem sgn_casesP {c : Nat} (h : sgn c = true) : c = 97 ∨ c = 98 ∨ c = 99 ∨ c = 100 ∨ c = 101 := by
  have h1 : c ∈ ("abcde" : Str).cps.toList := of_decide_eq_true h
  have h2 : ("abcde" : Str).cps.toList = [97, 98, 99, 100, 101] := by decide +kernel
  rw [h2] at h1
  simpa using h1
theorem word_okP {z : Str} (h : isWordS z = true) : PyData.strOk z = true := by
  unfold PyData.strOk
  rw [Array.all_eq_true_iff_forall_mem]
  intro c hc
  have := List.all_eq_true.mp h c (by simpa using hc)
  rcases sgn_casesP this with q | q | q | q | q <;> subst q <;> decide
theorem words_shapeP {zs : List Str} (h : ∀ z ∈ zs, isWordS z = true) : ∀ d ∈ zs.map PyData.str, d.canLay0 = true ∧ d.depth ≤ 60 := fun d hd => by
  obtain ⟨z, hz, rfl⟩ := List.mem_map.mp hd
  exact ⟨by rw [PyData.canLay0]; exact word_okP (h z hz), by rw [PyData.depth]; omega⟩
theorem cut_to (zs : List Str) {k : Int} (hk : 0 ≤ k) : cutV (strsV zs) none (some k) = strsV (zs.take k.toNat) := by
  have e : HT.sIx (strsV zs).length (strsV zs).length (some k) = min k.toNat zs.length := by
    show (if k < 0 then (k + ((strsV zs).length : Int)).toNat else min k.toNat (strsV zs).length) = _
    rw [if_neg (by omega), List.length_map]
  unfold cutV
  rw [e]
  show ((strsV zs).drop 0).take (min k.toNat zs.length - 0) = _
  rw [List.drop_zero, Nat.sub_zero, ← List.map_take]
  congr 1
  by_cases h : k.toNat ≤ zs.length
  · rw [Nat.min_eq_left h]
  · rw [Nat.min_eq_right (by omega), List.take_length, List.take_of_length_le (by omega)]
theorem cut_parts (zs : List Str) : ∃ m, cutV (strsV zs) (some (-30)) none = strsV (zs.drop m) ∧ cutV (strsV zs) none (some (-30)) = strsV (zs.take m) := by
  have e : ∀ d, HT.sIx (strsV zs).length d (some (-30)) = zs.length - 30 := fun d => by
    show (if (-30 : Int) < 0 then ((-30) + ((strsV zs).length : Int)).toNat else min (-30 : Int).toNat (strsV zs).length) = _
    rw [if_pos (by decide), List.length_map]
    omega
  refine ⟨zs.length - 30, ?_, ?_⟩
  · unfold cutV
    rw [e]
    show ((strsV zs).drop (zs.length - 30)).take ((strsV zs).length - (zs.length - 30)) = _
    rw [← List.map_drop, List.take_of_length_le]
    rw [List.length_map, List.length_drop, List.length_map]
    omega
  · unfold cutV
    rw [e]
    show ((strsV zs).drop 0).take (zs.length - 30 - 0) = _
    rw [List.drop_zero, Nat.sub_zero, ← List.map_take]
theorem shW {zs : List Str} (h : ∀ z ∈ zs, isWordS z = true) : SeqAt.shaped (.list (zs.map PyData.str)) = true := shapedL (words_shapeP h)
theorem shWT {zs : List Str} (h : ∀ z ∈ zs, isWordS z = true) : SeqAt.shaped (.tuple (zs.map PyData.str)) = true := shapedT (words_shapeP h)
theorem greatest_at {m : Nat} (h1 : 0 < m) (h5 : m ≤ 5) : ∃ g : Nat, atI [V.int 9, .int 9, .int 6, .int 5, .int 5] ((m : Int) - 1) = some (.int (g : Nat)) ∧ 0 < g ∧ g ≤ 9 ∧ ∀ n, n < g → tot m n ≤ 1000 := by
  have hm : m = 1 ∨ m = 2 ∨ m = 3 ∨ m = 4 ∨ m = 5 := by omega
  rcases hm with rfl | rfl | rfl | rfl | rfl
  · exact ⟨9, rfl, by decide, by decide, by decide⟩
  · exact ⟨9, rfl, by decide, by decide, by decide⟩
  · exact ⟨6, rfl, by decide, by decide, by decide⟩
  · exact ⟨5, rfl, by decide, by decide, by decide⟩
  · exact ⟨5, rfl, by decide, by decide, by decide⟩
end MN
/-! _law_right -/
namespace MN
open PySem PySem.Spec PyProof.Rows L2
section
variable {P : Program} {w : World} {K : PySem.W.Frag} {mg : Str → Option Value} {base : Heap}
def spRight : Sp := fun vs H Q _ => ∃ p, vs = [.ref p] ∧ Pot H p ∧ ∀ H', Ex p H H' → Q (.bl true) H'
abbrev N_law_right : List Str := ["_law_pot", "_law_signs", "_law_length", "_law_found", "_law_total_here", "_law_word", "_law_at", "_law_less", "_law_mixed"]
theorem sc_law_right : FnScope N_law_right ["_law_pot"] (defScope (top 26)) := ⟨rfl, rfl, rfl, by decide +kernel, rfl, by decide +kernel, by decide +kernel⟩
theorem pss_weak {X : Cx} {st : List Stmt} {u u' : TS} (h : PSs X st u) (hw : ∀ D σ H, u' D σ H → u D σ H) : PSs X st u' := ⟨fun pins s σ H D I q => h.run pins s σ H D I (hw D σ H q)⟩
def tTail01 (p : Addr) : TS := fun D σ H => ∃ T F zs n o4 o5 o6 o7, σ = [some (.ref p), some (.ref T), some (.int (n : Nat)), some (.ref F), o4, o5, o6, o7, none] ∧ SgnOk zs ∧ n ≤ 8 ∧ tot zs.length n ≤ 1000 ∧ Pot H p ∧ H T = some (.tup (strsV zs)) ∧ H F = some (.lst (strsV (allW zs n))) ∧
  ∀ H', Ex p H H' → D.rt (.bl true) H'
theorem wk_lA {H H' : Hp} (h : Wk lA H H') : Same H H' := fun b o e => h b o id e
theorem c_law_right (A : At K mg "_law_right" (top 26)) (B : Blt mg) (c_law_dip : Cal P w K mg base 1 "_law_dip" spDip) (c_law_shuffled : Cal P w K mg base 2 "_law_shuffled" (spShufI K))
    (c_words_upto : CalN P w K mg base 4 "words_upto" 2 (spUpto K)) (c_law_total : Cal P w K mg base 1 "_law_total" spTot) (c_is_word : Cal P w K mg base 1 "is_word" (spIsWord K)) (c_law_numbered : Cal P w K mg base 1 "_law_numbered" (spNum K))
    (c_ordered : Cal P w K mg base 3 "ordered" (spOrdered K)) : Cal P w K mg base 8 "_law_right" spRight := by
  refine cal_of (k := 7) A sc_law_right (fun _ _ _ _ _ _ us hl => match us, hl with | [_], _ => rfl) (fun vs H Q E h => ?_) (fun _ cdv A outer s H vs Q E hr h => ?_)
  · obtain ⟨_, rfl, _⟩ := h; rfl
  · obtain ⟨p, rfl, hp, hQ⟩ := h
    refine ⟨_, (pss_cons (ps_set (i := 1) sc_law_right.nd rfl (Or.inl rfl) (pe_callTy call_tuple_of (by rfl) B.tuple (by decide +kernel) (pa_cons (pe_callB cr_sortedS (by rfl) B.sorted (by decide +kernel) (pa_cons (pe_slice sl_list (pe_c c_law_shuffled hr (by decide) (by rfl) (pa_cons (pv 0) (pa_cons pe_str pa_nil))) po_none (po_some (pe_op op_add pe_int (pe_c c_law_dip hr (by decide) (by rfl) (pa_cons (pv 0) (pa_cons pe_int pa_nil)))))) pa_nil)) pa_nil)))
      (pss_cons (ps_set (i := 2) sc_law_right.nd rfl (Or.inl rfl) (pe_c c_law_dip hr (by decide) (by rfl) (pa_cons (pv 0) (pa_cons (pe_ix ix_list (pe_lst (pa_cons pe_int (pa_cons pe_int (pa_cons pe_int (pa_cons pe_int (pa_cons pe_int pa_nil)))))) (pe_op op_sub (pe_callB call_len_seq (by rfl) B.len (by decide +kernel) (pa_cons (pv 1) pa_nil)) pe_int) (fun _ _ => rfl)) pa_nil))))
      (pss_cons (ps_par (i := 3) (j := 4) (by rfl) sc_law_right.nd rfl rfl (by decide) rfl rfl (pa_cons (pe_listN (pge_call c_words_upto (hr.mono (by decide)) (by rfl) (pa_cons (pv 1) (pa_cons (pv 2) pa_nil))) hr (by rfl) B.list (by decide +kernel)) (pa_cons (pe_c c_law_total hr (by decide) (by rfl) (pa_cons (pe_callB call_len_seq (by rfl) B.len (by decide +kernel) (pa_cons (pv 1) pa_nil)) (pa_cons (pv 2) pa_nil))) pa_nil)) (by rfl))
      (pss_cons (ps_if (PW.pt (pw_or (pt_cmpR op_ne (pe_callB call_len_seq (by rfl) B.len (by decide +kernel) (pa_cons (pv 3) pa_nil)) (pv 4) (nomark _)) (pw_or1 (pt_cmpR (op_neD hr.units) (pe_lc (own := [("_law_word", 5)]) (g := gName 5) (by rfl) sc_law_right.nd (pi_list (pv 3)) (blkOk_by (own := [("_law_word", 5)]) (N := N_law_right) (sc := defScope (top 26)) (by decide +kernel)) (fun _ _ _ _ _ => (pg_name (i := 5) sc_law_right.nd rfl (Or.inl rfl))) (fun _ _ _ _ _ => pts_one (pt_not (pt_val (pe_c c_is_word hr (by decide) (by rfl) (pa_cons (pv 5) pa_nil))))) (fun _ _ _ _ _ => (pv 5))) (pe_lst pa_nil) (nomark _)))))
        (pss_one (ps_ret pe_bl))
        pss_nil)
      (pss_cons (ps_for PassesOwn.never rfl (pi_range1 (by rfl) B.range (pa_cons (pv 4) pa_nil)) (pg_name (i := 6) sc_law_right.nd rfl (Or.inl rfl))
        (pss_one (ps_if (pt_cmpR op_ne (pe_ix ix_list (pv 3) (pv 6) (fun _ _ => rfl)) (pe_c c_law_numbered hr (by decide) (by rfl) (pa_cons (pv 1) (pa_cons (pv 6) pa_nil))) (nomark _))
          (pss_one (ps_ret pe_bl))
          pss_nil)))
      (pss_cons (ps_set (i := 7) sc_law_right.nd rfl (Or.inl rfl) (pe_c c_law_total hr (by decide) (by rfl) (pa_cons (pe_callB call_len_seq (by rfl) B.len (by decide +kernel) (pa_cons (pv 1) pa_nil)) (pa_cons (pe_op op_sub (pv 2) pe_int) pa_nil))))
      (pss_cons (ps_if (PW.pt (pw_and (pt_cmpR op_gt (pv 2) pe_int (nomark _)) (pw_and1 (pt_cmpR (op_neD hr.units) (pe_listN (pge_call c_words_upto (hr.mono (by decide)) (by rfl) (pa_cons (pv 1) (pa_cons (pe_op op_sub (pv 2) pe_int) pa_nil))) hr (by rfl) B.list (by decide +kernel)) (pe_slice sl_list (pv 3) po_none (po_some (pv 7))) (nomark _)))))
        (pss_one (ps_ret pe_bl))
        pss_nil)
      (pss_weak (u' := tTail01 p) (pss_cons (ps_set (i := 8) sc_law_right.nd rfl (Or.inl rfl) (pe_callTy call_tuple_of (by rfl) B.tuple (by decide +kernel) (pa_cons (pe_op op_cat (pe_c c_law_shuffled hr (by decide) (by rfl) (pa_cons (pv 0) (pa_cons (pe_slice sl_list (pv 3) (po_some (pe_un un_neg pe_int)) po_none) pa_nil))) (pe_slice sl_list (pv 3) po_none (po_some (pe_un un_neg pe_int)))) pa_nil)))
      (pss_one (ps_ret (pe_and (pe_cmpR (op_eqD hr.units) (pe_c c_ordered hr (by decide) (by rfl) (pa_cons (pv 8) pa_nil)) (pe_callTy call_tuple_of (by rfl) B.tuple (by decide +kernel) (pa_cons (pv 3) pa_nil)) (nomark _)) (pe_one (pe_cmpR (op_eqD hr.units) (pe_listN (pge_call c_words_upto (hr.mono (by decide)) (by rfl) (pa_cons (pv 1) (pa_cons (pv 2) pa_nil))) hr (by rfl) B.list (by decide +kernel)) (pv 3) (nomark _))))))) ?tail)))))))), ?_⟩
    · rintro D σ H0 ⟨T, F, zs, n, o4, o5, o6, o7, rfl, ok, hn8, ht, hp0, hT, hF, hQ0⟩
      obtain ⟨m, hdr, htk⟩ := cut_parts (allW zs n)
      have hwlen := allW_length zs n
      have allw := allW_word ok n
      have lenw : ∀ z ∈ allW zs n, z.length ≤ 100000 := fun z hz => by have := allW_len ok n z hz; omega
      have hTp : T ≠ p := fun z => by obtain ⟨_, _, _, e⟩ := hp0; rw [z, e] at hT; cases hT
      have hFp : F ≠ p := fun z => by
        obtain ⟨a, b, c, e⟩ := hp0
        rw [z, e] at hF
        have h1 : [V.int a, V.int b, V.int c] = strsV (allW zs n) := HO.lst.inj (Option.some.inj hF)
        have h2 := congrArg (fun l : List V => l[0]?) h1
        rw [List.getElem?_map, allW_zero] at h2
        cases h2
      refine ⟨_, rfl, _, rfl, _, rfl, _, rfl, F, _, rfl, SqL.of hF, fun L1 hL1 => ?_⟩
      have ex1 := (Ex.refl hp0).new (o := .lst (cutV (strsV (allW zs n)) (some (-30)) none)) hL1
      have hT1 := same_new (o := .lst (cutV (strsV (allW zs n)) (some (-30)) none)) hL1 _ _ hT
      have hF1 := same_new (o := .lst (cutV (strsV (allW zs n)) (some (-30)) none)) hL1 _ _ hF
      have hL1' : upd H0 L1 (.lst (cutV (strsV (allW zs n)) (some (-30)) none)) L1 = some (.lst (strsV ((allW zs n).drop m))) := by rw [upd_same, hdr]
      generalize upd H0 L1 (.lst (cutV (strsV (allW zs n)) (some (-30)) none)) = H1 at ex1 hT1 hF1 hL1' ⊢
      have hL1p : L1 ≠ p := fun z => by obtain ⟨_, _, _, e⟩ := hp0; rw [z, e] at hL1; cases hL1
      have hd1 : (strsV ((allW zs n).drop m)).length ≤ 1000 := by rw [List.length_map, List.length_drop]; omega
      refine ⟨p, _, _, rfl, ex1.pot, .inl ⟨L1, rfl, hL1p, SqL.of hL1'⟩, by omega, fun ys S H2 hperm hS ex2' hS2 => ?_⟩
      obtain ⟨vs, rfl, hvs⟩ := perm_strsP hperm
      have ex2 := ex1.trans ex2'
      have hT2 := ex2'.keep _ _ hTp hT1
      have hF2 := ex2'.keep _ _ hFp hF1
      refine ⟨_, rfl, _, rfl, _, rfl, F, _, rfl, SqL.of hF2, fun L2 hL2 => ?_⟩
      have ex3 := ex2.new (o := .lst (cutV (strsV (allW zs n)) none (some (-30)))) hL2
      have hT3 := same_new (o := .lst (cutV (strsV (allW zs n)) none (some (-30)))) hL2 _ _ hT2
      have hF3 := same_new (o := .lst (cutV (strsV (allW zs n)) none (some (-30)))) hL2 _ _ hF2
      have hS3 := same_new (o := .lst (cutV (strsV (allW zs n)) none (some (-30)))) hL2 _ _ hS2
      have hL2' : upd H2 L2 (.lst (cutV (strsV (allW zs n)) none (some (-30)))) L2 = some (.lst (strsV ((allW zs n).take m))) := by rw [upd_same, htk]
      generalize upd H2 L2 (.lst (cutV (strsV (allW zs n)) none (some (-30)))) = H3 at ex3 hT3 hF3 hS3 hL2' ⊢
      have hvl : vs.length = (allW zs n).length - m := by rw [hvs.length_eq, List.length_drop]
      have big : 1000000 < sizeLine := by decide
      refine ⟨S, L2, _, _, rfl, rfl, hS3, hL2', by rw [List.length_map, List.length_map, List.length_take]; omega, fun C hC => ?_⟩
      have ex4 := ex3.new (o := .lst (strsV vs ++ strsV ((allW zs n).take m))) hC
      have hT4 := same_new (o := .lst (strsV vs ++ strsV ((allW zs n).take m))) hC _ _ hT3
      have hF4 := same_new (o := .lst (strsV vs ++ strsV ((allW zs n).take m))) hC _ _ hF3
      have hC4 : upd H3 C (.lst (strsV vs ++ strsV ((allW zs n).take m))) C = some (.lst (strsV (vs ++ (allW zs n).take m))) := by rw [upd_same, strsV, strsV, ← List.map_append]
      generalize upd H3 C (.lst (strsV vs ++ strsV ((allW zs n).take m))) = H4 at ex4 hT4 hF4 hC4 ⊢
      refine ⟨C, _, rfl, .inl ⟨SqL.of hC4, fun M hM => ?_⟩⟩
      have hmix : (vs ++ (allW zs n).take m).Perm (allW zs n) := by
        refine (hvs.append_right _).trans ?_
        refine List.perm_append_comm.trans ?_
        rw [List.take_append_drop]
      have ex5 := ex4.new (o := .tup (strsV (vs ++ (allW zs n).take m))) hM
      have hT5 := same_new (o := .tup (strsV (vs ++ (allW zs n).take m))) hM _ _ hT4
      have hF5 := same_new (o := .tup (strsV (vs ++ (allW zs n).take m))) hM _ _ hF4
      have hM5 : upd H4 M (.tup (strsV (vs ++ (allW zs n).take m))) M = some (.tup (strsV (vs ++ (allW zs n).take m))) := upd_same
      generalize upd H4 M (.tup (strsV (vs ++ (allW zs n).take m))) = H5 at ex5 hT5 hF5 hM5 ⊢
      have hml := hmix.length_eq
      refine ⟨_, rfl, M, vs ++ (allW zs n).take m, rfl, ⟨.inl (.inl hM5), by omega, fun z hz => ⟨allw z (hmix.mem_iff.mp hz), lenw z (hmix.mem_iff.mp hz)⟩⟩, fun O H6 hO e6 hO6 => ?_⟩
      rw [ord_allW ok hmix] at hO6
      have ex6 := ex5.same e6
      have hT6 := e6 _ _ hT5
      have hF6 := e6 _ _ hF5
      refine ⟨_, rfl, F, _, rfl, .inl ⟨SqL.of hF6, fun U hU => ?_⟩⟩
      have ex7 := ex6.new (o := .tup (strsV (allW zs n))) hU
      have hT7 := same_new (o := .tup (strsV (allW zs n))) hU _ _ hT6
      have hF7 := same_new (o := .tup (strsV (allW zs n))) hU _ _ hF6
      have hO7 := same_new (o := .tup (strsV (allW zs n))) hU _ _ hO6
      have hU7 : upd H6 U (.tup (strsV (allW zs n))) U = some (.tup (strsV (allW zs n))) := upd_same
      generalize upd H6 U (.tup (strsV (allW zs n))) = H7 at ex7 hT7 hF7 hO7 hU7 ⊢
      refine ⟨_, _, dpT (.inl (.inl hO7)), dpT (.inl (.inl hU7)), shWT allw, shWT allw, _, rfl, ?_⟩
      rw [eqv_self (shWT allw)]
      refine iteT ⟨_, rfl, _, rfl, rfl, T, zs, n, rfl, ok, .inl (.inl hT7), id, hn8, trivial, fun _ => trivial, fun H8 wk8 _ F3 hF3' => ?_⟩
      have ex9 := (ex7.same (wk_lA wk8)).new (o := .lst (strsV (allW zs n))) hF3'
      have hF9 := same_new (o := .lst (strsV (allW zs n))) hF3' _ _ (wk_lA wk8 _ _ hF7)
      have hG9 : upd H8 F3 (.lst (strsV (allW zs n))) F3 = some (.lst (strsV (allW zs n))) := upd_same
      generalize upd H8 F3 (.lst (strsV (allW zs n))) = H9 at ex9 hF9 hG9 ⊢
      refine ⟨_, rfl, _, _, dpL (SqL.of hG9), dpL (SqL.of hF9), shW allw, shW allw, ?_⟩
      rw [eqv_self (shW allw)]
      exact hQ0 _ ex9
    -- the signs
    refine ⟨_, rfl, p, _, _, rfl, hp, .inr ⟨_, rfl, rfl⟩, by decide, fun ys q1 H1 hperm hq1 ex1 h1 => ?_⟩
    rw [signsOf_one] at hperm
    obtain ⟨ws, rfl, hws⟩ := perm_strsP hperm
    obtain ⟨a1, b1, c1, hp1⟩ := ex1.pot
    have nqp : q1 ≠ p := by obtain ⟨_, _, _, e⟩ := hp; exact (ne_of_none e hq1).symm
    refine ⟨_, rfl, p, _, a1, b1, c1, rfl, hp1, by omega, by omega, fun r a2 b2 c2 r0 r1 => ?_⟩
    have hq1' : upd H1 p (potO a2 b2 c2) q1 = some (.lst (strsV ws)) := by rw [upd_ne nqp]; exact h1
    have ex2 : Ex p H (upd H1 p (potO a2 b2 c2)) := ex1.trans Ex.turn
    generalize upd H1 p (potO a2 b2 c2) = H2 at ex2 hq1' ⊢
    refine ⟨_, _, rfl, rfl, _, rfl, q1, strsV ws, rfl, SqL.of hq1', fun l hl => ?_⟩
    have ex3 := ex2.new (o := .lst (cutV (strsV ws) none (some (1 + r)))) hl
    have hl3 : upd H2 l (.lst (cutV (strsV ws) none (some (1 + r)))) l = some (.lst (strsV (ws.take (1 + r).toNat))) := by rw [upd_same, cut_to ws (by omega)]
    generalize upd H2 l (.lst (cutV (strsV ws) none (some (1 + r)))) = H3 at ex3 hl3 ⊢
    have hwl : ws.length = 5 := hws.length_eq
    refine ⟨l, ws.take (1 + r).toNat, rfl, SqL.of hl3, ?_, fun zs S hzp hzs hS => ?_⟩
    · rw [List.length_take]; omega
    have ok : SgnOk zs := sgn_drawn hws (by omega) hzp hzs
    refine ⟨S, _, rfl, .inl ⟨SqL.of upd_same, fun T hT => ?_⟩⟩
    have ex4 := (ex3.new (o := .lst (strsV zs)) hS).new (o := .tup (strsV zs)) hT
    have hT4 : upd (upd H3 S (.lst (strsV zs))) T (.tup (strsV zs)) T = some (.tup (strsV zs)) := upd_same
    generalize upd (upd H3 S (.lst (strsV zs))) T (.tup (strsV zs)) = H4 at ex4 hT4 ⊢
    have nTp : ∀ {H' : Hp}, Pot H' p → H' T = some (.tup (strsV zs)) → T ≠ p := fun ⟨_, _, _, e⟩ e' z => by rw [z, e] at e'; cases e'
    have hTp := nTp ex4.pot hT4
    have hzl : (strsV zs).length = zs.length := List.length_map _
    -- the length
    refine ⟨_, rfl, by decide, fun G hG => ?_⟩
    have ex5 := ex4.new (o := .lst [V.int 9, .int 9, .int 6, .int 5, .int 5]) hG
    have hT5 : upd H4 G (.lst [V.int 9, .int 9, .int 6, .int 5, .int 5]) T = some (.tup (strsV zs)) := same_new hG _ _ hT4
    have hG5 : upd H4 G (.lst [V.int 9, .int 9, .int 6, .int 5, .int 5]) G = some (.lst [V.int 9, .int 9, .int 6, .int 5, .int 5]) := upd_same
    generalize upd H4 G (.lst [V.int 9, .int 9, .int 6, .int 5, .int 5]) = H5 at ex5 hT5 hG5 ⊢
    obtain ⟨g, hat, g0, g9, gt⟩ := greatest_at ok.pos ok.le
    obtain ⟨a3, b3, c3, hp5⟩ := ex5.pot
    refine ⟨_, rfl, T, _, rfl, .inr (.inl (.inl hT5)), _, _, rfl, rfl, G, _, _, .int (g : Nat), rfl, rfl, SqL.of hG5, ?_, p, (g : Nat), a3, b3, c3, rfl, hp5, by omega, by omega, fun rr a4 b4 c4 rr0 rr1 => ?_⟩
    · rw [hzl]; exact hat
    obtain ⟨n, rfl⟩ : ∃ n : Nat, rr = n := ⟨rr.toNat, by omega⟩
    have hn9 : n < g := by omega
    have ex6 : Ex p H (upd H5 p (potO a4 b4 c4)) := ex5.trans Ex.turn
    have hT6 : upd H5 p (potO a4 b4 c4) T = some (.tup (strsV zs)) := by rw [upd_ne hTp]; exact hT5
    generalize upd H5 p (potO a4 b4 c4) = H6 at ex6 hT6 ⊢
    have htot := gt n hn9
    have hwlen := allW_length zs n
    have allw := allW_word ok n
    have lenw : ∀ z ∈ allW zs n, z.length ≤ 100000 := fun z hz => by have := allW_len ok n z hz; omega
    have big : 1000000 < sizeLine := by decide
    have hsl : (strsV (allW zs n)).length = (allW zs n).length := List.length_map _
    -- all words, the total
    refine ⟨_, rfl, _, rfl, rfl, T, zs, n, rfl, ok, .inl (.inl hT6), id, by omega, trivial, fun _ => trivial, fun H7 wk7 _ F hF => ?_⟩
    have ex7 := (ex6.same (wk_lA wk7)).new (o := .lst (strsV (allW zs n))) hF
    have hT7 : upd H7 F (.lst (strsV (allW zs n))) T = some (.tup (strsV zs)) := same_new hF _ _ (wk_lA wk7 _ _ hT6)
    have hF7 : upd H7 F (.lst (strsV (allW zs n))) F = some (.lst (strsV (allW zs n))) := upd_same
    generalize upd H7 F (.lst (strsV (allW zs n))) = H8 at ex7 hT7 hF7 ⊢
    refine ⟨_, rfl, T, _, rfl, .inr (.inl (.inl hT7)), _, rfl, (strsV zs).length, n, rfl, by rw [hzl]; exact ok.le, by omega, by omega, fun H9 e9 => ?_⟩
    have ex9 := ex7.same e9
    have hT9 := e9 _ _ hT7
    have hF9 := e9 _ _ hF7
    have htt : totI (strsV zs).length (n : Nat) = tot zs.length n := by rw [hzl]; rfl
    rw [htt]
    refine ⟨_, _, rfl, ?_⟩
    -- the first test
    refine ⟨_, rfl, F, _, rfl, .inl (SqL.of hF9), _, rfl, rfl, _, rfl, ?_⟩
    rw [show (!decide (V.int ((strsV (allW zs n)).length : Int) = V.int (tot zs.length n : Nat))) = false from by rw [hsl, hwlen]; simp]
    refine iteF ⟨_, rfl, F, rfl, ⟨_, SqL.of hF9⟩, fun D hD => ?_⟩
    refine lc_lstE (SqL.of hF9) hD (by rw [hsl]; omega) (fun x => !isWord x) (fun x => x) (fun x _ => rfl) (fun x hx H2 e2 Q q => ?_) (fun x hx _ H2 e2 Q q => ⟨_, rfl, q _ (Same.refl _)⟩) (fun HA eA hDA => ?_)
    · obtain ⟨z, hz, rfl⟩ := List.mem_map.mp hx
      exact ⟨_, rfl, _, rfl, .str (lenw z hz), fun H3 e3 => ⟨_, rfl, q _ e3⟩⟩
    have hnil : (List.filter (fun x => !isWord x) (strsV (allW zs n))) = [] := by
      refine List.filter_eq_nil_iff.mpr fun x hx => ?_
      obtain ⟨z, hz, rfl⟩ := List.mem_map.mp hx
      have : isWord (.str z) = true := allw z hz
      rw [this]; simp
    rw [hnil] at hDA
    refine ⟨by decide, fun E hE => ?_⟩
    have hDB : upd HA E (.lst []) D = some (.lst []) := same_new hE _ _ hDA
    have hEB : upd HA E (.lst []) E = some (.lst []) := upd_same
    have exB := (ex9.same eA).new (o := .lst []) hE
    have hTB := same_new (o := .lst []) hE _ _ (eA _ _ hT9)
    have hFB := same_new (o := .lst []) hE _ _ (eA _ _ hF9)
    generalize upd HA E (.lst []) = HB at hDB hEB exB hTB hFB ⊢
    refine ⟨_, _, dpL (zs := []) (SqL.of hDB), dpL (zs := []) (SqL.of hEB), shW (zs := []) (fun _ h => by cases h), shW (zs := []) (fun _ h => by cases h), _, rfl, ?_⟩
    rw [eqv_self (shW (zs := []) (fun _ h => by cases h))]
    refine iteF ?_
    -- each word by its number
    refine ⟨_, rfl, _, rfl, by omega, by omega, ?_⟩
    refine for_it (walk_range (lo := 0)) (fun k σ H' => H' = HB ∧ k ≤ tot zs.length n ∧ ∃ o5 o6, σ = [some (.ref p), some (.ref T), some (.int (n : Nat)), some (.ref F), some (.int (tot zs.length n : Nat)), o5, o6, none, none]) ⟨rfl, Nat.zero_le _, _, _, rfl⟩ (fun _ _ _ _ _ => trivial) (fun k y σ H1 H2 hk e yy => ?_) (fun σ H' e => ?_)
    · obtain ⟨rfl, rfl⟩ := yy
      obtain ⟨rfl, _, o5, o6, rfl⟩ := e
      have hk' : k < tot zs.length n := hk
      have hka : k < (allW zs n).length := by rw [hwlen]; exact hk'
      have hz : (0 : Int) + (k : Nat) = (k : Nat) := by omega
      refine ⟨_, rfl, _, rfl, F, _, _, .str (allW zs n)[k], rfl, rfl, SqL.of hFB, ?_, _, rfl, _, rfl, .ref T, zs, k, ?_, .inl ⟨T, rfl, .inl (.inl hTB)⟩, ok, by omega, rfl, _, rfl, ?_⟩
      · rw [hz]
        refine atI_nat ?_
        rw [List.getElem?_map, List.getElem?_eq_getElem hka]; rfl
      · show [V.ref T, V.int (0 + (k : Nat))] = _
        rw [hz]
      have hnum := numW_ok ok.pos n 12 k (allW zs n)[k] e0 (by omega) (List.getElem?_eq_getElem hka)
      have he : (allW zs n)[k] ++ e0 = (allW zs n)[k] := Str.append_empty _
      rw [hnum, he]
      rw [show (!decide (V.str (allW zs n)[k] = V.str (allW zs n)[k])) = false by simp]
      exact iteF ⟨rfl, hk', _, _, rfl⟩
    obtain ⟨rfl, _, o5, o6, rfl⟩ := e
    -- with one sign less
    refine ⟨_, rfl, T, _, rfl, .inr (.inl (.inl hTB)), _, rfl, _, _, rfl, rfl, (strsV zs).length, _, rfl, by rw [hzl]; exact ok.le, by omega, by omega, fun HC eC => ?_⟩
    have exC := exB.same eC
    have hTC := eC _ _ hTB
    have hFC := eC _ _ hFB
    refine ⟨_, rfl, _, _, rfl, rfl, _, rfl, ?_⟩
    by_cases hn0 : 0 < n
    · rw [decide_eq_true (by omega)]
      obtain ⟨m, rfl⟩ : ∃ m, n = m + 1 := ⟨n - 1, by omega⟩
      refine iteT ⟨_, rfl, _, rfl, _, _, rfl, rfl, rfl, T, zs, m, ?_, ok, .inl (.inl hTC), id, by omega, trivial, fun _ => trivial, fun HD wkD _ F2 hF2 => ?_⟩
      · show [V.ref T, V.int (((m + 1 : Nat) : Int) - 1)] = _
        congr 3
        omega
      have exD := (exC.same (wk_lA wkD)).new (o := .lst (strsV (allW zs m))) hF2
      have hTD := same_new (o := .lst (strsV (allW zs m))) hF2 _ _ (wk_lA wkD _ _ hTC)
      have hFD := same_new (o := .lst (strsV (allW zs m))) hF2 _ _ (wk_lA wkD _ _ hFC)
      have hF2D : upd HD F2 (.lst (strsV (allW zs m))) F2 = some (.lst (strsV (allW zs m))) := upd_same
      generalize upd HD F2 (.lst (strsV (allW zs m))) = HE at exD hTD hFD hF2D ⊢
      have hti : totI (strsV zs).length (((m + 1 : Nat) : Int) - 1) = tot zs.length m := by
        rw [hzl]
        unfold totI
        congr 1
        omega
      refine ⟨_, rfl, _, rfl, _, rfl, F, _, rfl, SqL.of hFD, fun Wd hWd => ?_⟩
      have hcut : cutV (strsV (allW zs (m + 1))) none (some ((totI (strsV zs).length (((m + 1 : Nat) : Int) - 1) : Nat) : Int)) = strsV (allW zs m) := by
        rw [hti, cut_to _ (by omega), Int.toNat_natCast, allW_take]
      have exG := exD.new (o := .lst (cutV (strsV (allW zs (m + 1))) none (some ((totI (strsV zs).length (((m + 1 : Nat) : Int) - 1) : Nat) : Int)))) hWd
      have hTG := same_new (o := .lst (cutV (strsV (allW zs (m + 1))) none (some ((totI (strsV zs).length (((m + 1 : Nat) : Int) - 1) : Nat) : Int)))) hWd _ _ hTD
      have hFG := same_new (o := .lst (cutV (strsV (allW zs (m + 1))) none (some ((totI (strsV zs).length (((m + 1 : Nat) : Int) - 1) : Nat) : Int)))) hWd _ _ hFD
      have hF2G := same_new (o := .lst (cutV (strsV (allW zs (m + 1))) none (some ((totI (strsV zs).length (((m + 1 : Nat) : Int) - 1) : Nat) : Int)))) hWd _ _ hF2D
      have hWG : upd HE Wd (.lst (cutV (strsV (allW zs (m + 1))) none (some ((totI (strsV zs).length (((m + 1 : Nat) : Int) - 1) : Nat) : Int)))) Wd = some (.lst (strsV (allW zs m))) := by rw [upd_same, hcut]
      generalize upd HE Wd (.lst (cutV (strsV (allW zs (m + 1))) none (some ((totI (strsV zs).length (((m + 1 : Nat) : Int) - 1) : Nat) : Int)))) = HG at exG hTG hFG hF2G hWG ⊢
      refine ⟨_, _, dpL (SqL.of hF2G), dpL (SqL.of hWG), shW (allW_word ok m), shW (allW_word ok m), _, rfl, ?_⟩
      rw [eqv_self (shW (allW_word ok m))]
      exact iteF ⟨T, F, zs, m + 1, _, _, _, _, rfl, ok, by omega, htot, exG.pot, hTG, hFG, fun H' e' => hQ _ (exG.trans e')⟩
    · rw [decide_eq_false (by omega)]
      exact iteF ⟨T, F, zs, n, _, _, _, _, rfl, ok, by omega, htot, exC.pot, hTC, hFC, fun H' e' => hQ _ (exC.trans e')⟩
end
end MN
/-! the law of all words in order -/
namespace MN
open PySem PySem.Spec PyProof.Rows L2 GenW
def five : List Str := ["a", "b", "c", "d", "e"]
theorem five_ok : SgnOk five := by
  refine ⟨by decide +kernel, fun z hz => ?_, by decide, by decide⟩
  have h : five = ("abcde" : Str).cps.toList.map fun c => (⟨#[c]⟩ : Str) := by decide +kernel
  rw [h] at hz
  obtain ⟨c, hc, rfl⟩ := List.mem_map.mp hz
  exact ⟨c, hc, rfl⟩
theorem sign_ok {z : Str} (h : ∃ c ∈ ("abcde" : Str).cps.toList, z = ⟨#[c]⟩) : SgnOk [z] := by
  refine ⟨List.pairwise_singleton _ _, fun y hy => ?_, Nat.one_pos, by show 1 ≤ 5; decide⟩
  rw [List.mem_singleton.mp hy]; exact h
/-- the consumer has what was taken in the list at q -/
def amF (q : Addr) : Amb := ⟨fun b => b = q, fun ys => ∃ j, ys = strsV ((allW five 8).take j), fun ys H => H q = some (.lst ys), fun ys H H' h e => (h q rfl).trans e, fun ys H b e hb => by rw [hb, e]; exact fun z => by cases z⟩
theorem five_len : (allW five 8).length = 488281 := by rw [allW_length]; decide
theorem first40 : ∀ i, i < 40 → ((allW five 8).take 40)[i]? = some (numW five 12 i e0) := by
  intro i hi
  have hi' : i < (allW five 8).length := by rw [five_len]; omega
  have h := numW_ok five_ok.pos 8 12 i (allW five 8)[i] e0 (by decide) (List.getElem?_eq_getElem hi')
  have he : (allW five 8)[i] ++ e0 = (allW five 8)[i] := Str.append_empty _
  rw [h, he, List.getElem?_take_of_lt hi, List.getElem?_eq_getElem hi']
def numV : V → V
  | .int i => .str (numW five 12 i.toNat e0)
  | _ => .non
theorem nums40 : ((rangeV 40).filter fun _ => true).map numV = strsV ((allW five 8).take 40) := by
  rw [filter_all]
  apply List.ext_getElem?
  intro i
  rw [List.getElem?_map, List.getElem?_map]
  by_cases hi : i < 40
  · rw [first40 i hi]
    unfold rangeV
    rw [List.getElem?_map, List.getElem?_range hi]
    rfl
  · have h1 : (rangeV 40).length = 40 := by simp [rangeV]
    have h2 : ((allW five 8).take 40).length ≤ 40 := List.length_take_le _ _
    rw [List.getElem?_eq_none (by omega), List.getElem?_eq_none (by omega)]
    rfl
theorem abcde_five : signsOf "abcde" = strsV five := by decide +kernel
section
variable {P : Program} {w : World} {K : PySem.W.Frag} {mg : Str → Option Value} {base : Heap}
def spLaw (K : PySem.W.Frag) : Sp := fun vs H Q _ => ∃ (a : Addr) (ns : List Int), vs = [.ref a] ∧ SqL K H a (ns.map V.int) ∧ ns.length ≤ 1000 ∧ ∀ H', Q (.bl true) H'
abbrev N_law : List Str := ["_law_script", "_law_at", "_law_found", "_law_word"]
theorem sc_law : FnScope N_law ["_law_script"] (defScope (top 27)) := ⟨rfl, rfl, rfl, by decide +kernel, rfl, by decide +kernel, by decide +kernel⟩
theorem f_law {f : Addr} {fd : FuncData} (F : FunD K "law" "law" (defArgs (top 27)) (defBody (top 27)) (defScope (top 27)) [] [] f fd) (B : Blt mg) (c_law_filled : Cal P w K mg base 1 "_law_filled" (spFilled K)) (c_law_right : Cal P w K mg base 8 "_law_right" spRight)
    (c_words_upto : CalN P w K mg base 4 "words_upto" 2 (spUpto K)) (c_law_numbered : Cal P w K mg base 1 "_law_numbered" (spNum K)) : FnG P w K mg base 9 f fd ["_law_script"] (spLaw K) := by
  refine fnG_of (k := 8) F sc_law (fun vs H Q E h => ?_) (fun cdv A outer s H vs Q E gd hr h => ?_)
  · obtain ⟨_, _, rfl, _⟩ := h; rfl
  · obtain ⟨a, ns, rfl, ha, hn, hQ⟩ := h
    refine ⟨_, (pss_cons (ps_for PassesOwn.never rfl (pi_range1 (by rfl) B.range (pa_cons (pe_callB (call_max2 rfl) (by rfl) B.max (by decide +kernel) (pa_cons pe_int (pa_cons (pe_callB (call_min2 rfl) (by rfl) B.min (by decide +kernel) (pa_cons pe_int (pa_cons (pe_callB call_len_seq (by rfl) B.len (by decide +kernel) (pa_cons (pv 0) pa_nil)) pa_nil))) pa_nil))) pa_nil)) (pg_name (i := 1) sc_law.nd rfl (Or.inl rfl))
        (pss_one (ps_if (pt_not (pt_val (pe_c c_law_right hr (by decide) (by rfl) (pa_cons (pe_c c_law_filled hr (by decide) (by rfl) (pa_cons (pv 0) (pa_cons (pv 1) pa_nil))) pa_nil))))
          (pss_one (ps_ret pe_bl))
          pss_nil)))
      (pss_cons (ps_set (i := 2) sc_law.nd rfl (Or.inl rfl) (pe_lst pa_nil))
      (pss_cons (ps_forN (k := 4) rfl rfl rfl (hr.mono (by decide)) (pge_call c_words_upto (hr.mono (by decide)) (by rfl) (pa_cons (pe_tup (pa_cons pe_str (pa_cons pe_str (pa_cons pe_str (pa_cons pe_str (pa_cons pe_str pa_nil)))))) (pa_cons pe_int pa_nil))) (pgg_name (i := 3) sc_law.nd rfl rfl) (psg_apbr (i := 2) (j := 3) rfl rfl (Or.inl rfl) (Or.inl rfl) (by rfl) B.len))
      (pss_cons (ps_if (pt_cmpR (op_neD hr.units) (pv 2) (pe_lc (own := [("_law_at", 1)]) (g := gName 1) (tt := tYes) (by rfl) sc_law.nd (pi_range1 (by rfl) B.range (pa_cons pe_int pa_nil)) (blkOk_by (own := [("_law_at", 1)]) (N := N_law) (sc := defScope (top 27)) (by decide +kernel)) (fun _ _ _ _ _ => (pg_name (i := 1) sc_law.nd rfl (Or.inl rfl))) (fun _ _ _ _ _ => pts_nil) (fun _ _ _ _ _ => pe_c c_law_numbered hr (by decide) (by rfl) (pa_cons pe_str (pa_cons (pv 1) pa_nil)))) (nomark _))
        (pss_one (ps_ret pe_bl))
        pss_nil)
      (pss_one (ps_ret (pe_and (pe_cmpR (op_eqD hr.units) (pe_listN (pge_call c_words_upto (hr.mono (by decide)) (by rfl) (pa_cons (pe_tup (pa_cons pe_str pa_nil)) (pa_cons pe_int pa_nil))) (hr.mono (by decide)) (by rfl) B.list (by decide +kernel)) (pe_lst (pa_cons pe_str pa_nil)) (nomark _))
        (pe_one (pe_cmpR op_eq (pe_ix ix_list (pe_listN (pge_call c_words_upto (hr.mono (by decide)) (by rfl) (pa_cons (pe_tup (pa_cons pe_str pa_nil)) (pa_cons pe_int pa_nil))) (hr.mono (by decide)) (by rfl) B.list (by decide +kernel)) pe_int (fun _ _ => rfl)) pe_str (nomark _)))))))))), ?_⟩
    refine ⟨_, rfl, a, _, rfl, .inl ha, _, _, rfl, _, _, rfl, _, rfl, ?_, ?_, for_it (walk_range (lo := 0)) (fun i σ H' => SqL K H' a (ns.map V.int) ∧ ∃ o1, σ = [some (.ref a), o1, none, none]) ⟨ha, _, rfl⟩ (fun _ _ _ _ _ => trivial) (fun i x σ H1 H1' hi e y => ?_) (fun σ H1 e => ?_)⟩
    · rw [List.length_map]; split <;> split <;> omega
    · rw [List.length_map]; split <;> split <;> omega
    · obtain ⟨rfl, rfl⟩ := y
      obtain ⟨ha1, o1, rfl⟩ := e
      have hi6 : i < 10 := by
        refine Nat.lt_of_lt_of_le hi ?_
        rw [List.length_map]
        split <;> split <;> omega
      refine ⟨_, rfl, _, rfl, a, _, ns, rfl, ha1, by omega, by omega, fun p H2 hpn s2 hp2 => ?_⟩
      refine ⟨p, rfl, hp2, fun H3 ex3 => ⟨_, rfl, iteF ⟨?_, _, rfl⟩⟩⟩
      rcases ha1 with (h | ⟨o, h⟩) | h
      · exact .inl (.inl (ex3.keep _ _ (ne_of_none h hpn) (s2 _ _ h)))
      · exact .inl (.inr ⟨o, ex3.keep _ _ (ne_of_none h hpn) (s2 _ _ h)⟩)
      · exact .inr h
    obtain ⟨-, o1, rfl⟩ := e
    refine ⟨by decide, fun q hq => ?_⟩
    have hq2 : upd H1 q (.lst []) q = some (.lst []) := upd_same
    generalize upd H1 q (.lst []) = H2 at hq2 ⊢
    refine ⟨by decide, fun T hT => ?_⟩
    have hq3 := same_new (o := .tup (strsV five)) hT _ _ hq2
    have hT3 : upd H2 T (.tup (strsV five)) T = some (.tup (strsV five)) := upd_same
    have hTq : T ≠ q := (ne_of_none hq2 hT).symm
    refine ⟨rfl, amF q, fun ys σ => ys.length < 40 ∧ ∃ o1 o3, σ = [some (.ref a), o1, some (.ref q), o3], fun ys => ys = strsV (allW five 8), hq3, ⟨by decide, _, _, rfl⟩,
      ⟨T, five, 8, rfl, five_ok, .inl (.inl hT3), hTq, by decide, hq3, fun j => ⟨j, rfl⟩, fun H' wk hp => ⟨rfl, hp⟩⟩, ?_, ?_⟩
    · rintro ys x σ H4 ⟨j, hj⟩ hh ⟨hlen, o1, o3, rfl⟩
      refine ⟨q, x, ys, rfl, rfl, hh, by omega, ?_⟩
      have hq5 : upd H4 q (.lst (ys ++ [x])) q = some (.lst (ys ++ [x])) := upd_same
      by_cases h40 : (ys.length : Int) + 1 = 40
      · rw [if_pos h40]
        have hys : ys ++ [x] = strsV ((allW five 8).take 40) := by
          rw [hj]
          have hl := congrArg List.length hj
          rw [List.length_append, List.length_singleton, List.length_map, List.length_take, five_len] at hl
          have : j = 40 := by omega
          rw [this]
        rw [hys] at hq5 ⊢
        generalize upd H4 q (.lst (strsV ((allW five 8).take 40))) = H5 at hq5 ⊢
        have w40 : ∀ z ∈ (allW five 8).take 40, isWordS z = true := fun z hz => allW_word five_ok 8 z (List.mem_of_mem_take hz)
        refine ⟨_, rfl, _, rfl, by omega, by omega, fun D hD => lc_rng (by show 40 ≤ 1000000; decide) (fun _ => true) numV (fun x _ => rfl) (fun x _ acc Q q => q) (fun x hx _ acc Q q => ?_) ?_⟩
        · obtain ⟨i, hi, rfl⟩ := List.mem_map.mp hx
          have hi40 : i < 40 := List.mem_range.mp hi
          exact ⟨_, rfl, .str "abcde", five, i, rfl, .inr ⟨_, rfl, abcde_five⟩, five_ok, by omega, q⟩
        have hq6 := same_new (o := .lst (((rangeV (40 : Int).toNat).filter fun _ => true).map numV)) hD _ _ hq5
        have hD6 : upd H5 D (.lst (((rangeV (40 : Int).toNat).filter fun _ => true).map numV)) D = some (.lst (strsV ((allW five 8).take 40))) := by rw [upd_same]; exact congrArg (fun l => some (HO.lst l)) nums40
        generalize upd H5 D (.lst (((rangeV (40 : Int).toNat).filter fun _ => true).map numV)) = H6 at hq6 hD6 ⊢
        refine ⟨_, _, dpL (SqL.of hq6), dpL (SqL.of hD6), shW w40, shW w40, _, rfl, ?_⟩
        rw [eqv_self (shW w40)]
        refine iteF ?_
        refine ⟨by decide, fun T2 hT2 => ?_⟩
        have ok_e : SgnOk [("e" : Str)] := sign_ok ⟨101, by decide +kernel, rfl⟩
        have ok_c : SgnOk [("c" : Str)] := sign_ok ⟨99, by decide +kernel, rfl⟩
        refine ⟨rfl, T2, ["e"], 0, rfl, ok_e, .inl (.inl upd_same), id, by decide, trivial, fun _ => trivial, fun H7 wk7 _ F2 hF2 => ?_⟩
        have hF7 : upd H7 F2 (.lst (strsV (allW ["e"] 0))) F2 = some (.lst (strsV [e0])) := upd_same
        generalize upd H7 F2 (.lst (strsV (allW ["e"] 0))) = H8 at hF7 ⊢
        refine ⟨by decide, fun L hL => ?_⟩
        have hF8 := same_new (o := .lst (strsV [e0])) hL _ _ hF7
        have hL8 : upd H8 L (.lst (strsV [e0])) L = some (.lst (strsV [e0])) := upd_same
        have wE : ∀ z ∈ [e0], isWordS z = true := fun z hz => by rw [List.mem_singleton.mp hz]; rfl
        refine ⟨_, _, dpL (zs := [e0]) (SqL.of hF8), dpL (zs := [e0]) (SqL.of hL8), shW wE, shW wE, _, rfl, ?_⟩
        rw [eqv_self (shW wE)]
        refine iteT ⟨by decide, fun T3 hT3' => ?_⟩
        refine ⟨rfl, T3, ["c"], 8, rfl, ok_c, .inl (.inl upd_same), id, by decide, trivial, fun _ => trivial, fun H9 wk9 _ F3 hF3 => ?_⟩
        have hF9 : upd H9 F3 (.lst (strsV (allW ["c"] 8))) F3 = some (.lst (strsV (allW ["c"] 8))) := upd_same
        generalize upd H9 F3 (.lst (strsV (allW ["c"] 8))) = Ha at hF9 ⊢
        refine ⟨F3, _, _, .str "cccccccc", rfl, rfl, SqL.of hF9, (by decide +kernel), rfl, ?_⟩
        exact hQ _
      · rw [if_neg h40]
        refine ⟨⟨by rw [List.length_append, List.length_singleton]; omega, _, _, rfl⟩, hq5, fun b o hb e => ?_⟩
        rw [upd_ne hb]; exact e
    · rintro ys σ H4 rfl hh ⟨hlen, _⟩
      rw [List.length_map, five_len] at hlen
      omega
end
end MN
/-! the run of the head -/
namespace MN
open PySem PySem.Spec PyProof.Rows L2
def defs01 : List He5.DefA := [gDef "is_integer" (top 8),
  gDef "is_sign" (top 9),
  gDef "is_word" (top 10),
  gDef "are_signs" (top 11),
  gDef "require_signs" (top 12),
  gDef "require_words" (top 13),
  gDef "require_number" (top 14),
  gDef "word_rank" (top 15),
  gDef "by_words" (top 16),
  gDef "ordered" (top 17),
  gDef "words_upto" (top 18),
  gDef "_law_filled" (top 20),
  gDef "_law_dip" (top 21),
  gDef "_law_shuffled" (top 23),
  gDef "_law_numbered" (top 24),
  gDef "_law_total" (top 25),
  gDef "_law_right" (top 26),
  gDef "law" (top 27)]
def glo01 : List Str := ([("is_integer" : Str), ("is_sign" : Str), ("is_word" : Str), ("are_signs" : Str), ("require_signs" : Str), ("require_words" : Str), ("require_number" : Str), ("word_rank" : Str)] : List Str) ++ ([("by_words" : Str), ("ordered" : Str), ("words_upto" : Str), ("_law_filled" : Str), ("_law_dip" : Str), ("_law_shuffled" : Str), ("_law_numbered" : Str), ("_law_total" : Str)] : List Str) ++ ([("_law_right" : Str), ("law" : Str)] : List Str)
def ex01 (K : PySem.W.Frag) : Bool := gloAll K glo01 && (freeAll K bltNames && ((He.Fa.str "SIGNS" "abcde").ok K && ((He.Fa.int "GREATEST" (10 ^ 60)).ok K && (He.Fa.int "MAX_LISTED" 8).ok K)))
end MN
/-! the facts and the end -/
namespace MN
open PySem PySem.Spec PyProof.Rows L2
section
variable {P : Program} {w : World} {K : PySem.W.Frag} {h : Heap} {mg : Str → Option Value}
theorem at01 (X : K.In h) (G : h.Ns mainGlobals mg) (c : SaysX ex01 defs01 K) (i : Nat) (x : Str) (st : Stmt) (hi : defs01[i]? = some (gDef x st)) (hx : x ∈ glo01) : At K mg x st := by
  obtain ⟨fd, F⟩ := c.def_ i hi
  exact ⟨_, fd, F, gloAll_ok X G (He.ba c.all).1 hx⟩
theorem facts01 {f : Addr} (X : K.In h) (G : h.Ns mainGlobals mg) (hfa : mg ("law" : Str) = some (.ref f)) (c : SaysX ex01 defs01 K) :
    ∃ fd : FuncData, (∀ (s : Shared) (v : Value), BindsTo s fd ⟨[v], []⟩ [("_law_script", v)]) ∧ ∀ base : Heap, K.In base → base.Ns mainGlobals mg → FnG P w K mg base 9 f fd ["_law_script"] (spLaw K) := by
  obtain ⟨e0, e⟩ := He.ba c.all
  obtain ⟨e1, e⟩ := He.ba e
  obtain ⟨e2, e⟩ := He.ba e
  obtain ⟨e3, e4⟩ := He.ba e
  have B : Blt mg := Blt.of (freeAll_ok X G e1) (strC_ok X G e2)
  have GG : GlC mg "GREATEST" (.int big) := intC_ok X G e3
  have GM : GlC mg "MAX_LISTED" (.int 8) := intC_ok X G e4
  obtain ⟨fd, F⟩ := c.def_ 17
  have e := hfa.symm.trans (gloAll_ok X G e0 (x := "law") (by decide +kernel))
  cases e
  have b := FunD.bindsA (ps := ["_law_script"]) F fun _ _ _ _ _ _ us hl => match us, hl with | [_], _ => rfl
  refine ⟨fd, fun s v => b s [v] rfl, fun base _ _ => ?_⟩
  have a := fun i x st hi hx => at01 (mg := mg) X G c i x st hi hx
  have c_is_integer : Cal P w K mg base 1 "is_integer" (spIsInt K) := MN.c_is_integer (a 0 _ _ rfl (by decide +kernel)) B GG
  have c_is_sign : Cal P w K mg base 1 "is_sign" (spIsSign K) := MN.c_is_sign (a 1 _ _ rfl (by decide +kernel)) B
  have c_is_word : Cal P w K mg base 1 "is_word" (spIsWord K) := MN.c_is_word (a 2 _ _ rfl (by decide +kernel)) B
  have c_are_signs : Cal P w K mg base 2 "are_signs" (spAreSigns K) := MN.c_are_signs (a 3 _ _ rfl (by decide +kernel)) B c_is_sign
  have c_require_signs : Cal P w K mg base 3 "require_signs" (spReqSigns K) := MN.c_require_signs (a 4 _ _ rfl (by decide +kernel)) c_are_signs
  have c_require_words : Cal P w K mg base 2 "require_words" (spReqWords K) := MN.c_require_words (a 5 _ _ rfl (by decide +kernel)) B c_is_word
  have c_require_number : Cal P w K mg base 2 "require_number" spReqNumber := MN.c_require_number (a 6 _ _ rfl (by decide +kernel)) c_is_integer
  obtain ⟨fk, hk1, _, Fk⟩ := key_rank (P := P) (w := w) (a 7 _ _ rfl (by decide +kernel)) B.len
  have c_by_words : Cal P w K mg base 1 "by_words" (spByWords K) := MN.c_by_words (a 8 _ _ rfl (by decide +kernel)) B hk1 Fk
  have c_ordered : Cal P w K mg base 3 "ordered" (spOrdered K) := MN.c_ordered (a 9 _ _ rfl (by decide +kernel)) B c_require_words c_by_words
  have c_words_upto : CalN P w K mg base 4 "words_upto" 2 (spUpto K) := MN.c_words_upto (a 10 _ _ rfl (by decide +kernel)) B GM c_require_signs c_require_number
  have c_law_filled : Cal P w K mg base 1 "_law_filled" (spFilled K) := MN.c_law_filled (a 11 _ _ rfl (by decide +kernel)) B
  have c_law_dip : Cal P w K mg base 1 "_law_dip" spDip := MN.c_law_dip (a 12 _ _ rfl (by decide +kernel)) B
  have c_law_shuffled : Cal P w K mg base 2 "_law_shuffled" (spShufI K) := MN.c_law_shuffled (a 13 _ _ rfl (by decide +kernel)) B c_law_dip
  have c_law_numbered : Cal P w K mg base 1 "_law_numbered" (spNum K) := MN.c_law_numbered (a 14 _ _ rfl (by decide +kernel)) B
  have c_law_total : Cal P w K mg base 1 "_law_total" spTot := MN.c_law_total (a 15 _ _ rfl (by decide +kernel)) B
  have c_law_right : Cal P w K mg base 8 "_law_right" spRight := MN.c_law_right (a 16 _ _ rfl (by decide +kernel)) B c_law_dip c_law_shuffled c_words_upto c_law_total c_is_word c_law_numbered c_ordered
  exact f_law F B c_law_filled c_law_right c_words_upto c_law_numbered
end
end MN
open PySem PySem.W PySem.Calls PyProof.Rows
set_option maxHeartbeats 0 in
theorem PySem.Challenge.cw_mendnumber_k01_whole_all_words_in_order_holds : PySem.Challenge.rw_mendnumber_k01_whole_all_words_in_order.Holds := by
  w_on; o_law
  k_head
  case hw => w_witness2
  case hc =>
    refine MN.walk_g (l := PySem.Challenge.rw_mendnumber_k01_whole_all_words_in_order) (n := 63) (k := 9) (x := "_law_script") rfl (by decide) (by kernel_rfl) ⟨rfl, by decide, by decide⟩ ?F
    intro w mg fa h Y G hmg0
    have KX := kIn_of Y
    have hmg : mg ("law" : PySem.Str) = some (.ref fa) := by
      have e : (HandSHeadRun.topDef (OpenLaw.row PySem.Challenge.rw_mendnumber_k01_whole_all_words_in_order).prog 27).name = ("law" : PySem.Str) := by kernel_rfl
      rw [← e]
      exact hmg0
    obtain ⟨fd, hb, hF⟩ := MN.facts01 (P := (PySem.Challenge.rw_mendnumber_k01_whole_all_words_in_order).prog) (w := w) KX G hmg (by unfold MN.SaysX; kernel_rfl)
    exact ⟨_, fd, MN.spLaw _, KX, hb, fun H a ns hl _ hS => ⟨a, ns, rfl, hS, Nat.le_trans hl (by decide), fun _ => rfl⟩, hF⟩
