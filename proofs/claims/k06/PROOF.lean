import PyProof.Rows.All
import Wide.All
import OpenK.AllK
import Wide.FinOn
import KE.KStateDown
import KE.SortKeyHeap
import KE.GoesMore
import KE.GoesNew
import KE.KDictZip
import Lean
import HandS.ForMost
import HandS.More
import HandS.Walk
import HandS.Flow
import HandS.Style
import HandS.Conv
import HandS.Defaults
import HandS.IsInst
import HandS.DictComp
import HandS.SortKw
import HandS.Slots
import HandS.SlotsOwn
import HandS.ClsMeth
import HandS.MakeKwOnly
import HandS.Zip
import HandS.TupAny
import HandS.ListItems
import HandS.SetFor
import HandS.Strs
import HandS.CallLocal
import HandS.WordsExc
import HandS.WordsDict
import HandS.Small
import HandS.Head0
import HandS.Head1
import HandS.Head2
import HandS.HeadEnd
import HandS.HeadHook1
import HandS.HeadHook2
import HandS.HeadNt
import HandS.GenList
import HandS.TupLen
import KE.KDictPairs
import HandS.DictTup
import HandS.Star
import HandS.TupSets
import HandS.Flt
import HandS.Property
import PySem.Challenge.RW_mendnumber_k06_whole_costs_by_force
set_option Elab.async false
set_option linter.all false
set_option maxRecDepth 100000
set_option maxHeartbeats 4000000
/-! defs by their names; promises that hold while nothing is being shown (repr) -/
namespace MN
open PySem PySem.Spec PyProof.Rows L2
/-- the def x of the text st, under its name -/
def At (K : PySem.W.Frag) (mg : Str → Option Value) (x : Str) (st : Stmt) : Prop := ∃ f fd, FunD K x x (defArgs st) (defBody st) (defScope st) [] [] f fd ∧ mg x = some (.ref f)
abbrev BindEq (x : Str) (st : Stmt) (ps : List Str) : Prop := ∀ (kV doc pm : Value) (an : Option Addr) (cdv ct : Value) (us : List Value), us.length = ps.length → bindArgs (PySem.W.fnOf x x (defArgs st) (defBody st) (defScope st) .none kV doc pm an cdv ct) ⟨us, []⟩ = pure (ps.zip us)
/-- a def that may be called by its name -/
structure Cal (P : Program) (w : World) (K : PySem.W.Frag) (mg : Str → Option Value) (base : Heap) (k : Nat) (x : Str) (sp : Sp) : Prop where
  ex : ∃ (f : Addr) (fd : FuncData) (ps : List Str), FnOk P w K mg base CX0 k f fd ps sp ∧ mg x = some (.ref f) ∧ PySem.W.keepIn K (.ref f) = true ∧ Binds K fd ps []
/-- FnOk for calls under which nothing is being shown -/
structure FnG (P : Program) (w : World) (K : PySem.W.Frag) (mg : Str → Option Value) (base : Heap) (k : Nat) (f : Addr) (fd : FuncData) (ps : List Str) (sp : Sp) : Prop where
  len : ∀ vs H Q E, sp vs H Q E → vs.length = ps.length
  run : ∀ (A : Around) (outer : List Env) (s : Shared) (H : Hp) (args : Args) (us : List Value) (vs : List V) (Q : VK) (E : XK), A.guards = some [] → Room k A → Env0 P w K mg base A outer s H →
    BindsTo s fd args (ps.zip us) → Vals vs us → sp vs H Q E → codeAny (model P w) A (.call (.ref f) args) (CR CX0 outer P w H s Q E) s
structure CalG (P : Program) (w : World) (K : PySem.W.Frag) (mg : Str → Option Value) (base : Heap) (k : Nat) (x : Str) (sp : Sp) : Prop where
  ex : ∃ (f : Addr) (fd : FuncData) (ps : List Str), FnG P w K mg base k f fd ps sp ∧ mg x = some (.ref f) ∧ PySem.W.keepIn K (.ref f) = true ∧ Binds K fd ps []
section
variable {X : Cx} {k j : Nat} {x : Str} {sp : Sp} {p pos : Pos} {e : Expr} {es : List Expr} {t : TA}
theorem pe_c (c : Cal X.prog X.w X.K X.mg X.base k x sp) (hr : Room j X.A) (hk : k ≤ j) (hg : Gl X x) (ha : PA X (e :: es) t)
    (hdb : (x == ("__debug__" : Str)) = false := by decide) (he : starEach (e :: es) X.env = (false, eval e X.env) :: starEach es X.env := by rfl)
    (hpl : (backTo pos (starEach es X.env)).any (·.1) = false := by rfl) : PE X (.Call (.Name x p) (e :: es) [] pos) (tCall sp [] E0 t) := by
  obtain ⟨f, fd, ps, F, hm, kp, b⟩ := c.ex
  exact pe_call F (hr.mono hk) hg hm kp b .nil pass0 ha hdb he hpl
theorem run_g {f : Addr} {fd : FuncData} {ps : List Str} {pins : List (Addr × Obj)} {σ : L2.St} {H : Hp} {s : Shared} {Q : VK} {us : List Value} {vs : List V} (F : FnG X.prog X.w X.K X.mg X.base k f fd ps sp) (gd : X.A.guards = some []) (hr : Room k X.A)
    (hb : Binds X.K fd ps []) (I : Inv X pins σ H s) (r : Vals vs us) (h : sp vs H Q E0) : wpAny (model X.prog X.w) X.A (call (.ref f) us) (EP X pins σ Q) X.xe s := by
  have hl : us.length = ps.length := r.length.symm.trans (F.len _ _ _ _ h)
  have hb' := hb s us I.kIn (by rw [List.append_nil]; exact hl)
  rw [List.append_nil] at hb'
  refine wpAny_call (codeAny_mono (F.run X.A X.stack s H ⟨us, []⟩ us vs Q E0 gd hr I.env0 hb' r h) fun r s' hq => ?_)
  match r, hq with
  | .ok (.ret u), hq => exact I.after hq
theorem pe_cG (c : CalG X.prog X.w X.K X.mg X.base k x sp) (gd : X.A.guards = some []) (hr : Room j X.A) (hk : k ≤ j) (hg : Gl X x) (ha : PA X (e :: es) t)
    (hdb : (x == ("__debug__" : Str)) = false := by decide) (he : starEach (e :: es) X.env = (false, eval e X.env) :: starEach es X.env := by rfl)
    (hpl : (backTo pos (starEach es X.env)).any (·.1) = false := by rfl) : PE X (.Call (.Name x p) (e :: es) [] pos) (tCall sp [] E0 t) := by
  obtain ⟨f, fd, ps, F, hm, kp, b⟩ := c.ex
  refine ⟨fun pins s σ H Q I h => ?_⟩
  refine wpAny_Call_Name_kw (ld_glob I hg hm ?_ hdb)
  refine PySem.W.callWith_K (h₀ := X.base) I.ok.mod.kin kp (thn (ha.run pos pins s σ H _ I h) fun us s1 ⟨vs, H1, I1, r, q⟩ => ⟨I1.kIn, ?_⟩) he hpl
  exact run_g F gd (hr.mono hk) b I1 r (List.append_nil vs ▸ (show sp (vs ++ []) H1 Q E0 from q))
/-- a constant of the module -/
theorem pe_gl {v : V} (hg : Gl X x) (h : ∃ u, X.mg x = some u ∧ RelV v u) (hd : (x == ("__debug__" : Str)) = false := by decide) : PE X (.Name x pos) (tC v) := by
  obtain ⟨u, hm, r⟩ := h
  exact pe_glob hg hm r hd
end
section
variable {P : Program} {w : World} {K : PySem.W.Frag} {mg : Str → Option Value} {base : Heap}
theorem Cal.g {k : Nat} {x : Str} {sp : Sp} (c : Cal P w K mg base k x sp) : CalG P w K mg base k x sp := by
  obtain ⟨f, fd, ps, F, hm, kp, b⟩ := c.ex
  exact ⟨f, fd, ps, ⟨F.len, fun A outer s H args us vs Q E _ => F.run A outer s H args us vs Q E⟩, hm, kp, b⟩
theorem cal_of {x : Str} {st : Stmt} {N ps : List Str} {k : Nat} {sp : Sp} (A : At K mg x st) (S : FnScope N ps (defScope st)) (hb : BindEq x st ps)
    (len : ∀ vs H Q E, sp vs H Q E → vs.length = ps.length)
    (hbody : ∀ (f : Addr) (cdv : Value) (A : Around) (outer : List Env) (s : Shared) (H : Hp) (vs : List V) (Q : VK) (E : XK), Room k (A.deeper (envOfC x (defScope st) s.heap.objs.size f cdv)) → sp vs H Q E →
      ∃ t, PSs (cxOf CX0 P w K mg base N x (defScope st) f cdv A outer s H E).nox (defBody st) t ∧ t { nx := fun _ H' => Q .non H', rt := Q } (start N vs) H) : Cal P w K mg base (k + 1) x sp := by
  obtain ⟨f, fd, F, hm⟩ := A
  refine ⟨f, fd, ps, F.ok S len fun cdv A outer s H vs Q E hr h => ?_, hm, F.kp, F.bindsN hb⟩
  obtain ⟨t, h1, h2⟩ := hbody f cdv A outer s H vs Q E hr h
  exact ⟨t, h1.nox, h2⟩
theorem fnG_of {x : Str} {st : Stmt} {N ps : List Str} {k : Nat} {sp : Sp} {f : Addr} {fd : FuncData} (F : FunD K x x (defArgs st) (defBody st) (defScope st) [] [] f fd) (S : FnScope N ps (defScope st))
    (len : ∀ vs H Q E, sp vs H Q E → vs.length = ps.length)
    (hbody : ∀ (cdv : Value) (A : Around) (outer : List Env) (s : Shared) (H : Hp) (vs : List V) (Q : VK) (E : XK), (A.deeper (envOfC x (defScope st) s.heap.objs.size f cdv)).guards = some [] → Room k (A.deeper (envOfC x (defScope st) s.heap.objs.size f cdv)) → sp vs H Q E →
      ∃ t, PSs (cxOf CX0 P w K mg base N x (defScope st) f cdv A outer s H E).nox (defBody st) t ∧ t { nx := fun _ H' => Q .non H', rt := Q } (start N vs) H) : FnG P w K mg base (k + 1) f fd ps sp := by
  refine ⟨len, fun A outer s H args us vs Q E gd hr e0 hb r hsp => ?_⟩
  obtain ⟨oc, od, dV, kV, doc, pm, an, cdv, ct, osl, rfl, lk, hcd, -, -⟩ := F.ex
  have kin : ∀ b o, base.get? b = some o → s.heap.get? b = some o := fun b o e => (e0.bs b o e).1
  have KX : K.In s.heap := e0.mod.kin.keeps kin
  refine codeAny_call_function hr.depth (KX _ _ lk) rfl S.co S.gen rfl (PySem.W.codeRec_of KX hcd) (hb _ _ _ _ ?_)
  refine wpAny_newFunctionEnv_cells S.kind (fun y hy => (S.par y.1 (List.of_mem_zip hy).1).imp id fun q => ⟨q, PySem.W.cellsFrom_some _ _ _ (.inl q)⟩) fun env he s1 ic => ?_
  cases he
  refine ⟨(e0.mod.nolimit.keeps kin).keeps ic.toInCall.keep, codeAny_func ?_⟩
  obtain ⟨t, ht, hq⟩ := hbody cdv A outer s H vs Q E gd (hr.deeper _) hsp
  have I : Inv (cxOf CX0 P w K mg base N x (defScope st) f cdv A outer s H E) [] (start N vs) H s1 := inv_start S hr.hd e0 (len _ _ _ _ hsp) r ic
  refine wpAny_mono (ht.nox.run [] s1 (start N vs) H _ I hq) (fun fl s' hs => ?_) fun _ _ hs => hs
  match fl, hs with
  | .ret u, ⟨v, σ', H', J, rv, q⟩ => exact ⟨v, H', J.os, J.bare, J.base, J.hok, rv, q⟩
  | .next, ⟨σ', H', J, q⟩ => exact ⟨V.non, H', J.os, J.bare, J.base, J.hok, rfl, q⟩
  | .brk, ⟨_, _, _, q⟩ => exact q.elim
  | .cont, ⟨_, _, _, q⟩ => exact q.elim
theorem calG_of {x : Str} {st : Stmt} {N ps : List Str} {k : Nat} {sp : Sp} (A : At K mg x st) (S : FnScope N ps (defScope st)) (hb : BindEq x st ps)
    (len : ∀ vs H Q E, sp vs H Q E → vs.length = ps.length)
    (hbody : ∀ (f : Addr) (cdv : Value) (A : Around) (outer : List Env) (s : Shared) (H : Hp) (vs : List V) (Q : VK) (E : XK), (A.deeper (envOfC x (defScope st) s.heap.objs.size f cdv)).guards = some [] → Room k (A.deeper (envOfC x (defScope st) s.heap.objs.size f cdv)) → sp vs H Q E →
      ∃ t, PSs (cxOf CX0 P w K mg base N x (defScope st) f cdv A outer s H E).nox (defBody st) t ∧ t { nx := fun _ H' => Q .non H', rt := Q } (start N vs) H) : CalG P w K mg base (k + 1) x sp := by
  obtain ⟨f, fd, F, hm⟩ := A
  exact ⟨f, fd, ps, fnG_of F S len (hbody f), hm, F.kp, F.bindsN hb⟩
end
end MN
/-! the end of a law's row: its def called where nothing is being shown -/
namespace MN
open PySem PySem.Spec PyProof.Rows L2
theorem law_g {P : Program} {w : World} {K : PySem.W.Frag} {mg mb : Str → Option Value} {k : Nat} {fa a : Addr} {fd : FuncData} {x : Str} {sp : Sp} {s₁ : Shared} {vs : List Value} {ns : List Int}
    (KX : K.In s₁.heap) (hns : s₁.heap.Ns mainGlobals mg) (hb : s₁.heap.Ns builtinsNs mb) (hbb : ∀ x : Str, x ≠ "__name__" → mb x = bootBuiltins x) (hlim : s₁.heap.NoLimit) (hg : s₁.gens = #[])
    (ha : s₁.heap.get? a = some { cls := .type "list", data := .seq vs.toArray }) (hi : IntsAre vs ns) (hl : ns.length ≤ sizeLine) (hr : Room k callerA)
    (F : ∀ base : Heap, K.In base → base.Ns mainGlobals mg → FnG P w K mg base k fa fd [x] sp) (hbind : ∀ (s : Shared) (u : Value), BindsTo s fd ⟨[u], []⟩ [(x, u)])
    (hsp : ∀ H : Hp, Only H → SqL K H a (ns.map V.int) → sp [.ref a] H (fun v _ => v = .bl true) E0) :
    codeAny (model P w) callerA (.call (.ref fa) ⟨[.ref a], []⟩) (fun r s' => r = .ok (.ret (.bool true)) ∧ OldK s₁.heap s'.heap ∧ s'.os = s₁.os ∧ AllBare s'.gens) s₁ := by
  have rv := vals_ints hi
  have core : ∀ H : Hp, Only H → SqL K H a (ns.map V.int) → HOk P w H s₁.heap → (∀ b u, H b = some u → b = a ∧ K.lookup a = none) →
      codeAny (model P w) callerA (.call (.ref fa) ⟨[.ref a], []⟩) (fun r s' => r = .ok (.ret (.bool true)) ∧ OldK s₁.heap s'.heap ∧ s'.os = s₁.os ∧ AllBare s'.gens) s₁ := by
    intro H hO hS hok hA
    have free : ∀ {b : Addr}, b ≠ a → H b = none := fun {b} hb => by
      cases q : H b with
      | none => rfl
      | some u => exact absurd (hA b u q).1 hb
    have nsK : ∀ {b : Addr} {m : Str → Option Value}, s₁.heap.Ns b m → (hidT s₁.heap H).Ns b m := fun {b m} ⟨o, es, ep, e, d, r⟩ => by
      refine ⟨o, es, ep, hidT_get e (free fun z => ?_), d, r⟩
      rw [z, ha] at e
      cases e
      cases (show Data.seq vs.toArray _ = Data.dict es ep from d)
    have hKb : K.In (hidT s₁.heap H) := fun b o e => by
      refine hidT_get (KX b o e) ?_
      cases q : H b with
      | none => rfl
      | some u =>
        obtain ⟨z, zk⟩ := hA b u q
        rw [z, zk] at e
        cases e
    have hM : Mod K mg (hidT s₁.heap H) := by
      obtain ⟨mc, h1, h2⟩ := hlim
      exact ⟨hKb, nsK hns, ⟨mb, nsK hb, hbb⟩, ⟨mc, nsK h1, h2⟩⟩
    have e0 : Env0 P w K mg (hidT s₁.heap H) callerA [] s₁ H := by
      refine ⟨rfl, hM, fun b o e => of_hidT e, Nat.le_of_eq (hidT_size _ _), trivial, fun b hb => ?_, hok, .of_eq hg⟩
      cases (show b ∈ ([] : List Addr) from hb)
    refine codeAny_mono ((F _ hKb (nsK hns)).run callerA [] s₁ H ⟨[.ref a], []⟩ [.ref a] [.ref a] _ _ rfl hr e0 (hbind s₁ (.ref a)) (.cons rfl .nil) (hsp H hO hS)) fun r s' h => ?_
    match r, h with
    | .ok (.ret u), ⟨v, H', os, bare, un, hok', r', q⟩ =>
      cases (show v = .bl true from q)
      cases (show u = Value.bool true from r')
      refine ⟨rfl, OldK.of_keep fun b o e => ?_, os, bare⟩
      rcases hO b with z | ⟨ob, xs, z⟩
      · exact un.keep b o e z (fun y => nomatch (show b ∈ ([] : List Addr) from y)) (fun y => nomatch (show b ∈ ([] : List Addr) from y))
      · have e1 := (hok b _ z).1
        have e2 := (hok' b _ (un.frzs b ob _ z)).1
        rw [e] at e1
        cases e1
        exact e2
  cases hk : K.lookup a with
  | some o =>
    have e := KX a o hk
    rw [ha] at e
    cases e
    refine core (fun _ => none) (fun _ => .inl rfl) (.inr ⟨_, vs.toArray, _, hk, rfl, rfl, rfl, ?_, by simpa using rv⟩) (fun _ _ z => nomatch z) (fun _ _ z => nomatch z)
    rw [List.size_toArray, hi.length]
    exact hl
  | none =>
    let o : Obj := { cls := .type "list", data := .seq vs.toArray }
    have at_ : ∀ b u, upd (fun _ => none) a (.frz o (.lst (ns.map V.int))) b = some u → b = a ∧ u = .frz o (.lst (ns.map V.int)) := fun b u q => by
      by_cases z : b = a
      · subst z
        rw [upd_same] at q
        exact ⟨rfl, (Option.some.inj q).symm⟩
      · rw [upd_ne z] at q
        cases q
    refine core (upd (fun _ => none) a (.frz o (.lst (ns.map V.int)))) (fun b => ?_) (.inl (.inr ⟨o, upd_same⟩)) (fun b u q => ?_) (fun b u q => ⟨(at_ b u q).1, hk⟩)
    · by_cases z : b = a
      · subst z; exact .inr ⟨_, _, upd_same⟩
      · exact .inl (upd_ne z)
    · obtain ⟨rfl, rfl⟩ := at_ b u q
      exact ⟨ha, by rw [List.length_map]; exact hl, vs, _, rv, ha⟩
theorem walk_g {l : PySem.W.OpenLaw} {n k : Nat} {q : Program} {loose : List Str} {XP : (Str → Option Value) → Heap → Prop} {YP : World → Heap → Prop} {d : DefRec} {x : Str}
    (hn : l.most = some n) (hn2 : n ≤ sizeLine) (hdf : d.params.defaults = []) (hr : Room k callerA)
    (F : ∀ (w : World) (mg : Str → Option Value) (fa : Addr) (h : Heap), YP w h → h.Ns mainGlobals mg → mg d.name = some (.ref fa) →
      ∃ (K : PySem.W.Frag) (fd : FuncData) (sp : Sp), K.In h ∧ (∀ (s : Shared) (u : Value), BindsTo s fd ⟨[u], []⟩ [(x, u)]) ∧
        (∀ (H : Hp) (a : Addr) (ns : List Int), ns.length ≤ n → Only H → SqL K H a (ns.map V.int) → sp [.ref a] H (fun v _ => v = .bl true) E0) ∧
        ∀ base : Heap, K.In base → base.Ns mainGlobals mg → FnG l.prog w K mg base k fa fd [x] sp) :
    PySem.W.WalkO q loose XP YP l.row.toRowW d [] (fun f vs => PySem.call f vs) := by
  refine Att.attach_call hn hdf fun w s₀ s₁ mg mb fa o pm cd doc a vs ns G Y ho hd hcd hmg hobj hints hlen hg => ?_
  obtain ⟨K, fd, sp, KX, hb, hsp, hF⟩ := F w mg fa _ Y G.T.g hmg
  exact law_g KX G.T.g G.T.b G.T.builtins G.T.nolimit hg hobj hints (Nat.le_trans hlen hn2) hr hF hb fun H hO hS => hsp H a ns hlen hO hS
end MN
namespace MN
open PySem L2
def top (i : Nat) : Stmt := PySem.Challenge.pw_mendnumber_k06_whole_costs_by_force.main.body.getD i (.Pass ⟨0, 0, 0, 0⟩)
end MN
/-! comprehensions whose tests and items leave the heap as it is -/
namespace MN
open PySem PySem.Spec PyProof.Rows L2
theorem seqL_upd {K : PySem.W.Frag} {H : Hp} {a D : Addr} {xs : List V} {o : HO} (h : SqL K H a xs) (hD : H D = none) : SqL K (upd H D o) a xs := by
  rcases h with (h | ⟨o, h⟩) | h
  · exact .inl (.inl (by rw [upd_ne (ne_of_none h hD)]; exact h))
  · exact .inl (.inr ⟨o, by rw [upd_ne (ne_of_none h hD)]; exact h⟩)
  · exact .inr h
theorem seqT_upd {K : PySem.W.Frag} {H : Hp} {a D : Addr} {xs : List V} {o : HO} (h : SqT K H a xs) (hD : H D = none) : SqT K (upd H D o) a xs := by
  rcases h with (h | ⟨o, h⟩) | h
  · exact .inl (.inl (by rw [upd_ne (ne_of_none h hD)]; exact h))
  · exact .inl (.inr ⟨o, by rw [upd_ne (ne_of_none h hD)]; exact h⟩)
  · exact .inr h
theorem Same.seqT {K : PySem.W.Frag} {H H' : Hp} {a : Addr} {xs : List V} (e : Same H H') (h : SqT K H a xs) : SqT K H' a xs := by
  rcases h with (h | ⟨o, h⟩) | h
  · exact .inl (.inl (e _ _ h))
  · exact .inl (.inr ⟨o, e _ _ h⟩)
  · exact .inr h
/-- the reading of a comprehension, from where its source's walk is known -/
abbrev LcGoal (J : It) (g : TG) (tt : TT) (te : TE) (vs : List Nat) (σ : L2.St) (H1 : Hp) (D : Addr) (Qd : Hp → Prop) : Prop := ∃ W : Nat → Nat → Hp → Prop, (∃ m, W 0 m (upd H1 D (.lst []))) ∧ ∀ i m H, W i m H →
  (J.stop i H ∧ Qd H) ∨ (J.go i H ∧ ∃ Nx : Hp → Prop, (∀ H', Nx H' → ∃ m', m' < m ∧ W (i + 1) m' H') ∧ ∀ x H', J.yld i H x H' → g x (wipe σ vs) H' fun σ2 H2 => wipe σ2 vs = wipe σ vs ∧ tt σ2 H2 fun b H3 =>
    if b = true then te σ2 H3 fun y H4 => ∃ acc, H4 D = some (.lst acc) ∧ acc.length < sizeLine ∧ Nx (upd H4 D (.lst (acc ++ [y]))) else Nx H3)
theorem lc_pure {J : It} {n : Nat} {G : Hp → Prop} {Y : Nat → Hp → V → Hp → Prop} (w : Walk J n G Y) (xs : List V) (hn : xs.length = n) (hz : n ≤ 1000000) (hY : ∀ i H x H', i < n → Y i H x H' → H' = H ∧ xs[i]? = some x)
    {j : Nat} {tt : TT} {te : TE} {vs : List Nat} {σ : L2.St} {H1 : Hp} {D : Addr} {Qd : Hp → Prop} (f : V → Bool) (v : V → V) (hG : ∀ acc, G (upd H1 D (.lst acc)))
    (hw : ∀ x ∈ xs, wipe ((wipe σ vs).set j (some x)) vs = wipe σ vs)
    (ht : ∀ x ∈ xs, ∀ (acc : List V) (Q : Bool → Hp → Prop), Q (f x) (upd H1 D (.lst acc)) → tt ((wipe σ vs).set j (some x)) (upd H1 D (.lst acc)) Q)
    (he : ∀ x ∈ xs, f x = true → ∀ (acc : List V) (Q : VK), Q (v x) (upd H1 D (.lst acc)) → te ((wipe σ vs).set j (some x)) (upd H1 D (.lst acc)) Q)
    (hd : Qd (upd H1 D (.lst ((xs.filter f).map v)))) : LcGoal J (gName j) tt te vs σ H1 D Qd := by
  refine lc_it w (fun i H' => H' = upd H1 D (.lst (((xs.take i).filter f).map v))) (by rw [List.take_zero]; rfl) (fun i H' _ e => by rw [e]; exact hG _) (fun i x H H' hi e y => ?_) (fun H' e => ?_)
  · obtain ⟨rfl, hx⟩ := hY i H x H' hi y
    subst e
    have hm : x ∈ xs := List.mem_of_getElem? hx
    have tk : xs.take (i + 1) = xs.take i ++ [x] := by rw [List.take_add_one, hx]; rfl
    refine ⟨hw x hm, ht x hm _ _ ?_⟩
    cases hf : f x with
    | false =>
      refine iteF ?_
      rw [tk, List.filter_append, List.filter_cons, hf]
      simp
    | true =>
      refine iteT (he x hm hf _ _ ⟨_, upd_same, ?_, ?_⟩)
      · rw [List.length_map]
        refine Nat.lt_of_le_of_lt (List.length_filter_le _ _) (Nat.lt_of_le_of_lt (List.length_take_le _ _) ?_)
        have : 1000000 < sizeLine := by decide
        omega
      · rw [upd_upd, tk, List.filter_append, List.filter_cons, hf]
        simp
  · rw [e, ← hn, List.take_length]
    exact hd
section
variable {K : PySem.W.Frag} {j : Nat} {tt : TT} {te : TE} {vs : List Nat} {σ : L2.St} {H1 : Hp} {D a : Addr} {Qd : Hp → Prop}
def signsOf (z : Str) : List V := z.cps.toList.map fun c => V.str ⟨#[c]⟩
theorem lc_str {z : Str} (hz : z.length ≤ 1000000) (f : V → Bool) (v : V → V) (hw : ∀ x ∈ signsOf z, wipe ((wipe σ vs).set j (some x)) vs = wipe σ vs)
    (ht : ∀ x ∈ signsOf z, ∀ (acc : List V) (Q : Bool → Hp → Prop), Q (f x) (upd H1 D (.lst acc)) → tt ((wipe σ vs).set j (some x)) (upd H1 D (.lst acc)) Q)
    (he : ∀ x ∈ signsOf z, f x = true → ∀ (acc : List V) (Q : VK), Q (v x) (upd H1 D (.lst acc)) → te ((wipe σ vs).set j (some x)) (upd H1 D (.lst acc)) Q)
    (hd : Qd (upd H1 D (.lst (((signsOf z).filter f).map v)))) : LcGoal (Its z) (gName j) tt te vs σ H1 D Qd := by
  refine lc_pure walk_str (signsOf z) (by simp [signsOf]) hz (fun i H x H' hi y => ?_) f v (fun _ => trivial) hw ht he hd
  obtain ⟨e, c, hc, rfl⟩ := y
  refine ⟨e, ?_⟩
  simp [signsOf, hc]
theorem lc_lst {xs : List V} (hs : SqL K H1 a xs) (hD : H1 D = none) (hz : xs.length ≤ 1000000) (f : V → Bool) (v : V → V) (hw : ∀ x ∈ xs, wipe ((wipe σ vs).set j (some x)) vs = wipe σ vs)
    (ht : ∀ x ∈ xs, ∀ (acc : List V) (Q : Bool → Hp → Prop), Q (f x) (upd H1 D (.lst acc)) → tt ((wipe σ vs).set j (some x)) (upd H1 D (.lst acc)) Q)
    (he : ∀ x ∈ xs, f x = true → ∀ (acc : List V) (Q : VK), Q (v x) (upd H1 D (.lst acc)) → te ((wipe σ vs).set j (some x)) (upd H1 D (.lst acc)) Q)
    (hd : Qd (upd H1 D (.lst ((xs.filter f).map v)))) : LcGoal (Itl K a) (gName j) tt te vs σ H1 D Qd :=
  lc_pure walk_list xs rfl hz (fun _ _ _ _ _ y => y) f v (fun _ => seqL_upd hs hD) hw ht he hd
theorem lc_tpl {xs : List V} (hs : SqT K H1 a xs) (hD : H1 D = none) (hz : xs.length ≤ 1000000) (f : V → Bool) (v : V → V) (hw : ∀ x ∈ xs, wipe ((wipe σ vs).set j (some x)) vs = wipe σ vs)
    (ht : ∀ x ∈ xs, ∀ (acc : List V) (Q : Bool → Hp → Prop), Q (f x) (upd H1 D (.lst acc)) → tt ((wipe σ vs).set j (some x)) (upd H1 D (.lst acc)) Q)
    (he : ∀ x ∈ xs, f x = true → ∀ (acc : List V) (Q : VK), Q (v x) (upd H1 D (.lst acc)) → te ((wipe σ vs).set j (some x)) (upd H1 D (.lst acc)) Q)
    (hd : Qd (upd H1 D (.lst ((xs.filter f).map v)))) : LcGoal (Itt K a) (gName j) tt te vs σ H1 D Qd :=
  lc_pure walk_tup xs rfl hz (fun _ _ _ _ _ y => y) f v (fun _ => seqT_upd hs hD) hw ht he hd
def rangeV (n : Nat) : List V := (List.range n).map fun (i : Nat) => V.int (i : Int)
theorem lc_rng {n : Nat} (hz : n ≤ 1000000) (f : V → Bool) (v : V → V) (hw : ∀ x ∈ rangeV n, wipe ((wipe σ vs).set j (some x)) vs = wipe σ vs)
    (ht : ∀ x ∈ rangeV n, ∀ (acc : List V) (Q : Bool → Hp → Prop), Q (f x) (upd H1 D (.lst acc)) → tt ((wipe σ vs).set j (some x)) (upd H1 D (.lst acc)) Q)
    (he : ∀ x ∈ rangeV n, f x = true → ∀ (acc : List V) (Q : VK), Q (v x) (upd H1 D (.lst acc)) → te ((wipe σ vs).set j (some x)) (upd H1 D (.lst acc)) Q)
    (hd : Qd (upd H1 D (.lst (((rangeV n).filter f).map v)))) : LcGoal (Itr 0 n) (gName j) tt te vs σ H1 D Qd := by
  refine lc_pure (walk_range (lo := 0)) (rangeV n) (by simp [rangeV]) hz (fun i H x H' hi y => ?_) f v (fun _ => trivial) hw ht he hd
  obtain ⟨e1, e2⟩ := y
  refine ⟨e1, ?_⟩
  simp [rangeV, hi, e2]
end
/-- tests and items may lay new objects -/
theorem lc_ext {J : It} {n : Nat} {G : Hp → Prop} {Y : Nat → Hp → V → Hp → Prop} (w : Walk J n G Y) (xs : List V) (hn : xs.length = n) (hz : n ≤ 1000000) (hY : ∀ i H x H', i < n → Y i H x H' → H' = H ∧ xs[i]? = some x)
    {j : Nat} {tt : TT} {te : TE} {vs : List Nat} {σ : L2.St} {H1 : Hp} {D : Addr} {Qd : Hp → Prop} (hD : H1 D = none) (f : V → Bool) (v : V → V) (hG : ∀ H', Same H1 H' → G H')
    (hw : ∀ x ∈ xs, wipe ((wipe σ vs).set j (some x)) vs = wipe σ vs)
    (ht : ∀ x ∈ xs, ∀ H2, Same H1 H2 → ∀ (Q : Bool → Hp → Prop), (∀ H3, Same H2 H3 → Q (f x) H3) → tt ((wipe σ vs).set j (some x)) H2 Q)
    (he : ∀ x ∈ xs, f x = true → ∀ H2, Same H1 H2 → ∀ (Q : VK), (∀ H3, Same H2 H3 → Q (v x) H3) → te ((wipe σ vs).set j (some x)) H2 Q)
    (hd : ∀ H', Same H1 H' → H' D = some (.lst ((xs.filter f).map v)) → Qd H') : LcGoal J (gName j) tt te vs σ H1 D Qd := by
  refine lc_it w (fun i H' => Same H1 H' ∧ H' D = some (.lst (((xs.take i).filter f).map v))) ⟨fun b o e => by rw [upd_ne (ne_of_none e hD)]; exact e, by rw [List.take_zero]; exact upd_same⟩ (fun i H' _ e => hG _ e.1) (fun i x H H' hi e y => ?_) (fun H' e => ?_)
  · obtain ⟨rfl, hx⟩ := hY i H x H' hi y
    obtain ⟨e1, e2⟩ := e
    have hm : x ∈ xs := List.mem_of_getElem? hx
    have tk : xs.take (i + 1) = xs.take i ++ [x] := by rw [List.take_add_one, hx]; rfl
    refine ⟨hw x hm, ht x hm _ e1 _ fun H3 e3 => ?_⟩
    cases hf : f x with
    | false =>
      refine iteF ⟨e1.trans e3, ?_⟩
      rw [tk, List.filter_append, List.filter_cons, hf]
      simpa using e3 _ _ e2
    | true =>
      refine iteT (he x hm hf _ (e1.trans e3) _ fun H4 e4 => ⟨_, e4 _ _ (e3 _ _ e2), ?_, fun b o q => ?_, ?_⟩)
      · rw [List.length_map]
        refine Nat.lt_of_le_of_lt (List.length_filter_le _ _) (Nat.lt_of_le_of_lt (List.length_take_le _ _) ?_)
        have : 1000000 < sizeLine := by decide
        omega
      · rw [upd_ne (ne_of_none q hD)]
        exact e4 _ _ (e3 _ _ (e1 _ _ q))
      · rw [upd_same, tk, List.filter_append, List.filter_cons, hf]
        simp
  · rw [← hn, List.take_length] at e
    exact hd H' e.1 e.2
section
variable {K : PySem.W.Frag} {j : Nat} {tt : TT} {te : TE} {vs : List Nat} {σ : L2.St} {H1 : Hp} {D a : Addr} {Qd : Hp → Prop}
theorem lc_tplE {xs : List V} (hs : SqT K H1 a xs) (hD : H1 D = none) (hz : xs.length ≤ 1000000) (f : V → Bool) (v : V → V) (hw : ∀ x ∈ xs, wipe ((wipe σ vs).set j (some x)) vs = wipe σ vs)
    (ht : ∀ x ∈ xs, ∀ H2, Same H1 H2 → ∀ (Q : Bool → Hp → Prop), (∀ H3, Same H2 H3 → Q (f x) H3) → tt ((wipe σ vs).set j (some x)) H2 Q)
    (he : ∀ x ∈ xs, f x = true → ∀ H2, Same H1 H2 → ∀ (Q : VK), (∀ H3, Same H2 H3 → Q (v x) H3) → te ((wipe σ vs).set j (some x)) H2 Q)
    (hd : ∀ H', Same H1 H' → H' D = some (.lst ((xs.filter f).map v)) → Qd H') : LcGoal (Itt K a) (gName j) tt te vs σ H1 D Qd :=
  lc_ext walk_tup xs rfl hz (fun _ _ _ _ _ y => y) hD f v (fun _ e => Same.seqT e hs) hw ht he hd
theorem lc_lstE {xs : List V} (hs : SqL K H1 a xs) (hD : H1 D = none) (hz : xs.length ≤ 1000000) (f : V → Bool) (v : V → V) (hw : ∀ x ∈ xs, wipe ((wipe σ vs).set j (some x)) vs = wipe σ vs)
    (ht : ∀ x ∈ xs, ∀ H2, Same H1 H2 → ∀ (Q : Bool → Hp → Prop), (∀ H3, Same H2 H3 → Q (f x) H3) → tt ((wipe σ vs).set j (some x)) H2 Q)
    (he : ∀ x ∈ xs, f x = true → ∀ H2, Same H1 H2 → ∀ (Q : VK), (∀ H3, Same H2 H3 → Q (v x) H3) → te ((wipe σ vs).set j (some x)) H2 Q)
    (hd : ∀ H', Same H1 H' → H' D = some (.lst ((xs.filter f).map v)) → Qd H') : LcGoal (Itl K a) (gName j) tt te vs σ H1 D Qd :=
  lc_ext walk_list xs rfl hz (fun _ _ _ _ _ y => y) hD f v (fun _ e => Same.seq e hs) hw ht he hd
end
theorem yes_q {σ : L2.St} {H : Hp} {Q : Bool → Hp → Prop} (h : Q true H) : tYes σ H Q := h
theorem filter_all {xs : List V} : xs.filter (fun _ => true) = xs := by simp
end MN
namespace MN
open PySem PySem.Spec PyProof.Rows L2
/-- the built-in names that no def of the module hides; the signs -/
structure Blt (mg : Str → Option Value) : Prop where
  isinstance : mg "isinstance" = none
  str : mg "str" = none
  len : mg "len" = none
  all : mg "all" = none
  tuple : mg "tuple" = none
  int : mg "int" = none
  bool : mg "bool" = none
  list : mg "list" = none
  dict : mg "dict" = none
  range : mg "range" = none
  sorted : mg "sorted" = none
  zip : mg "zip" = none
  max : mg "max" = none
  min : mg "min" = none
  abs : mg "abs" = none
  repr : mg "repr" = none
  sum : mg "sum" = none
  any : mg "any" = none
  set : mg "set" = none
  enumerate : mg "enumerate" = none
  SIGNS : ∃ u, mg "SIGNS" = some u ∧ RelV (.str "abcde") u
def bltNames : List Str := ([("isinstance" : Str), ("str" : Str), ("len" : Str), ("all" : Str), ("tuple" : Str), ("int" : Str), ("bool" : Str), ("list" : Str)] : List Str) ++ ([("dict" : Str), ("range" : Str), ("sorted" : Str), ("zip" : Str), ("max" : Str), ("min" : Str), ("abs" : Str), ("repr" : Str)] : List Str) ++ ([("sum" : Str), ("any" : Str), ("set" : Str), ("enumerate" : Str)] : List Str)
theorem Blt.of {mg : Str → Option Value} (h : ∀ x ∈ bltNames, mg x = none) (hs : ∃ u, mg "SIGNS" = some u ∧ RelV (.str "abcde") u) : Blt mg := by
  refine ⟨h _ ?_, h _ ?_, h _ ?_, h _ ?_, h _ ?_, h _ ?_, h _ ?_, h _ ?_, h _ ?_, h _ ?_, h _ ?_, h _ ?_, h _ ?_, h _ ?_, h _ ?_, h _ ?_, h _ ?_, h _ ?_, h _ ?_, h _ ?_, hs⟩ <;> simp [bltNames]
end MN
/-! rules of one's own: repr of data, powers, texts repeated, a tuple turned round -/
namespace MN
open PySem PySem.Spec PyProof.Rows L2
section
variable {X : Cx}
/-- repr of lists and tuples of data -/
def rRepr (K : PySem.W.Frag) : List V → Hp → VK → Prop := fun xs H Q => ∃ (x : V) (d : PyData), xs = [x] ∧ Dp K H x d ∧ isDisplay d = true ∧ d.showable = true ∧ d.hasDict = false ∧ d.depth ≤ 60 ∧ d.shown.length ≤ sizeLine ∧ Q (.str d.shown) H
theorem call_repr (gd : X.A.guards = some []) (hu : X.A.units + 64 < cLine) : CallR X (.builtin "repr") (rRepr X.K) := by
  intro pins s σ H vs us Q I r h
  obtain ⟨x, d, rfl, hd, h1, h2, h3, h4, h5, q⟩ := h
  cases r with
  | cons rx rn =>
    cases rn
    obtain ⟨as, rd⟩ := Dp.reads I d x _ hd rx
    obtain ⟨a, rfl⟩ := isRef_of_reads rd h1
    refine repr_of_reads' rd h2 (PyData.noDict_hsm h3) gd (by omega) (fun _ _ e => e) (fun h' u tk hk => ?_) h5
    exact ⟨.str d.shown, H, I.kept hk, ⟨u, rfl⟩, q⟩
/-- i ** j, as far as the bits go -/
theorem op_powB : OpR X (binaryOp .Pow) (rI (fun i j => 0 ≤ j ∧ (Builtin.Int.intBits i : Int) * j ≤ 2 ^ 27) fun i j => .int (i ^ j.toNat)) := opI fun _ _ _ _ _ _ _ hc q => pow_int hc.1 hc.2 q
/-- s * n -/
def repS (z : Str) (n : Int) : Str := ⟨((List.replicate n.toNat z.cps.toList).flatten).toArray⟩
theorem foldl_app (l : List (Array Nat)) : ∀ a : Array Nat, (l.foldl (· ++ ·) a).toList = a.toList ++ (l.map Array.toList).flatten := by
  induction l with
  | nil => intro a; simp
  | cons x l ih => intro a; rw [List.foldl_cons, ih]; simp
theorem repS_length (z : Str) (n : Int) : (repS z n).length = n.toNat * z.length := by
  simp [repS, Str.length]
def rRepS : R2 := fun x y H Q => ∃ (z : Str) (n : Int), x = .str z ∧ y = .int n ∧ 0 ≤ n ∧ n ≤ 100000 ∧ z.length ≤ 100 ∧ Q (.str (repS z n)) H
theorem op_repS : OpR X (binaryOp .Mult) rRepS := by
  intro pins s σ H x y v u Q I rx ry h
  obtain ⟨z, n, rfl, rfl, h0, h1, h2, q⟩ := h
  obtain ⟨t, rfl⟩ := rx
  obtain ⟨t2, rfl⟩ := ry
  have hb : z.length * n.toNat ≤ 100 * 100000 := Nat.mul_le_mul h2 (by omega)
  have hl : Builtin.Str.tooLong (z.length * n.toNat) = false := by
    have h9 : z.length * n.toNat ≤ sizeLine := Nat.le_trans hb (by decide)
    exact decide_eq_false (by omega)
  have hdiv : ¬ n < 1 → ¬ ((z.length : Int) > (2 ^ 63 - 1) / n) := fun hn => by
    have e : (100 : Int) ≤ (2 ^ 63 - 1) / n := (Int.le_ediv_iff_mul_le (by omega)).mpr (by omega)
    omega
  refine P.mul_str (by simp only [Bool.or_eq_false_iff, decide_eq_false_iff_not]; omega) (fun hn _ => hdiv hn) (fun _ _ => hl) ?_
  by_cases c1 : n < 1
  · have e : repS z n = Str.empty := by
      have : n.toNat = 0 := by omega
      simp [repS, this, Str.empty]
    rw [if_pos c1]
    rw [e] at q
    exact ⟨by decide, .str Str.empty, H, I.tok _, ⟨_, rfl⟩, q⟩
  · rw [if_neg c1]
    by_cases c2 : (n == 1 || z.length == 0) = true
    · rw [if_pos c2]
      have e : repS z n = z := by
        rw [Bool.or_eq_true] at c2
        rcases c2 with c2 | c2
        · have : n = 1 := eq_of_beq c2
          subst this
          simp [repS]
        · have hz : z.cps.toList = [] := by
            have : z.cps.size = 0 := eq_of_beq c2
            simpa using this
          obtain ⟨⟨l⟩⟩ := z
          cases hz
          simp [repS]
      rw [e] at q
      exact ⟨.str z, H, I, ⟨_, rfl⟩, q⟩
    · rw [if_neg c2]
      have e : (⟨(List.replicate n.toNat z.cps).foldl (· ++ ·) #[]⟩ : Str) = repS z n := by
        have := foldl_app (List.replicate n.toNat z.cps) #[]
        simp only [repS]
        congr 1
        apply Array.toList_inj.mp
        rw [this]
        simp
      rw [e]
      refine ⟨?_, .str (repS z n), H, I.tok _, ⟨_, rfl⟩, q⟩
      show (repS z n).length ≤ sizeLine
      rw [repS_length, Nat.mul_comm]
      exact Nat.le_trans hb (by decide)
/-! ### rules in a comprehension's block: the text's facts K are given by name -/
section
variable {K : PySem.W.Frag} (hK : X.K = K)
include hK
theorem lenK : CallR X (.builtin "len") (fun xs H Q => ∃ p ys, xs = [.ref p] ∧ (SqL K H p ys ∨ SqT K H p ys) ∧ Q (.int (ys.length : Nat)) H) := hK ▸ call_len_seq
theorem allK (hc : X.calm = true) : CallR X (.builtin "all") (rAll K) := hK ▸ cr_all hc
theorem isiK : CallR X (.builtin "isinstance") (rIsi K) := hK ▸ call_isi
theorem ixLK : IxR X (rIxL K) := hK ▸ ix_list
theorem ixTK : IxR X (rIxT K) := hK ▸ ix_tup
theorem inSeqK : OpR X (compareOp .In) (rIn K false) := hK ▸ op_in_seq
theorem notInSeqK : OpR X (compareOp .NotIn) (rIn K true) := hK ▸ op_notIn_seq
end
/-! ### methods of lists, the context a letter -/
section
variable {o e : Expr} {to te : TE} {apos cpos : Pos}
theorem pe_popAt (K : PySem.W.Frag) (hK : X.K = K) (ho : PE X o to) (he : PE X e te)
    (hbase : attributeBase o "pop" X.env (eval o X.env) = eval o X.env := by rfl)
    (hfew : ((backTo cpos (starEach [e] X.env)).all (fun x => !x.1) && (backToKw cpos (keywordEach [] X.env)).all (fun x => x.1.isSome) && decide ([e].length + ([] : List Keyword).length + (if ([] : List Keyword).isEmpty then 0 else 1) < 30)) = true := by rfl)
    (hline : (apos.endLine == cpos.line) = true := by rfl) (hs : starEach [e] X.env = (false, eval e X.env) :: starEach [] X.env := by rfl) : PE X (.Call (.Attribute o "pop" apos) [e] [] cpos) (tBM K "list" rPopAt to (tCons te tNil)) := hK ▸ pe_bm PySem.F.plainAttrs_list PySem.F.slot_list_pop PySem.F.type_list_pop mt_popAt ho (pa_cons he pa_nil hs) hbase hfew hline hs rfl
theorem pe_append (K : PySem.W.Frag) (hK : X.K = K) (ho : PE X o to) (he : PE X e te)
    (hbase : attributeBase o "append" X.env (eval o X.env) = eval o X.env := by rfl)
    (hfew : ((backTo cpos (starEach [e] X.env)).all (fun x => !x.1) && (backToKw cpos (keywordEach [] X.env)).all (fun x => x.1.isSome) && decide ([e].length + ([] : List Keyword).length + (if ([] : List Keyword).isEmpty then 0 else 1) < 30)) = true := by rfl)
    (hline : (apos.endLine == cpos.line) = true := by rfl) (hs : starEach [e] X.env = (false, eval e X.env) :: starEach [] X.env := by rfl) : PE X (.Call (.Attribute o "append" apos) [e] [] cpos) (tBM K "list" rAppend to (tCons te tNil)) := hK ▸ pe_bm PySem.F.plainAttrs_list PySem.F.slot_list_append PySem.F.type_list_append mt_append ho (pa_cons he pa_nil hs) hbase hfew hline hs rfl
end
end
end MN
/-! list(d.values()); a class called through a local name; what is never evaluated -/
namespace MN
open PySem PySem.Spec PyProof.Rows L2
section
variable {X : Cx}
def tNo : TE := fun _ _ _ => False
theorem pe_no {e : Expr} : PE X e tNo := ⟨fun _ _ _ _ _ _ h => h.elim⟩
theorem pi_no {tg e : Expr} : PI X tg e (fun _ _ _ => False) := ⟨fun _ _ _ _ _ _ h => h.elim⟩
def tListVals (te : TE) : TE := fun σ H Q => te σ H fun x H1 => ∃ (d : Addr) (kvs : List (Key × V)), x = .ref d ∧ H1 d = some (.dK kvs) ∧ ∀ q, H1 q = none → Q (.ref q) (upd H1 q (.lst (kvs.map (·.2))))
theorem kv_vals : ∀ {kvs : List (Key × V)} {vs : List (Key × Value)}, KV kvs vs → Vals (kvs.map (·.2)) (vs.map (·.2))
  | [], [], _ => .nil
  | _ :: _, _ :: _, .cons h t => .cons h.2 (kv_vals t)
variable {e : Expr} {te : TE} {p apos cpos pos : Pos}
/-- list(e.values()) -/
theorem pe_listVals (hc : X.calm = true) (he : PE X e te) (hg : Gl X "list") (hm : X.mg "list" = none) (hbase : attributeBase e "values" X.env (eval e X.env) = eval e X.env := by rfl) (hline : (apos.endLine == cpos.line) = true := by rfl)
    (hs : starEach [.Call (.Attribute e "values" apos) [] [] cpos] X.env = (false, eval (.Call (.Attribute e "values" apos) [] [] cpos) X.env) :: starEach [] X.env := by rfl) :
    PE X (.Call (.Name "list" p) [.Call (.Attribute e "values" apos) [] [] cpos] [] pos) (tListVals te) := by
  refine ⟨fun pins s σ H Q I hq => ?_⟩
  refine wpAny_Call_Name_kw (ld_blt I hg hm boot_list ?_)
  refine PyProof.Rows.callWith_type1 ?_ hs rfl
  rw [hs]
  show wpAny _ _ (spliced ((false, eval (.Call (.Attribute e "values" apos) [] [] cpos) X.env) :: backTo pos (starEach [] X.env))) _ _ s
  refine Calls.spliced_cons ?_
  refine wpAny_Call_method (T := "dict") (id := "dict.values") hbase rfl hline F.plainAttrs_dict F.slot_dict_values F.type_dict_values (thn (he.run pins s σ H _ I hq) fun u s1 ⟨x, H1, I1, rx, d, kvs, ex, hd, q⟩ => ?_)
  subst ex
  obtain rfl : u = Value.ref d := rx
  obtain ⟨hz, hs0, vs, kv, hdo⟩ := I1.hok d _ hd
  obtain ⟨ep, hat⟩ := hdo.dictAt
  have lk : kvs.length = vs.length := Paired.length kv
  have I2 : Inv X pins σ H1 { s1 with heap := s1.heap.push { cls := .type "dict_values", data := .fields #[.ref d] } } := I1.kept (t' := s1.toks) fun b ob q => Heap.get?_push_of_some _ q
  refine ⟨hdo.typeIs, hdo.mapOf.noDict, ?_⟩
  show wpAny _ _ (callWith cpos (.builtin "dict.values") [.ref d] [] []) _ X.xe s1
  refine method_meetsIn F.slot_dict_values F.entry_dict_values rfl (PySem.evalArgs_none ⟨rfl, hdo.typeIs, F.args_dict_values_1 _, _, meets_dict_values (mixKind X.prog X.w) d hs0, ⟨vs, hdo⟩, ?_⟩)
  refine Calls.spliced_nil ?_
  refine PySem.W.kdl_call (PySem.W.kdl_values (knd := mixKind X.prog X.w) (kvs := vs) (ep := ep)) (I1.ok.hd hc) ⟨⟨_, Heap.get?_push_size _ rfl, rfl, rfl⟩, hat.push _⟩ (by rw [← lk]; exact hz) fun h' tk acc' c' hkeep hS hacc => ?_
  have el : acc'.toList.length = acc'.size := by simp
  have ev : acc'.toList = vs.map (·.2) := PySem.W.kdl_vals_eq acc'.toList (by rw [el, hacc.1]) fun j v h2 => hacc.2 j v (by rw [← Array.getElem?_toList]; exact h2)
  refine ⟨.ref _, upd H1 _ (.lst (kvs.map (·.2))), I2.laid hkeep (Nat.le_refl _) (show ObjOk X.prog X.w _ _ _ (.lst (kvs.map (·.2))) from ⟨?_, acc'.toList, c', ?_, ?_⟩), rfl, q _ (I2.hok.fresh (Nat.le_refl _))⟩
  · rw [List.length_map]; exact hz
  · rw [ev]; exact kv_vals kv
  · rw [Array.toArray_toList]; exact hS
end
section
variable {X : Cx} {CX : CXT} {k i : Nat} {f C : Addr} {fd : FuncData} {ps ks : List Str} {sp : Sp} {E : XK} {x : Str} {p pos : Pos} {kws : List Keyword} {tk : TA} {g : List Value → List Value → List Value} {gV : List V → List V → List V}
/-- the class that the i-th slot holds, called by keywords alone -/
def tMakeKL (i : Nat) (C : Addr) (m : Nat) (sp : Sp) (gV : List V → List V → List V) (E : XK) (tk : TA) : TE := fun σ H Q => σ[i]? = some (some (.ref C)) ∧ tMakeK C 0 m sp gV E tNil tk σ H Q
theorem pe_makeKL (M : Mk X.K C f) (F : FnOk X.prog X.w X.K X.mg X.base CX k f fd ps sp) (hr : Room (k + 1) X.A) (hN : X.N[i]? = some x) (hv : Vis X.env.scope x) (hb : KBn X.K fd ps 1 ks g gV) (hx : Passes CX X E) (hkw : PK X kws tk)
    (hall : (backToKw pos (keywordEach kws X.env)).all (·.1.isSome) = true := by rfl) (hks : (backToKw pos (keywordEach kws X.env)).filterMap (·.1) = ks := by rfl) (hdb : (x == ("__debug__" : Str)) = false := by decide) (hcd : (x == ("__classdict__" : Str)) = false := by decide)
    (hpl : ((backTo pos (starEach [] X.env)).any (·.1) || (backToKw pos (keywordEach kws X.env)).any (·.1.isNone)) = false := by rfl) :
    PE X (.Call (.Name x p) [] kws pos) (tMakeKL i C ks.length sp gV E tk) := by
  refine ⟨fun pins s σ H Q I h => ?_⟩
  obtain ⟨hs, h⟩ := h
  refine wpAny_Call_Name_kw (thn ((pe_var (pos := p) hN hv hdb hcd).run pins s σ H (fun v H1 => v = .ref C ∧ H1 = H) I ⟨.ref C, hs, rfl, rfl⟩) fun u s1 ⟨v, H1, I1, r1, q1⟩ => ?_)
  obtain ⟨rfl, rfl⟩ := q1
  cases r1
  refine PySem.W.callWith_KW0 (h₀ := X.base) I.ok.mod.kin M.kp hall ?_ hpl
  refine thn (hkw.run pos pins s1 σ _ _ I1 h) fun ws s2 ⟨zs, H2, I2, rz, l1, l2, q2⟩ => ⟨I2.kIn, ?_⟩
  rw [hks]
  exact run_makeK (us := []) (vs := []) M F hr hb hx I2 .nil rz rfl l2 q2
end
/-! ### isinstance(value, str) where value may be an instance with slots -/
/-- an instance with slots, of a class that is no text -/
def SlNo (K : PySem.W.Frag) (H : Hp) (v : V) (u : Value) : Prop := ∃ a C dx vs, v = .ref a ∧ SlX.Slt H a C dx vs ∧ SlX.SCls K C ∧ SlX.SIsi K C ∧ PySem.W.kitOne K (.ref C) u = some false
def IsX (K : PySem.W.Frag) (H : Hp) (v : V) (c : String) (b : Bool) : Prop := (∃ t, TyX K H v t ∧ PySem.W.kitOne K t (.type c) = some b) ∨ (b = false ∧ SlNo K H v (.type c))
theorem IsX.str {K : PySem.W.Frag} {H : Hp} {z : Str} : IsX K H (.str z) "str" true := .inl ⟨_, .base (.str z), kit_ty (by decide +kernel)⟩
def rIsS (K : PySem.W.Frag) : List V → Hp → VK → Prop := fun xs H Q => ∃ x c b, xs = [x, .ty c] ∧ IsX K H x c b ∧ Q (.bl b) H
theorem call_isS {X : Cx} : CallR X (.builtin "isinstance") (rIsS X.K) := by
  intro pins s σ H xs us Q I r h
  obtain ⟨x, c, b, rfl, h | ⟨rfl, a, C, dx, vs, rfl, h1, h2, h3, h4⟩, q⟩ := h
  · obtain ⟨t, h1, h2⟩ := h
    exact call_isi pins s σ H _ us Q I r ⟨x, .ty c, t, .type c, b, rfl, .ty _, h1, h2, q⟩
  · refine SlX.call_isiSl (.type c) pins s σ H _ us Q I r ⟨a, C, dx, vs, .ty c, false, rfl, rfl, fun w e => e, h1, h2, h3, h4, q⟩
end MN
/-! lemmas that hang on no law: walks, locked dicts, instances with slots -/
namespace MN
open PySem PySem.Spec PyProof.Rows L2
theorem same_new {H : Hp} {p : Addr} {o : HO} (h : H p = none) : Same H (upd H p o) := fun b u e => by rw [upd_ne (ne_of_none e h)]; exact e
theorem tyT {K : PySem.W.Frag} {H : Hp} {t : Addr} {xs : List V} (h : SqT K H t xs) : TyX K H (.ref t) (.type "tuple") := by
  rcases h with (h | ⟨o, h⟩) | h
  · exact .base (.tup h)
  · exact .fTuple h
  · obtain ⟨o, its, n, e1, e2, _⟩ := h
    exact .kTuple e1 e2
abbrev GlC (mg : Str → Option Value) (x : Str) (v : V) : Prop := ∃ u, mg x = some u ∧ RelV v u
theorem IsX.ty {K : PySem.W.Frag} {H : Hp} {v : V} {a c : String} {b : Bool} (h : TyX K H v (.type a)) (hk : kitB a c = some b) : IsX K H v c b := .inl ⟨_, h, kit_ty hk⟩
theorem pg_tupK {X : Cx} {pos : Pos} {K : PySem.W.Frag} (hK : X.K = K) {es : List Expr} {k : Nat} {t : TGs} {n : Nat} (hc : X.calm = true) (h : PGs X es t)
    (hn : (assignEach es X.env).length = n := by rfl) (hst : (assignEach es X.env).findIdx? (·.1) = none := by rfl) : PG X (.Tuple es k pos) (gTup K n t) := hK ▸ pg_tup hc h hn hst
theorem isSK {X : Cx} {K : PySem.W.Frag} (hK : X.K = K) : CallR X (.builtin "isinstance") (rIsS K) := hK ▸ call_isS
theorem walk_zipT {K : PySem.W.Frag} {a b : Addr} {xs ys : List V} {n : Nat} (hn : n = min xs.length ys.length) : Walk (RZ.ItzT K a b) n (fun H => SqT K H a xs ∧ SqT K H b ys) (YPair (fun i => xs[i]?) (fun i => ys[i]?)) := by
  subst hn
  refine ⟨fun i _ hi q => ?_, fun _ q => ⟨xs, ys, q.1, q.2, by omega⟩, fun i H v H' _ q y => ?_⟩
  · have h1 : i < xs.length := by omega
    have h2 : i < ys.length := by omega
    exact ⟨xs, ys, xs[i], ys[i], q.1, q.2, by simp [h1], by simp [h2]⟩
  · obtain ⟨T, x, y, h1, h2, h3, h4, h5⟩ := y
    exact ⟨T, x, y, h1, h2, h3, h4 xs q.1, h5 ys q.2⟩
section
variable {j : Nat} {tt : TT} {te : TE} {vs : List Nat} {σ : L2.St} {H1 : Hp} {D d : Addr} {o : Obj} {Qd : Hp → Prop}
theorem lc_keys {kvs : List (Key × V)} (hs : H1 d = some (.frz o (.dK kvs))) (hD : H1 D = none) (hz : kvs.length ≤ 1000000) (f : V → Bool) (v : V → V) (hw : ∀ x ∈ kvs.map (fun kv => kV kv.1), wipe ((wipe σ vs).set j (some x)) vs = wipe σ vs)
    (ht : ∀ x ∈ kvs.map (fun kv => kV kv.1), ∀ (acc : List V) (Q : Bool → Hp → Prop), Q (f x) (upd H1 D (.lst acc)) → tt ((wipe σ vs).set j (some x)) (upd H1 D (.lst acc)) Q)
    (he : ∀ x ∈ kvs.map (fun kv => kV kv.1), f x = true → ∀ (acc : List V) (Q : VK), Q (v x) (upd H1 D (.lst acc)) → te ((wipe σ vs).set j (some x)) (upd H1 D (.lst acc)) Q)
    (hd : Qd (upd H1 D (.lst (((kvs.map fun kv => kV kv.1).filter f).map v)))) : LcGoal (Itk d o kvs) (gName j) tt te vs σ H1 D Qd := by
  refine lc_pure walk_keys (kvs.map fun kv => kV kv.1) (by simp) hz (fun i H x H' hi y => ?_) f v (fun _ => by rw [upd_ne (ne_of_none hs hD)]; exact hs) hw ht he hd
  obtain ⟨e, k, v', h1, rfl⟩ := y
  exact ⟨e, by simp [h1]⟩
theorem dc_it {J : It} {n : Nat} {G : Hp → Prop} {Y : Nat → Hp → V → Hp → Prop} (w : Walk J n G Y) {g : TG} {tk tv : TE} (Pv : Nat → Hp → Prop) (h0 : Pv 0 (upd H1 D (.dK []))) (hG : ∀ i H, i ≤ n → Pv i H → G H)
    (hs : ∀ i x H H', i < n → Pv i H → Y i H x H' → g x (wipe σ vs) H' fun σ2 H2 => wipe σ2 vs = wipe σ vs ∧ tt σ2 H2 fun b H3 =>
      if b = true then tk σ2 H3 fun y H4 => tv σ2 H4 fun z H5 => ∃ kvs k, y = kV k ∧ H5 D = some (.dK kvs) ∧ kvs.length < sizeLine ∧ Pv (i + 1) (upd H5 D (.dK (putK kvs k z))) else Pv (i + 1) H3) (hd : ∀ H, Pv n H → Qd H) :
    ∃ W : Nat → Nat → Hp → Prop, (∃ m, W 0 m (upd H1 D (.dK []))) ∧ ∀ i m H, W i m H →
      (J.stop i H ∧ Qd H) ∨ (J.go i H ∧ ∃ Nx : Hp → Prop, (∀ H', Nx H' → ∃ m', m' < m ∧ W (i + 1) m' H') ∧ ∀ x H', J.yld i H x H' → g x (wipe σ vs) H' fun σ2 H2 => wipe σ2 vs = wipe σ vs ∧ tt σ2 H2 fun b H3 =>
        if b = true then tk σ2 H3 fun y H4 => tv σ2 H4 fun z H5 => ∃ kvs k, y = kV k ∧ H5 D = some (.dK kvs) ∧ kvs.length < sizeLine ∧ Nx (upd H5 D (.dK (putK kvs k z))) else Nx H3) := by
  refine ⟨fun i m H => m = n - i ∧ i ≤ n ∧ Pv i H, ⟨n, by simp, Nat.zero_le _, h0⟩, ?_⟩
  rintro i m H ⟨rfl, hi, p⟩
  have q := hG i H hi p
  by_cases hlt : i < n
  · exact .inr ⟨w.goes i H hlt q, Pv (i + 1), fun H' p' => ⟨n - (i + 1), by omega, rfl, hlt, p'⟩, fun x H' y => hs i x H H' hlt p (w.yields i H x H' hlt q y)⟩
  · obtain rfl : i = n := by omega
    exact .inl ⟨w.stops H q, hd H p⟩
theorem dp_it {J : It} {n : Nat} {G : Hp → Prop} {Y : Nat → Hp → V → Hp → Prop} {o0 : HO} (w : Walk J n G Y) {g : TG} {tk tv : TE} (Pv : Nat → Hp → Prop) (h0 : Pv 0 (upd H1 D o0)) (hG : ∀ i H, i ≤ n → Pv i H → G H)
    (hs : ∀ i x H H', i < n → Pv i H → Y i H x H' → g x (wipe σ vs) H' fun σ2 H2 => wipe σ2 vs = wipe σ vs ∧ tt σ2 H2 fun b H3 =>
      if b = true then tk σ2 H3 fun y H4 => tv σ2 H4 fun z H5 => ∃ H6, DPut H5 D y z H6 ∧ Pv (i + 1) H6 else Pv (i + 1) H3) (hd : ∀ H, Pv n H → Qd H) :
    ∃ W : Nat → Nat → Hp → Prop, (∃ m, W 0 m (upd H1 D o0)) ∧ ∀ i m H, W i m H →
      (J.stop i H ∧ Qd H) ∨ (J.go i H ∧ ∃ Nx : Hp → Prop, (∀ H', Nx H' → ∃ m', m' < m ∧ W (i + 1) m' H') ∧ ∀ x H', J.yld i H x H' → g x (wipe σ vs) H' fun σ2 H2 => wipe σ2 vs = wipe σ vs ∧ tt σ2 H2 fun b H3 =>
        if b = true then tk σ2 H3 fun y H4 => tv σ2 H4 fun z H5 => ∃ H6, DPut H5 D y z H6 ∧ Nx H6 else Nx H3) := by
  refine ⟨fun i m H => m = n - i ∧ i ≤ n ∧ Pv i H, ⟨n, by simp, Nat.zero_le _, h0⟩, ?_⟩
  rintro i m H ⟨rfl, hi, p⟩
  have q := hG i H hi p
  by_cases hlt : i < n
  · exact .inr ⟨w.goes i H hlt q, Pv (i + 1), fun H' p' => ⟨n - (i + 1), by omega, rfl, hlt, p'⟩, fun x H' y => hs i x H H' hlt p (w.yields i H x H' hlt q y)⟩
  · obtain rfl : i = n := by omega
    exact .inl ⟨w.stops H q, hd H p⟩
end
/-- nothing to walk over -/
theorem lc_none {J : It} {g : TG} {tt : TT} {te : TE} {vs : List Nat} {σ : L2.St} {H1 : Hp} {D : Addr} {Qd : Hp → Prop} (h : J.stop 0 (upd H1 D (.lst []))) (q : Qd (upd H1 D (.lst []))) : LcGoal J g tt te vs σ H1 D Qd :=
  ⟨fun i _ H => i = 0 ∧ H = upd H1 D (.lst []), ⟨0, rfl, rfl⟩, fun _ _ _ e => by
    obtain ⟨rfl, rfl⟩ := e
    exact .inl ⟨h, q⟩⟩
/-- locked, a list laid, unlocked -/
theorem same_lock {H : Hp} {a D : Addr} {u : HO} {o : Obj} {x : HO} (h : H a = some u) (hD : (upd H a (.frz o u)) D = none) : Same H (upd (upd (upd H a (.frz o u)) D x) a u) ∧ (upd (upd (upd H a (.frz o u)) D x) a u) D = some x ∧ D ≠ a := by
  have n : D ≠ a := fun z => by rw [z, upd_same] at hD; cases hD
  refine ⟨fun b y e => ?_, by rw [upd_ne n, upd_same], n⟩
  by_cases z : b = a
  · rw [z, upd_same]; rw [z, h] at e; exact e
  · rw [upd_ne z]
    have n2 : b ≠ D := fun q => by rw [upd_ne n] at hD; rw [q, hD] at e; cases e
    rw [upd_ne n2, upd_ne z]; exact e
theorem lc_keysL {j : Nat} {tt : TT} {te : TE} {vs : List Nat} {σ : L2.St} {H1 : Hp} {D a : Addr} {od : Obj} {kvs : List (Key × V)} {Qd : Hp → Prop} (h : H1 a = some (.dK kvs)) (hD : (upd H1 a (.frz od (.dK kvs))) D = none) (hz : kvs.length ≤ 1000000) (f : V → Bool) (v : V → V) (hw : ∀ x ∈ kvs.map (fun kv => kV kv.1), wipe ((wipe σ vs).set j (some x)) vs = wipe σ vs)
    (ht : ∀ x ∈ kvs.map (fun kv => kV kv.1), ∀ H2, H2 a = some (.frz od (.dK kvs)) → (∀ b o, b ≠ a → H1 b = some o → H2 b = some o) → ∀ (Q : Bool → Hp → Prop), Q (f x) H2 → tt ((wipe σ vs).set j (some x)) H2 Q)
    (he : ∀ x ∈ kvs.map (fun kv => kV kv.1), f x = true → ∀ H2, H2 a = some (.frz od (.dK kvs)) → (∀ b o, b ≠ a → H1 b = some o → H2 b = some o) → ∀ (Q : VK), Q (v x) H2 → te ((wipe σ vs).set j (some x)) H2 Q)
    (hd : ∀ H', H' a = some (.frz od (.dK kvs)) → Same H1 (upd H' a (.dK kvs)) → upd H' a (.dK kvs) D = some (.lst (((kvs.map fun kv => kV kv.1).filter f).map v)) → Qd H') :
    LcGoal (Itk a od kvs) (gName j) tt te vs σ (upd H1 a (.frz od (.dK kvs))) D Qd := by
  have n : D ≠ a := fun z => by rw [z, upd_same] at hD; cases hD
  have k1 : ∀ acc, upd (upd H1 a (.frz od (.dK kvs))) D (.lst acc) a = some (.frz od (.dK kvs)) := fun acc => by rw [upd_ne n.symm, upd_same]
  have k2 : ∀ acc b o, b ≠ a → H1 b = some o → upd (upd H1 a (.frz od (.dK kvs))) D (.lst acc) b = some o := fun acc b o nb e => by
    have n2 : b ≠ D := fun q => by rw [upd_ne n] at hD; rw [q, hD] at e; cases e
    rw [upd_ne n2, upd_ne nb]; exact e
  refine lc_keys upd_same hD hz f v hw (fun x hx acc Q q => ht x hx _ (k1 _) (k2 _) Q q) (fun x hx hf acc Q q => he x hx hf _ (k1 _) (k2 _) Q q) ?_
  obtain ⟨s, sD, _⟩ := same_lock (x := .lst (((kvs.map fun kv => kV kv.1).filter f).map v)) h hD
  exact hd _ (k1 _) s sD
theorem slt_same {H H' : Hp} {a C dx : Addr} {vs : List (Option V)} (e : Same H H') (h : SlX.Slt H a C dx vs) : SlX.Slt H' a C dx vs := by
  rcases h with ⟨h, rfl⟩ | ⟨h1, h2⟩
  · exact .inl ⟨e _ _ h, rfl⟩
  · exact .inr ⟨e _ _ h1, e _ _ h2⟩
theorem piTupK {X : Cx} {K : PySem.W.Frag} (hK : X.K = K) {tg l : Expr} {tl : TE} (hl : PE X l tl) : PI X tg l (iTup K tl) := hK ▸ pi_tup hl
theorem putK_le (kvs : List (Key × V)) (k : Key) (v : V) : (putK kvs k v).length ≤ kvs.length + 1 := by
  unfold putK
  split <;> simp
/-- an instance with slots, laid -/
def Sl2 (H : Hp) (a C dx : Addr) (vs : List (Option V)) : Prop := H a = some (SlX.SlO a C dx vs) ∧ H dx = some (.xd [])
theorem slH_sl2 {H : Hp} {a C dx : Addr} {vs : List (Option V)} (h : dx ≠ a) : Sl2 (SlX.slH H a C dx vs) a C dx vs := ⟨upd_same, by unfold SlX.slH; rw [upd_ne h, upd_same]⟩
/-- all but x and dx stays -/
def Kp (x dx : Addr) (H H' : Hp) : Prop := ∀ b o, b ≠ x → b ≠ dx → H b = some o → H' b = some o
theorem Kp.same {x dx : Addr} {H H1 H2 : Hp} (h : Kp x dx H H1) (e : Same H1 H2) : Kp x dx H H2 := fun b o n1 n2 q => e _ _ (h b o n1 n2 q)
theorem Kp.sl {x dx C : Addr} {vs : List (Option V)} {H H1 : Hp} (h : Kp x dx H H1) : Kp x dx H (SlX.slH H1 x C dx vs) := fun b o n1 n2 q => by
  rw [SlX.slH_ne n1 n2]; exact h b o n1 n2 q
section
variable {P : Program} {w : World} {K : PySem.W.Frag} {mg : Str → Option Value} {base : Heap}
theorem fnok_of {x qual : Str} {params : Arguments} {body : List Stmt} {scope : Scope} {dvs : List V} {kws : List (Str × V)} {f : Addr} {fd : FuncData} {N ps : List Str} {k : Nat} {sp : Sp} (F : FunD K x qual params body scope dvs kws f fd) (S : FnScope N ps scope) (len : ∀ vs H Q E, sp vs H Q E → vs.length = ps.length)
    (hbody : ∀ (cdv : Value) (A : Around) (outer : List Env) (s : Shared) (H : Hp) (vs : List V) (Q : VK) (E : XK), Room k (A.deeper (envOfC qual scope s.heap.objs.size f cdv)) → sp vs H Q E →
      ∃ t, PSs (cxOf CX0 P w K mg base N qual scope f cdv A outer s H E).nox body t ∧ t { nx := fun _ H' => Q .non H', rt := Q } (start N vs) H) : FnOk P w K mg base CX0 (k + 1) f fd ps sp :=
  F.ok S len fun cdv A outer s H vs Q E hr h => by
    obtain ⟨t, h1, h2⟩ := hbody cdv A outer s H vs Q E hr h
    exact ⟨t, h1.nox, h2⟩
abbrev FunAt (K : PySem.W.Frag) (x qual : Str) (st : Stmt) (dvs : List V) (f : Addr) (fd : FuncData) : Prop := FunD K x qual (defArgs st) (defBody st) (defScope st) dvs [] f fd
end
/-- a new object, in a word -/
theorem laid {H : Hp} {q : Addr} (o : HO) (h : H q = none) : Same H (upd H q o) ∧ upd H q o q = some o := ⟨same_new h, upd_same⟩
end MN
/-! t[::-1] of a tuple -/
namespace MN
open PySem PySem.Spec PyProof.Rows L2
theorem places_back (n : Nat) : Builtin.Slice.slicePlaces ((n : Int) - 1) (-1) (-1) = n := by
  unfold Builtin.Slice.slicePlaces
  rw [if_neg (by decide)]
  by_cases h : n = 0
  · subst h; rfl
  · rw [if_pos (by omega), Int.neg_neg, Int.ediv_one]
    omega
theorem filterMap_some {α β : Type} {f : α → Option β} {g : α → β} : ∀ {l : List α}, (∀ k ∈ l, f k = some (g k)) → l.filterMap f = l.map g
  | [], _ => rfl
  | x :: l, h => by
    rw [List.filterMap_cons, h x List.mem_cons_self, List.map_cons, filterMap_some fun k hk => h k (List.mem_cons_of_mem _ hk)]
theorem pick_back (xs : Array Value) : ((List.range xs.size).filterMap fun (k : Nat) => xs[(((xs.size : Int) - 1) + (k : Int) * (-1)).toNat]?).toArray = xs.toList.reverse.toArray := by
  congr 1
  have e : ∀ k ∈ List.range xs.size, (fun (k : Nat) => xs[(((xs.size : Int) - 1) + (k : Int) * (-1)).toNat]?) k = some (xs.toList.reverse.getD k .none) := by
    intro k hk
    have hk : k < xs.size := List.mem_range.mp hk
    have i : (((xs.size : Int) - 1) + (k : Int) * (-1)).toNat = xs.size - 1 - k := by omega
    simp only [i]
    have hl : k < xs.toList.reverse.length := by simpa using hk
    rw [List.getD_eq_getElem?_getD, List.getElem?_eq_getElem hl, List.getElem_reverse]
    rw [Array.getElem?_eq_getElem (by omega)]
    simp
  rw [filterMap_some e]
  apply List.ext_getElem?
  intro i
  rw [List.getElem?_map]
  by_cases hi : i < xs.size
  · rw [List.getElem?_range hi]
    have hl : i < xs.toList.reverse.length := by simpa using hi
    simp only [Option.map_some]
    rw [List.getD_eq_getElem?_getD, List.getElem?_eq_getElem hl]
    simp
  · rw [List.getElem?_eq_none (by simpa using hi), List.getElem?_eq_none (by simpa using hi)]
    rfl
section
variable {prog : Program} {w : World} {A : Around} {E : Value → Shared → Prop} {s : Shared}
theorem getItem_tuple_back {t sl : Addr} {items : Array Value} {vs : Value} {Q : Value → Shared → Prop} (ht : IsTup s.heap t items) (hs : s.heap.IsSliceOf sl .none .none vs) (ps : IsPart vs (some (-1)))
    (h : Q (.ref s.heap.objs.size) { s with heap := s.heap.push { cls := .type "tuple", data := .seq items.toList.reverse.toArray } }) (hsz : items.size ≤ sizeLine) : wpAny (model prog w) A (getItem (.ref t) (.ref sl)) Q E s := by
  have hok : sizeOk (.seq items.toList.reverse.toArray) := by
    show items.toList.reverse.toArray.size ≤ sizeLine
    simpa using hsz
  obtain ⟨os, hos, hcs, hds⟩ := id hs
  have hTs : s.TypeIs (.ref sl) "slice" := ⟨os, hos, hcs⟩
  unfold getItem
  try with_reducible refine wpAny_holding ?_
  first | refine wpAny_bind (wpAny_pure ?_) | skip
  refine wpAny_bind (wpAny_sequenceKey ht.typeIs (by decide) ?_)
  refine wpAny_bind (wpAny_callSpecial?_slot (name := Str.ofString "__getitem__") ht.typeIs PyProof.Rows.slot_tuple_getitem
    (wpAny_call_entry PyProof.Rows.slot_tuple_getitem ht.typeIs entry_tuple_getitem ?_ (args_tuple_getitem _ _)))
  show wpAny _ _ (Builtin.Tuple.tupleItemsOf (.ref t) >>= _) _ _ s
  refine wpAny_bind (tupleItemsOf_ ht ?_)
  refine wpAny_bind (wpAny_typeOf hTs ?_)
  rw [if_pos (by decide)]
  refine wpAny_bind (m := Builtin.Slice.sliceApplied (.ref sl) (pure (items.size : Int))) ?_
  unfold Builtin.Slice.sliceApplied Builtin.Slice.sliceFields
  refine wpAny_bind (wpAny_bind (wpAny_field hos hds (x := .none) rfl (wpAny_bind (wpAny_field hos hds (x := .none) rfl (wpAny_bind (wpAny_field hos hds (x := vs) rfl (wpAny_pure ?_)))))))
  refine wpAny_bind (HT.slicePart_ ps ?_)
  show wpAny _ _ (if ((-1 : Int) == 0) = true then _ else _) _ _ s
  rw [if_neg (by decide)]
  refine wpAny_bind (HT.slicePart_ .none (wpAny_bind (HT.slicePart_ .none (wpAny_bind (wpAny_pure ?_)))))
  show wpAny _ _ (pure ((items.size : Int) - 1, (-1 : Int), Builtin.Slice.slicePlaces ((items.size : Int) - 1) (-1) (-1))) _ _ s
  rw [places_back]
  refine wpAny_pure ?_
  have hno : ¬ (((items.size : Int) - 1 == 0 && (-1 : Int) == 1 && items.size == items.size) = true) := by simp
  show wpAny _ _ (if ((items.size : Int) - 1 == 0 && (-1 : Int) == 1 && items.size == items.size) = true then _ else _) _ _ s
  rw [if_neg hno, pick_back]
  first
    | exact wpAny_bind (m := Builtin.Tuple.tupleExact _) (wpAny_newObj_type (wpAny_pure ⟨_, rfl, wpAny_pure h⟩) hok)
    | exact wpAny_bind (m := Builtin.Tuple.tupleExact _) (wpAny_newObj_type (wpAny_bind (wpAny_pure (wpAny_pure ⟨_, rfl, wpAny_pure h⟩))) hok)
    | exact wpAny_bind (wpAny_bind (m := Builtin.Tuple.tupleExact _) (wpAny_newObj_type (wpAny_pure (wpAny_pure ⟨_, rfl, wpAny_pure h⟩)) hok))
    | exact wpAny_bind (wpAny_bind (m := Builtin.Tuple.tupleExact _) (wpAny_newObj_type (wpAny_pure ⟨_, rfl, wpAny_pure h⟩) hok))
end
section
variable {X : Cx}
def tRevT (K : PySem.W.Frag) (te : TE) : TE := fun σ H Q => te σ H fun x H1 => ∃ a xs, x = .ref a ∧ SqT K H1 a xs ∧ ∀ p, H1 p = none → Q (.ref p) (upd H1 p (.tup xs.reverse))
theorem pe_revT {e : Expr} {te : TE} {k : Nat} {p1 p2 p3 pos : Pos} (he : PE X e te) : PE X (.Subscript e (.Slice none none (some (.UnaryOp .USub (.Constant (.int 1) k p1) p2)) p3) pos) (tRevT X.K te) := by
  refine ⟨fun pins s σ H Q I h => ?_⟩
  refine Subscript_ (thn (he.run pins s σ H _ I h) fun v s1 ⟨x, H1, I1, r1, a, xs, ex, hx, q⟩ => ?_)
  subst ex
  cases r1
  have hst : PO X (some (.UnaryOp .USub (.Constant (.int 1) k p1) p2)) (tPart (tUn (rU fun i => .int (-i)) (tC (.int 1)))) := po_some (pe_un un_neg pe_int)
  refine wpAny_Slice (thn (po_none.run pins s1 σ H1 (fun o H2 => o = none ∧ H2 = H1) I1 ⟨rfl, rfl⟩) fun vl s2 ⟨l, H2, I2, pl, el, e2⟩ => ?_)
  cases el
  cases e2
  refine thn (po_none.run pins s2 σ H1 (fun o H3 => o = none ∧ H3 = H1) I2 ⟨rfl, rfl⟩) fun vu s3 ⟨u, H3, I3, pu, eu, e3⟩ => ?_
  cases eu
  cases e3
  refine thn (hst.run pins s3 σ H1 (fun o H4 => o = some (-1) ∧ H4 = H1) I3 ⟨1, rfl, -1, rfl, rfl, rfl⟩) fun vs s4 ⟨o, H4, I4, ps, eo, e4⟩ => ?_
  cases eo
  cases e4
  cases pl
  cases pu
  have I5 : Inv X pins σ H1 { s4 with heap := s4.heap.push { cls := .type "slice", data := .fields #[.none, .none, vs] } } := I4.kept (t' := s4.toks) fun b ob q => Heap.get?_push_of_some _ q
  obtain ⟨its, r, ht, hz⟩ := I5.tuple hx
  have hlen := r.length
  show wpAny (model X.prog X.w) X.A (subscriptTail e (.Slice none none (some (.UnaryOp .USub (.Constant (.int 1) k p1) p2)) p3) (.ref a) (.ref s4.heap.objs.size)) (EP X pins σ Q) X.xe { s4 with heap := s4.heap.push { cls := .type "slice", data := .fields #[.none, .none, vs] } }
  refine tail_any (ops := [.ref a, .ref s4.heap.objs.size]) ht.typeIs PyProof.Rows.slot_tuple_getitem.lookup ?_ (by with_unfolding_all rfl)
  refine getItem_tuple_back ht (Heap.IsSliceOf.new _ .none .none vs) ps ?_ (by rw [List.size_toArray]; omega)
  refine ⟨.ref _, _, I5.laid (t' := s4.toks) (o := .tup xs.reverse) (fun b ob q => Heap.get?_push_of_some _ q) (Nat.le_refl _) ?_, rfl, q _ (I5.hok.fresh (Nat.le_refl _))⟩
  exact ⟨by rw [List.length_reverse]; exact hz, _, r.reverse, IsTup.new _ _⟩
end
end MN
/-! the order of words: by length, then sign by sign -/
namespace MN
open PySem
def ahead (a b : Str) : Prop := a.length < b.length ∨ (a.length = b.length ∧ a.cps.toList < b.cps.toList)
instance (a b : Str) : Decidable (ahead a b) := by unfold ahead; infer_instance
theorem str_ext {a b : Str} (h : a.cps.toList = b.cps.toList) : a = b := PySem.W.str_of_cps h
theorem str_eq_iff {a b : Str} : a = b ↔ a.cps.toList = b.cps.toList := ⟨fun h => by rw [h], str_ext⟩
theorem ahead_irrefl (a : Str) : ¬ ahead a a := fun h => by
  rcases h with h | ⟨_, h⟩
  · omega
  · exact List.lt_irrefl _ h
theorem ahead_trans {a b c : Str} (h : ahead a b) (h' : ahead b c) : ahead a c := by
  rcases h with h | ⟨e, h⟩ <;> rcases h' with h' | ⟨e', h'⟩
  · exact .inl (by omega)
  · exact .inl (by omega)
  · exact .inl (by omega)
  · exact .inr ⟨by omega, List.lt_trans h h'⟩
theorem ahead_total (a b : Str) : ahead a b ∨ a = b ∨ ahead b a := by
  by_cases h1 : a.length < b.length
  · exact .inl (.inl h1)
  by_cases h2 : b.length < a.length
  · exact .inr (.inr (.inl h2))
  have e : a.length = b.length := by omega
  by_cases h3 : a.cps.toList < b.cps.toList
  · exact .inl (.inr ⟨e, h3⟩)
  by_cases h4 : b.cps.toList < a.cps.toList
  · exact .inr (.inr (.inr ⟨e.symm, h4⟩))
  exact .inr (.inl (str_ext (List.le_antisymm (List.not_lt.mp h4) (List.not_lt.mp h3))))
def leW (a b : Str) : Bool := !decide (ahead b a)
/-- each once, in the order in which they are met -/
def uniq (zs : List Str) : List Str := zs.foldl (fun acc z => if z ∈ acc then acc else acc ++ [z]) []
theorem uniq_spec (zs : List Str) : ∀ acc : List Str, acc.Nodup → (zs.foldl (fun acc z => if z ∈ acc then acc else acc ++ [z]) acc).Nodup ∧ ∀ x, x ∈ zs.foldl (fun acc z => if z ∈ acc then acc else acc ++ [z]) acc ↔ x ∈ acc ∨ x ∈ zs := by
  induction zs with
  | nil => intro acc h; exact ⟨h, fun x => by simp⟩
  | cons z zs ih =>
    intro acc h
    rw [List.foldl_cons]
    by_cases hz : z ∈ acc
    · rw [if_pos hz]
      obtain ⟨h1, h2⟩ := ih acc h
      refine ⟨h1, fun x => ?_⟩
      rw [h2 x, List.mem_cons]
      constructor
      · rintro (q | q)
        · exact .inl q
        · exact .inr (.inr q)
      · rintro (q | q | q)
        · exact .inl q
        · exact .inl (q ▸ hz)
        · exact .inr q
    · rw [if_neg hz]
      have hn : (acc ++ [z]).Nodup := List.nodup_append.mpr ⟨h, by simp, fun a ha b hb e => hz (by rw [List.mem_singleton] at hb; rw [← hb, ← e]; exact ha)⟩
      obtain ⟨h1, h2⟩ := ih (acc ++ [z]) hn
      refine ⟨h1, fun x => ?_⟩
      rw [h2 x, List.mem_append, List.mem_singleton, List.mem_cons]
      constructor
      · rintro ((q | q) | q)
        · exact .inl q
        · exact .inr (.inl q)
        · exact .inr (.inr q)
      · rintro (q | q | q)
        · exact .inl (.inl q)
        · exact .inl (.inr q)
        · exact .inr q
theorem uniq_nodup (zs : List Str) : (uniq zs).Nodup := (uniq_spec zs [] List.nodup_nil).1
theorem mem_uniq (zs : List Str) (x : Str) : x ∈ uniq zs ↔ x ∈ zs := by
  have h := (uniq_spec zs [] List.nodup_nil).2 x
  have e : x ∈ uniq zs ↔ x ∈ ([] : List Str) ∨ x ∈ zs := h
  simpa using e
def ord (zs : List Str) : List Str := (uniq zs).mergeSort leW
theorem mem_ord {zs : List Str} {x : Str} : x ∈ ord zs ↔ x ∈ zs := by
  unfold ord
  rw [List.mem_mergeSort, mem_uniq]
theorem ord_sorted (zs : List Str) : (ord zs).Pairwise ahead := by
  have h1 : (ord zs).Pairwise fun a b => leW a b = true := by
    refine List.pairwise_mergeSort (fun a b c h h' => ?_) (fun a b => ?_) _
    · simp only [leW, Bool.not_eq_true', decide_eq_false_iff_not] at *
      intro q
      rcases ahead_total b c with z | z | z
      · exact h (ahead_trans z q)
      · exact h (z ▸ q)
      · exact h' z
    · simp only [leW, Bool.or_eq_true, Bool.not_eq_true', decide_eq_false_iff_not]
      by_cases q : ahead b a
      · exact .inr fun q' => ahead_irrefl _ (ahead_trans q q')
      · exact .inl q
  have h2 : (ord zs).Nodup := (List.mergeSort_perm _ _).nodup_iff.mpr (uniq_nodup zs)
  have h2' : (ord zs).Pairwise fun a b => a ≠ b := h2
  refine List.Pairwise.imp₂ (fun a b h h' => ?_) h1 h2'
  simp only [leW, Bool.not_eq_true', decide_eq_false_iff_not] at h
  rcases ahead_total a b with z | z | z
  · exact z
  · exact absurd z h'
  · exact absurd z h
/-- only one list ascends and has these members -/
theorem sorted_one : ∀ {xs ys : List Str}, xs.Pairwise ahead → ys.Pairwise ahead → (∀ z, z ∈ xs ↔ z ∈ ys) → xs = ys
  | [], [], _, _, _ => rfl
  | [], y :: ys, _, _, h => absurd ((h y).mpr List.mem_cons_self) (by simp)
  | x :: xs, [], _, _, h => absurd ((h x).mp List.mem_cons_self) (by simp)
  | x :: xs, y :: ys, hx, hy, h => by
    rw [List.pairwise_cons] at hx hy
    have e : x = y := by
      rcases ahead_total x y with z | z | z
      · have := (h x).mp List.mem_cons_self
        rcases List.mem_cons.mp this with q | q
        · exact q
        · exact absurd (ahead_trans z (hy.1 x q)) (ahead_irrefl _)
      · exact z
      · have := (h y).mpr List.mem_cons_self
        rcases List.mem_cons.mp this with q | q
        · exact q.symm
        · exact absurd (ahead_trans z (hx.1 y q)) (ahead_irrefl _)
    subst e
    congr 1
    refine sorted_one hx.2 hy.2 fun z => ?_
    have hz := h z
    rw [List.mem_cons, List.mem_cons] at hz
    constructor
    · intro q
      rcases hz.mp (.inr q) with e | e
      · exact absurd (e ▸ hx.1 z q) (ahead_irrefl _)
      · exact e
    · intro q
      rcases hz.mpr (.inr q) with e | e
      · exact absurd (e ▸ hy.1 z q) (ahead_irrefl _)
      · exact e
theorem ord_eq {xs ys : List Str} (h : ∀ z, z ∈ xs ↔ z ∈ ys) : ord xs = ord ys := sorted_one (ord_sorted _) (ord_sorted _) fun z => by rw [mem_ord, mem_ord]; exact h z
theorem ord_of {xs : List Str} (h : xs.Pairwise ahead) : ord xs = xs := sorted_one (ord_sorted _) h fun z => mem_ord
theorem ord_ord (xs : List Str) : ord (ord xs) = ord xs := ord_of (ord_sorted xs)
theorem ord_reverse (xs : List Str) : ord xs.reverse = ord xs := ord_eq fun z => List.mem_reverse
theorem ord_length (zs : List Str) : (ord zs).length ≤ zs.length := by
  unfold ord
  rw [List.length_mergeSort]
  have h : ∀ (zs acc : List Str), (zs.foldl (fun acc z => if z ∈ acc then acc else acc ++ [z]) acc).length ≤ acc.length + zs.length := by
    intro zs
    induction zs with
    | nil => intro acc; simp
    | cons z zs ih =>
      intro acc
      rw [List.foldl_cons, List.length_cons]
      have := ih (if z ∈ acc then acc else acc ++ [z])
      split at this
      · rename_i q; rw [if_pos q]; omega
      · rename_i q; rw [if_neg q]; rw [List.length_append, List.length_singleton] at this; omega
  simpa [uniq] using h zs []
theorem dataLe_rank : PySem.W.dataLe false (fun z : Str => PyData.tuple [.int z.length, .str z]) = leW := by
  funext a b
  show (!PySem.W.dataLt (.tuple [.int b.length, .str b]) (.tuple [.int a.length, .str a])) = _
  rw [PySem.W.dataLt_pair (by simp [PySem.W.alike]) (by simp [PySem.W.alike]), PySem.W.dataLt_int, PySem.W.dataLt_str]
  simp only [PyData.eqv, leW, ahead, beq_iff_eq]
  congr 1
  by_cases h1 : (b.length : Int) = a.length
  · have e : b.length = a.length := by omega
    have nl : ¬ b.length < a.length := by omega
    rw [if_pos h1]
    by_cases h2 : b = a
    · subst h2
      rw [if_pos rfl]
      exact (decide_eq_false (fun q => ahead_irrefl b q)).symm
    · rw [if_neg h2]
      simp [e]
  · have e : b.length ≠ a.length := by omega
    rw [if_neg h1]
    simp only [e, false_and, or_false]
    congr 1
    exact propext ⟨fun q => by omega, fun q => by omega⟩
end MN
/-! the defs about words -/
namespace MN
open PySem PySem.Spec PyProof.Rows L2
theorem str_one {z : Str} (h : z.length = 1) : ∃ c, z = ⟨#[c]⟩ := by
  obtain ⟨⟨l⟩⟩ := z
  match l, h with
  | [c], _ => exact ⟨c, rfl⟩
/-- a value: a text, or one of a kind that is no text -/
def ValOk (K : PySem.W.Frag) (H : Hp) (v : V) : Prop := (∃ z : Str, v = .str z ∧ z.length ≤ 100000) ∨ ((∀ z, v ≠ .str z) ∧ IsX K H v "str" false)
theorem ValOk.str {K : PySem.W.Frag} {H : Hp} {z : Str} (h : z.length ≤ 100000) : ValOk K H (.str z) := .inl ⟨z, rfl, h⟩
def sgn (c : Nat) : Bool := decide (c ∈ ("abcde" : Str).cps.toList)
def isWordS (z : Str) : Bool := z.cps.toList.all sgn
def isWord : V → Bool
  | .str z => isWordS z
  | _ => false
def isSign : V → Bool
  | .str z => decide (z.length = 1) && isWordS z
  | _ => false
theorem isWord_no {v : V} (h : ∀ z, v ≠ .str z) : isWord v = false := by
  cases v with
  | str z => exact absurd rfl (h z)
  | _ => rfl
theorem isSign_no {v : V} (h : ∀ z, v ≠ .str z) : isSign v = false := by
  cases v with
  | str z => exact absurd rfl (h z)
  | _ => rfl
section
variable {P : Program} {w : World} {K : PySem.W.Frag} {mg : Str → Option Value} {base : Heap}
/-! ### is_sign -/
def spIsSign (K : PySem.W.Frag) : Sp := fun vs H Q _ => ∃ v, vs = [v] ∧ ValOk K H v ∧ Q (.bl (isSign v)) H
theorem sc_is_sign : FnScope ["value"] ["value"] (defScope (top 12)) := ⟨rfl, rfl, rfl, by decide +kernel, rfl, by decide +kernel, by decide +kernel⟩
theorem c_is_sign (A : At K mg "is_sign" (top 12)) (B : Blt mg) : Cal P w K mg base 1 "is_sign" (spIsSign K) := by
  refine cal_of A sc_is_sign (fun _ _ _ _ _ _ us hl => match us, hl with | [_], _ => rfl) (fun vs H Q E h => ?_) (fun f cdv A outer s H vs Q E hr h => ?_)
  · obtain ⟨v, rfl, _⟩ := h; rfl
  · obtain ⟨v, rfl, hv, hQ⟩ := h
    refine ⟨_, pss_one (ps_ret (pe_and (pe_callB call_isS (by rfl) B.isinstance (by decide +kernel) (pa_cons (pv 0) (pa_cons (pe_bltn (v := .ty "str") (by rfl) B.str (by decide +kernel) rfl) pa_nil)))
      (pe_and (pe_cmpR op_eq (pe_callB call_len_str (by rfl) B.len PySem.boot_len (pa_cons (pv 0) pa_nil)) pe_int (nomark _))
        (pe_one (pe_cmpR op_in_sign (pv 0) (pe_gl (by rfl) B.SIGNS) (by rfl)))))), ?_⟩
    rcases hv with ⟨z, rfl, hz⟩ | ⟨hn, hk⟩
    · refine ⟨_, rfl, .str z, "str", true, rfl, .str, true, rfl, iteT ?_⟩
      refine ⟨_, rfl, z, rfl, Nat.le_trans hz (by decide), rfl, _, rfl, ?_⟩
      by_cases h1 : z.length = 1
      · obtain ⟨c, rfl⟩ : ∃ c, z = ⟨#[c]⟩ := str_one h1
        rw [show decide (V.int ((⟨#[c]⟩ : Str).length : Int) = V.int 1) = true from rfl]
        refine iteT ⟨_, rfl, c, _, rfl, rfl, ?_⟩
        have e : isSign (.str ⟨#[c]⟩) = decide (c ∈ ("abcde" : Str).cps.toList) := by simp [isSign, isWordS, Str.length, sgn]
        rw [← e]; exact hQ
      · have e0 : decide (V.int (z.length : Int) = V.int 1) = false := decide_eq_false (fun q => h1 (by injection q with q; omega))
        rw [e0]
        have e : isSign (.str z) = false := by simp [isSign, h1]
        rw [e] at hQ
        exact iteF hQ
    · refine ⟨_, rfl, v, "str", false, rfl, hk, false, rfl, iteF ?_⟩
      rw [isSign_no hn] at hQ
      exact hQ
/-! ### is_word -/
def spIsWord (K : PySem.W.Frag) : Sp := fun vs H Q _ => ∃ v, vs = [v] ∧ ValOk K H v ∧ ∀ H', Same H H' → Q (.bl (isWord v)) H'
abbrev N_is_word : List Str := ["value", "sign"]
theorem sc_is_word : FnScope N_is_word ["value"] (defScope (top 13)) := ⟨rfl, rfl, rfl, by decide +kernel, rfl, by decide +kernel, by decide +kernel⟩
theorem c_is_word (A : At K mg "is_word" (top 13)) (B : Blt mg) : Cal P w K mg base 1 "is_word" (spIsWord K) := by
  refine cal_of A sc_is_word (fun _ _ _ _ _ _ us hl => match us, hl with | [_], _ => rfl) (fun vs H Q E h => ?_) (fun f cdv A outer s H vs Q E hr h => ?_)
  · obtain ⟨v, rfl, _⟩ := h; rfl
  · obtain ⟨v, rfl, hv, hQ⟩ := h
    refine ⟨_, (pss_one (ps_ret (pe_and (pe_callB call_isS (by rfl) B.isinstance (by decide +kernel) (pa_cons (pv 0) (pa_cons (pe_bltn (v := .ty "str") (by rfl) B.str (by decide +kernel) rfl) pa_nil)))
      (pe_one (pe_callB (cr_all rfl) (by rfl) B.all (by decide +kernel) (pa_cons (pe_lc (own := [("sign", 1)]) (g := gName 1) (tt := tYes) (by rfl) sc_is_word.nd (pi_str (pv 0))
        (blkOk_by (own := [("sign", 1)]) (N := N_is_word) (sc := defScope (top 13)) (by decide +kernel)) (fun _ _ _ _ _ => (pg_name (i := 1) sc_is_word.nd rfl (Or.inl rfl))) (fun _ _ _ _ _ => pts_nil)
        (fun _ _ _ _ _ => (pe_cmpR op_in_sign (pv 1) (pe_gl (by rfl) B.SIGNS) (by rfl)))) pa_nil)))))), ?_⟩
    rcases hv with ⟨z, rfl, hz⟩ | ⟨hn, hk⟩
    · refine ⟨_, rfl, .str z, "str", true, rfl, .str, true, rfl, iteT ?_⟩
      refine ⟨_, rfl, z, rfl, fun D hD => lc_str (by omega) (fun _ => true) (fun x => .bl (isWord x)) (fun x _ => rfl) (fun x _ acc Q q => q) (fun x hx _ acc Q q => ?_) ?_⟩
      · obtain ⟨c, hc, rfl⟩ := List.mem_map.mp hx
        refine ⟨_, rfl, c, _, rfl, rfl, ?_⟩
        have e : isWord (.str ⟨#[c]⟩) = decide (c ∈ ("abcde" : Str).cps.toList) := by simp [isWord, isWordS, sgn]
        rw [← e]; exact q
      · refine ⟨D, (signsOf z).map isWord, rfl, .inl (.inl ?_), ?_⟩
        · rw [filter_all, List.map_map]; exact upd_same
        · have e : ((signsOf z).map isWord).all id = isWordS z := by
            simp [signsOf, isWordS, isWord, List.all_map, Function.comp_def]
          rw [e]
          exact hQ _ (same_new hD)
    · refine ⟨_, rfl, v, "str", false, rfl, hk, false, rfl, iteF ?_⟩
      rw [isWord_no hn] at hQ
      exact hQ _ (Same.refl _)
end
end MN
/-! the defs about numbers -/
namespace MN
open PySem PySem.Spec PyProof.Rows L2
def big : Int := 10 ^ 60
def isInt (n : Int) : Bool := decide (-big < n) && decide (n < big)
theorem isInt_of {n : Int} (h1 : -1000000 ≤ n) (h2 : n ≤ 1000000) : isInt n = true := by
  have : (1000000 : Int) < big := by decide +kernel
  unfold isInt
  rw [decide_eq_true (by omega), decide_eq_true (by omega)]
  rfl
section
variable {P : Program} {w : World} {K : PySem.W.Frag} {mg : Str → Option Value} {base : Heap}
def spIsInt (K : PySem.W.Frag) : Sp := fun vs H Q _ => ∃ v, vs = [v] ∧ ((∃ n, v = .int n ∧ Q (.bl (isInt n)) H) ∨ (∃ b, v = .bl b ∧ Q (.bl false) H) ∨ (IsX K H v "int" false ∧ Q (.bl false) H))
theorem sc_is_integer : FnScope ["value"] ["value"] (defScope (top 11)) := ⟨rfl, rfl, rfl, by decide +kernel, rfl, by decide +kernel, by decide +kernel⟩
theorem c_is_integer (A : At K mg "is_integer" (top 11)) (B : Blt mg) (G : GlC mg "GREATEST" (.int big)) : Cal P w K mg base 1 "is_integer" (spIsInt K) := by
  refine cal_of A sc_is_integer (fun _ _ _ _ _ _ us hl => match us, hl with | [_], _ => rfl) (fun vs H Q E h => ?_) (fun f cdv A outer s H vs Q E hr h => ?_)
  · obtain ⟨v, rfl, _⟩ := h; rfl
  · obtain ⟨v, rfl, hQ⟩ := h
    refine ⟨_, (pss_one (ps_ret (pe_and (pe_callB call_isS (by rfl) B.isinstance (by decide +kernel) (pa_cons (pv 0) (pa_cons (pe_bltn (v := .ty "int") (by rfl) B.int (by decide +kernel) rfl) pa_nil))) (pe_and (pe_not (pe_callB call_isS (by rfl) B.isinstance (by decide +kernel) (pa_cons (pv 0) (pa_cons (pe_bltn (v := .ty "bool") (by rfl) B.bool (by decide +kernel) rfl) pa_nil)))) (pe_one (pe_chain op_lt op_lt (pe_un un_neg (pe_gl (by rfl) G)) (pv 0) (pe_gl (by rfl) G))))))), ?_⟩
    rcases hQ with ⟨n, rfl, hQ⟩ | ⟨b, rfl, hQ⟩ | ⟨hi, hQ⟩
    · refine ⟨_, rfl, _, _, true, rfl, .ty (.base (.int n)) (by decide +kernel), _, rfl, iteT ?_⟩
      refine ⟨_, rfl, _, _, false, rfl, .ty (.base (.int n)) (by decide +kernel), _, rfl, _, rfl, iteT ?_⟩
      refine ⟨_, rfl, _, rfl, _, _, rfl, rfl, _, rfl, ?_⟩
      by_cases h1 : -big < n
      · rw [decide_eq_true h1]
        refine iteT ⟨_, _, rfl, rfl, ?_⟩
        unfold isInt at hQ
        rw [decide_eq_true h1] at hQ
        exact hQ
      · rw [decide_eq_false h1]
        unfold isInt at hQ
        rw [decide_eq_false h1] at hQ
        exact iteF hQ
    · refine ⟨_, rfl, _, _, true, rfl, .ty (.base (.bl b)) (by decide +kernel), _, rfl, iteT ?_⟩
      exact ⟨_, rfl, _, _, true, rfl, .ty (.base (.bl b)) (by decide +kernel), _, rfl, _, rfl, iteF hQ⟩
    · exact ⟨_, rfl, _, _, false, rfl, hi, _, rfl, iteF hQ⟩
end
end MN
/-! is_price -/
namespace MN
open PySem PySem.Spec PyProof.Rows L2
section
variable {P : Program} {w : World} {K : PySem.W.Frag} {mg : Str → Option Value} {base : Heap}
/-- prices: whole numbers -/
def spIsPrice (K : PySem.W.Frag) : Sp := fun vs H Q _ => ∃ v m, vs = [v, .int m] ∧ ((∃ n, v = .int n ∧ Q (.bl (isInt n && (decide (1 ≤ n) && decide (n ≤ m)))) H) ∨ (∃ b, v = .bl b ∧ Q (.bl false) H) ∨ (IsX K H v "int" false ∧ Q (.bl false) H))
theorem sc_is_price : FnScope ["value", "most"] ["value", "most"] (defScope (top 18)) := ⟨rfl, rfl, rfl, by decide +kernel, rfl, by decide +kernel, by decide +kernel⟩
theorem c_is_price (A : At K mg "is_price" (top 18)) (c_is_integer : Cal P w K mg base 1 "is_integer" (spIsInt K)) : Cal P w K mg base 2 "is_price" (spIsPrice K) := by
  refine cal_of A sc_is_price (fun _ _ _ _ _ _ us hl => match us, hl with | [_, _], _ => rfl) (fun vs H Q E h => ?_) (fun f cdv A outer s H vs Q E hr h => ?_)
  · obtain ⟨v, m, rfl, _⟩ := h; rfl
  · obtain ⟨v, m, rfl, hQ⟩ := h
    refine ⟨_, (pss_one (ps_ret (pe_and (pe_c c_is_integer hr (by decide) (by rfl) (pa_cons (pv 0) pa_nil)) (pe_one (pe_chain op_le op_le pe_int (pv 0) (pv 1)))))), ?_⟩
    refine ⟨_, rfl, _, rfl, ?_⟩
    rcases hQ with ⟨n, rfl, hQ⟩ | ⟨b, rfl, hQ⟩ | ⟨hi, hQ⟩
    · refine .inl ⟨n, rfl, _, rfl, ?_⟩
      cases hn : isInt n with
      | false => rw [hn] at hQ; exact iteF hQ
      | true =>
        rw [hn] at hQ
        refine iteT ⟨_, rfl, _, _, rfl, rfl, _, rfl, ?_⟩
        by_cases h1 : 1 ≤ n
        · rw [decide_eq_true h1] at hQ ⊢
          exact iteT ⟨_, rfl, _, _, rfl, rfl, hQ⟩
        · rw [decide_eq_false h1] at hQ ⊢
          exact iteF hQ
    · exact .inr (.inl ⟨b, rfl, _, rfl, iteF hQ⟩)
    · exact .inr (.inr ⟨hi, _, rfl, iteF hQ⟩)
end
end MN
/-! dict comprehensions with one and with two clauses, keys of any kind that a tracked dict knows -/
namespace MN
open PySem PySem.Spec PyProof.Rows L2
theorem d_setP {X : Cx} {pins : List (Addr × Obj)} {σ : L2.St} {H H' : Hp} {s : Shared} {E : Value → Shared → Prop} {D : Addr} {y v : V} {u r : Value} {Q : Unit → Shared → Prop} (hu : X.A.units + 1 < cLine) (I : Inv X pins σ H s) (g : DPut H D y v H')
    (ry : RelV y u) (rv : RelV v r) (h : ∀ s', Inv X pins σ H' s' → Q () s') : wpAny (model X.prog X.w) X.A (dictSet D u r) Q E s := by
  rcases g with ⟨kvs, k, e, ey, l, eH⟩ | ⟨kvs, k, b, e, ey, eb, l, eH⟩
  · subst ey eH
    exact d_dictSet I e l ry rv h
  · subst ey eH
    cases (show u = Value.ref b from ry)
    obtain ⟨z, hd, xs, rel, dd⟩ := dt_of I.hok e
    have hz : xs.length ≤ sizeLine := by rw [← Paired.length rel]; exact z
    have hl : (putK kvs k v).length ≤ sizeLine := by have := length_putK kvs k v; omega
    refine wpAny_dictSet_heap (hsz := hz) (show X.A.units < cLine by omega) (key_of I.hok eb) dd fun h' dd' hs => h _ ?_
    obtain ⟨q, es, ep, hq, h2, h3, h4, _, h5⟩ := dd'
    refine d_write I (by rw [e]; exact True.intro) hs ⟨q, hq⟩ ⟨hl, hd, _, (rel.put k eb rv).keeps fun c ys ec => ?_, q, es, ep, hq, h2, h3, h4, h5⟩
    rw [upd_ne (ne_of ec e (fun z => nomatch z))]
    exact ec
theorem turn2_out (kx vx t0 i0 t1 i1 : Expr) (ifs0 ifs1 : List Expr) (scope : Scope) (pos : Pos) (it acc : Value) (env : Env) :
    compTurn (.DictComp kx vx [⟨t0, i0, ifs0, 0⟩, ⟨t1, i1, ifs1, 0⟩] scope pos) 0 it acc env = (do
      standAt i0.pos
      match ← pyNext it with
      | none => pure (.done .next)
      | some v =>
        letOwnedTupleGo t0 it v
        assign t0 env v
        let mut ok := true
        for c in ifs0 do
          if ok then ok ← isTrue c env (eval c env)
        if ok then
          let x ← eval i1 env
          standAt i1.pos
          let x ← foldedSetIterable i1 env x
          let _ ← runOwn (.compStart (.DictComp kx vx [⟨t0, i0, ifs0, 0⟩, ⟨t1, i1, ifs1, 0⟩] scope pos) 1 (← holding [x] (pyIter x)) acc env) env
        again (.compLoop (.DictComp kx vx [⟨t0, i0, ifs0, 0⟩, ⟨t1, i1, ifs1, 0⟩] scope pos) 0 it acc env)) := by rfl
theorem turn2_in (kx vx t0 i0 t1 i1 : Expr) (ifs0 ifs1 : List Expr) (scope : Scope) (pos : Pos) (it : Value) (D : Addr) (env : Env) :
    compTurn (.DictComp kx vx [⟨t0, i0, ifs0, 0⟩, ⟨t1, i1, ifs1, 0⟩] scope pos) 1 it (.ref D) env = (do
      standAt i1.pos
      match ← pyNext it with
      | none => pure (.done .next)
      | some v =>
        letOwnedTupleGo t1 it v
        assign t1 env v
        let mut ok := true
        for c in ifs1 do
          if ok then ok ← isTrue c env (eval c env)
        if ok then
          (do
            let kv ← eval kx env
            let vv ← holding [kv] (eval vx env)
            standAt { kx.pos with endLine := vx.pos.endLine, endCol := vx.pos.endCol }
            holding [kv, vv] (dictSet D kv vv))
        again (.compLoop (.DictComp kx vx [⟨t0, i0, ifs0, 0⟩, ⟨t1, i1, ifs1, 0⟩] scope pos) 1 it (.ref D) env)) := by rfl
section
variable {prog : Program} {w : World} {A : Around} {R : Result → Shared → Prop} {s : Shared} {kx vx t0 i0 t1 i1 : Expr} {ifs0 ifs1 : List Expr} {scope : Scope} {pos : Pos} {it acc : Value} {D : Addr} {env : Env}
theorem loop2_out (hs : ∀ x, foldedSetIterable i1 env x = pure x) (I : Nat → Shared → Prop)
    (turn : ∀ n s, I n s → wpAny (model prog w) A (pyNext it) (fun r s₁ => match r with
      | none => R (.ok .next) s₁
      | some v => wpAny (model prog w) A (letOwnedTupleGo t0 it v) (fun _ s₂ => wpAny (model prog w) A (assign t0 env v) (fun _ s₃ => wpAny (model prog w) A (forIn ifs0 true fun c r => if r = true then do let ok ← isTrue c env (eval c env); pure (ForInStep.yield ok) else pure (ForInStep.yield r)) (fun ok s₄ =>
          if ok = true then wpAny (model prog w) A (eval i1 env) (fun x s₅ => wpAny (model prog w) A (pyIter x) (fun j s₆ =>
            codeAny (model prog w) A (.compStart (.DictComp kx vx [⟨t0, i0, ifs0, 0⟩, ⟨t1, i1, ifs1, 0⟩] scope pos) 1 j acc env) (fun r s' => match r with
              | .ok _ => ∃ m, m < n ∧ I m s'
              | .error _ => False) s₆) (notedBy (model prog w) A env fun e s' => R (.error e) s') s₅) (notedBy (model prog w) A env fun e s' => R (.error e) s') s₄
          else ∃ m, m < n ∧ I m s₄) (notedBy (model prog w) A env fun e s' => R (.error e) s') s₃) (notedBy (model prog w) A env fun e s' => R (.error e) s') s₂) (notedBy (model prog w) A env fun e s' => R (.error e) s') s₁) (notedBy (model prog w) A env fun e s' => R (.error e) s') s)
    (n : Nat) (h : I n s) : codeAny (model prog w) A (.compLoop (.DictComp kx vx [⟨t0, i0, ifs0, 0⟩, ⟨t1, i1, ifs1, 0⟩] scope pos) 0 it acc env) R s := by
  refine codeAny_loop rfl I (fun n s hI => ?_) n h
  show wpAny _ A ((compTurn (.DictComp kx vx [⟨t0, i0, ifs0, 0⟩, ⟨t1, i1, ifs1, 0⟩] scope pos) 0 it acc env).onRaise (fun x => do noteFrame x env; theTreesLotGoes x)) _ _ s
  refine wpAny_noted ?_
  rw [turn2_out]
  refine wpAny_bind (wpAny_standAt (wpAny_bind (wpAny_mono (turn n s hI) (fun r s₁ h₁ => ?_) fun _ _ z => z)))
  match r, h₁ with
  | none, h₁ => exact wpAny_pure h₁
  | some v, h₁ =>
    refine wpAny_bind (wpAny_mono h₁ (fun _ s₂ h₂ => wpAny_bind (wpAny_mono h₂ (fun _ s₃ h₃ => wpAny_bind (wpAny_mono h₃ (fun ok s₄ h₄ => ?_) fun _ _ z => z)) fun _ _ z => z)) fun _ _ z => z)
    cases ok with
    | false => exact wpAny_pure ⟨rfl, h₄⟩
    | true =>
      refine wpAny_bind (wpAny_mono h₄ (fun x s₅ h₅ => ?_) fun _ _ z => z)
      refine wpAny_bind (wpAny_standAt (wpAny_bind (wpAny_of_eq (hs x) (wpAny_bind (wpAny_holding (wpAny_mono h₅ (fun j s₆ h₆ => ?_) fun _ _ z => z))))))
      refine wpAny_bind (wpAny_runOwn ?_)
      rw [Around.mark_none]
      refine codeAny_mono h₆ fun r s' hr => ?_
      match r, hr with
      | .ok f, hr =>
        first
          | exact wpAny_pure ⟨rfl, hr⟩
          | exact wpAny_bind (wpAny_pure (wpAny_pure ⟨rfl, hr⟩))
      | .error e, hr => exact hr.elim
theorem loop2_in (I : Nat → Shared → Prop)
    (turn : ∀ n s, I n s → wpAny (model prog w) A (pyNext it) (fun r s₁ => match r with
      | none => R (.ok .next) s₁
      | some v => wpAny (model prog w) A (letOwnedTupleGo t1 it v) (fun _ s₂ => wpAny (model prog w) A (assign t1 env v) (fun _ s₃ => wpAny (model prog w) A (forIn ifs1 true fun c r => if r = true then do let ok ← isTrue c env (eval c env); pure (ForInStep.yield ok) else pure (ForInStep.yield r)) (fun ok s₄ =>
          if ok = true then wpAny (model prog w) A (eval kx env) (fun kv s₅ => wpAny (model prog w) A (eval vx env) (fun vv s₆ => wpAny (model prog w) A (dictSet D kv vv) (fun _ s₇ => ∃ m, m < n ∧ I m s₇) (notedBy (model prog w) A env fun e s' => R (.error e) s') s₆) (notedBy (model prog w) A env fun e s' => R (.error e) s') s₅) (notedBy (model prog w) A env fun e s' => R (.error e) s') s₄
          else ∃ m, m < n ∧ I m s₄) (notedBy (model prog w) A env fun e s' => R (.error e) s') s₃) (notedBy (model prog w) A env fun e s' => R (.error e) s') s₂) (notedBy (model prog w) A env fun e s' => R (.error e) s') s₁) (notedBy (model prog w) A env fun e s' => R (.error e) s') s)
    (n : Nat) (h : I n s) : codeAny (model prog w) A (.compLoop (.DictComp kx vx [⟨t0, i0, ifs0, 0⟩, ⟨t1, i1, ifs1, 0⟩] scope pos) 1 it (.ref D) env) R s := by
  refine codeAny_loop rfl I (fun n s hI => ?_) n h
  show wpAny _ A ((compTurn (.DictComp kx vx [⟨t0, i0, ifs0, 0⟩, ⟨t1, i1, ifs1, 0⟩] scope pos) 1 it (.ref D) env).onRaise (fun x => do noteFrame x env; theTreesLotGoes x)) _ _ s
  refine wpAny_noted ?_
  rw [turn2_in]
  refine wpAny_bind (wpAny_standAt (wpAny_bind (wpAny_mono (turn n s hI) (fun r s₁ h₁ => ?_) fun _ _ z => z)))
  match r, h₁ with
  | none, h₁ => exact wpAny_pure h₁
  | some v, h₁ =>
    refine wpAny_bind (wpAny_mono h₁ (fun _ s₂ h₂ => wpAny_bind (wpAny_mono h₂ (fun _ s₃ h₃ => wpAny_bind (wpAny_mono h₃ (fun ok s₄ h₄ => ?_) fun _ _ z => z)) fun _ _ z => z)) fun _ _ z => z)
    cases ok with
    | false => exact wpAny_pure ⟨rfl, h₄⟩
    | true =>
      exact wpAny_bind (wpAny_bind (wpAny_mono h₄ (fun kv s₅ h₅ => wpAny_bind (wpAny_holding (wpAny_mono h₅ (fun vv s₆ h₆ => wpAny_bind (wpAny_standAt (wpAny_holding (wpAny_mono h₆ (fun _ s₇ h₇ => wpAny_pure ⟨rfl, h₇⟩) fun _ _ z => z)))) fun _ _ z => z))) fun _ _ z => z))
theorem start2 (h0 : codeAny (model prog w) A (.compLoop (.DictComp kx vx [⟨t0, i0, ifs0, 0⟩, ⟨t1, i1, ifs1, 0⟩] scope pos) 1 it acc env) R s)
    (h : wpAny (model prog w) A (pyIter it) (fun j s' => codeAny (model prog w) A (.compLoop (.DictComp kx vx [⟨t0, i0, ifs0, 0⟩, ⟨t1, i1, ifs1, 0⟩] scope pos) 1 j acc env) R s') (notedBy (model prog w) A env fun x s' => R (.error x) s') s) :
    codeAny (model prog w) A (.compStart (.DictComp kx vx [⟨t0, i0, ifs0, 0⟩, ⟨t1, i1, ifs1, 0⟩] scope pos) 1 it acc env) R s := by
  refine codeAny_of_tree ?_
  show wpAny _ _ ((compStart (.DictComp kx vx [⟨t0, i0, ifs0, 0⟩, ⟨t1, i1, ifs1, 0⟩] scope pos) 1 it acc env).onRaise (fun x => do noteFrame x env; standAt theWindowsPlace)) _ _ s
  refine wpAny_notedAt ?_
  unfold compStart
  show wpAny _ _ (ask >>= _) _ _ s
  refine wpAny_bind (wpAny_askSetting (wpAny_ite ?_))
  split
  · first
      | exact wpAny_bind (wpAny_pure (wpAny_pure (And.intro rfl h0)))
      | exact wpAny_pure (And.intro rfl h0)
  · first
      | exact wpAny_bind (wpAny_rule (wpAny_bind (wpAny_standAt (wpAny_bind (wpAny_mono h (fun j s' z => wpAny_pure (And.intro rfl z)) fun _ _ z => z)))))
      | (refine wpAny_bind (wpAny_rule ?_); show wpAny _ _ (standAt i1.pos >>= _) _ _ s; exact wpAny_bind (wpAny_standAt (wpAny_bind (wpAny_mono h (fun j s' z => wpAny_pure (And.intro rfl z)) fun _ _ z => z))))
end
section
variable {X : Cx}
def tDp1 (o0 : HO) (wi : TI) (g : TG) (tt : TT) (tk tv : TE) (vs : List Nat) : TE := fun σ H Q => wi σ H fun J H1 => ∀ D, H1 D = none → ∃ W : Nat → Nat → Hp → Prop, (∃ m, W 0 m (upd H1 D o0)) ∧ ∀ i m H, W i m H →
  (J.stop i H ∧ Q (.ref D) H) ∨ (J.go i H ∧ ∃ Nx : Hp → Prop, (∀ H', Nx H' → ∃ m', m' < m ∧ W (i + 1) m' H') ∧ ∀ x H', J.yld i H x H' → g x (wipe σ vs) H' fun σ2 H2 => wipe σ2 vs = wipe σ vs ∧ tt σ2 H2 fun b H3 =>
    if b = true then tk σ2 H3 fun y H4 => tv σ2 H4 fun z H5 => ∃ H6, DPut H5 D y z H6 ∧ Nx H6 else Nx H3)
theorem dp1_core {pins : List (Addr × Obj)} {s : Shared} {σ : L2.St} {H : Hp} {Q : VK} {use : Option (Value → Sem Unit)} {Qf : Value → Shared → Prop} {pos' : Pos} {kx vx tg iter : Expr} {ifs : List Expr} {scope : Scope} {own : List (Str × Nat)} {pos : Pos} {o0 : HO} {wi : TI} {g : TG} {tt : TT} {tk tv : TE} (hc : X.calm = true) (hu : X.A.units + 1 < cLine) (hN : X.N.Nodup) (I : Inv X pins σ H s) (hi : PI X tg iter wi) (ok : BlkOk X.N X.env.scope scope own)
    (hg : ∀ (s : Shared) (H : Hp) (C : Addr) (cl : List (Str × Addr)) (fp : List Addr), PG (X.blk s H scope (compEnvC scope cl C X.env) fp) tg g) (ht : ∀ (s : Shared) (H : Hp) (C : Addr) (cl : List (Str × Addr)) (fp : List Addr), PTs (X.blk s H scope (compEnvC scope cl C X.env) fp) ifs tt)
    (hk : ∀ (s : Shared) (H : Hp) (C : Addr) (cl : List (Str × Addr)) (fp : List Addr), PE (X.blk s H scope (compEnvC scope cl C X.env) fp) kx tk) (he : ∀ (s : Shared) (H : Hp) (C : Addr) (cl : List (Str × Addr)) (fp : List Addr), PE (X.blk s H scope (compEnvC scope cl C X.env) fp) vx tv)
    (ho : o0 = .dK [] ∨ o0 = .dT []) (hs : ∀ x, foldedSetIterable iter X.env x = pure x)
    (h : tDp1 o0 wi g tt tk tv (own.map (·.2)) σ H Q)
    (hRR : ∀ D C s' m H', Inv X pins σ H' s' → Q (.ref D) H' → s'.heap.Ns C m → FpOk X pins H' C → compPost (model X.prog X.w) X.A X.xe use Qf (.ref D) C (.ok .next) s') :
    wpAny (model X.prog X.w) X.A (comprehension (.DictComp kx vx [⟨tg, iter, ifs, 0⟩] scope pos) scope X.env pos' newDict false (eval iter X.env) use) Qf X.xe s := by
  have hfree : ∀ y ∈ scope.names, y.2 = .free → ∃ c, X.env.cells.lookup y.1 = some c := fun y hy e => I.ok.has _ (ok.free y hy e)
  refine wpAny_comprehension_free (use := use) rfl hs (closure_ok hfree) ok.kind (fun y hy e => by rw [ok.uniq y hy, e]) (thn (hi.run pins s σ H _ I h) fun xv s1 hx => thn hx fun itv s2 h2 => ?_)
  obtain ⟨it, fp, tn, J, H2, e, I2, T, st2, f2, q⟩ := h2
  subst e
  refine wpAny_newObj_type (newEnv_comp ?_)
  generalize hD : s2.heap.objs.size = D
  obtain ⟨W, ⟨m0, w0⟩, turn⟩ := q D (I2.hok.fresh (Nat.le_of_eq hD))
  generalize hs3 : ({ s2 with heap := s2.heap.push { cls := .type "dict", data := .dict #[] } } : Shared) = s3
  have h3 : s3.heap = s2.heap.push { cls := .type "dict", data := .dict #[] } := by rw [← hs3]
  have I3 : Inv X pins σ (upd H2 D o0) s3 := by
    rw [← hs3]
    refine I2.laid (t' := s2.toks) (fun b o e => Heap.get?_push_of_some _ e) (Nat.le_of_eq hD) ?_
    rw [← hD]
    rcases ho with z | z
    · rw [z]; exact dk_empty s2.heap I2.big
    · rw [z]; exact dt_empty s2.heap I2.big
  have f3 : ∀ b ∈ fp, FpOk X pins (upd H2 D o0) b ∧ b < s3.heap.objs.size := fun b hb => by
    obtain ⟨o, e, _⟩ := T.obj _ _ st2 b hb
    have hlt := Heap.lt_size e
    refine ⟨⟨?_, (f2 b hb).2⟩, by rw [h3, Heap.size_push]; exact Nat.lt_succ_of_lt hlt⟩
    rw [upd_ne (by rw [← hD]; exact Nat.ne_of_lt hlt)]
    exact (f2 b hb).1
  have st3 : tn 0 s3.heap := T.keep _ _ _ st2 fun b _ o e => by rw [h3]; exact Heap.get?_push_of_some _ e
  generalize hH3 : upd H2 D o0 = H3 at I3 f3 w0
  have I4 := block_start I3 ok hN f3
  have pg := hg s3 H3 s3.heap.objs.size (cellsFrom (s3.heap.objs.size + 1) scope.names (cloFrom X.env.cells scope.names [])) fp
  have pt := ht s3 H3 s3.heap.objs.size (cellsFrom (s3.heap.objs.size + 1) scope.names (cloFrom X.env.cells scope.names [])) fp
  have pk := hk s3 H3 s3.heap.objs.size (cellsFrom (s3.heap.objs.size + 1) scope.names (cloFrom X.env.cells scope.names [])) fp
  have pe := he s3 H3 s3.heap.objs.size (cellsFrom (s3.heap.objs.size + 1) scope.names (cloFrom X.env.cells scope.names [])) fp
  have nfp : ∀ b ∈ fp, H3 b = none := fun b hb => (f3 b hb).1.1
  show codeAny _ _ (.compStart (.DictComp kx vx [⟨tg, iter, ifs, 0⟩] scope pos) 0 (.ref it) (.ref D) (compEnvC scope (cellsFrom (s3.heap.objs.size + 1) scope.names (cloFrom X.env.cells scope.names [])) s3.heap.objs.size X.env)) _ { s3 with heap := pushCells (s3.heap.push { cls := .type "dict", data := .dict #[] }) scope.names }
  generalize hce : compEnvC scope (cellsFrom (s3.heap.objs.size + 1) scope.names (cloFrom X.env.cells scope.names [])) s3.heap.objs.size X.env = ce at I4 pg pt pk pe ⊢
  have cL : ce.locals = s3.heap.objs.size := by subst hce; rfl
  generalize hs4 : ({ s3 with heap := pushCells (s3.heap.push { cls := .type "dict", data := .dict #[] }) scope.names } : Shared) = s4 at I4 ⊢
  have st4 : tn 0 s4.heap := T.keep _ _ _ st3 fun b _ o e => by rw [← hs4]; exact pushCells_keeps _ _ _ _ (Heap.get?_push_of_some _ e)
  have stat : ∀ {σ' : L2.St} {H' : Hp} {s' : Shared}, Inv (X.blk s3 H3 scope ce fp) [] σ' H' s' → (∀ b ∈ fp, H' b = none) → ∀ b ∈ fp, FpOk (X.blk s3 H3 scope ce fp) [] H' b := fun {σ' H' s'} I' hn b hb =>
    ⟨hn b hb, (I'.ok.exf b hb).1, I'.ok.exfs b hb, .inl hb, fun x c e => (I'.ok.exf b hb).2 x c e, fun p hp => nomatch (show p ∈ ([] : List (Addr × Obj)) from hp)⟩
  have loop : codeAny (model X.prog X.w) X.A (.compLoop (.DictComp kx vx [⟨tg, iter, ifs, 0⟩] scope pos) 0 (.ref it) (.ref D) ce) (compPost (model X.prog X.w) X.A X.xe use Qf (.ref D) s3.heap.objs.size) s4 := by
    refine compLoop_anyD (fun n s' => ∃ i H', Inv (X.blk s3 H3 scope ce fp) [] (wipe σ (own.map (·.2))) H' s' ∧ tn i s'.heap ∧ (∀ b ∈ fp, H' b = none) ∧ W i n H') ?_ m0 ⟨0, H3, I4, st4, nfp, w0⟩
    rintro n s5 ⟨i, H5, I5, st5, n5, w5⟩
    rcases turn i n H5 w5 with ⟨stop, qq⟩ | ⟨go, Nx, hNx, step⟩
    · refine thnF (T.done (X.blk s3 H3 scope ce fp) rfl rfl rfl hc i [] s5 _ H5 (fun _ _ => False) I5 (stat I5 n5) st5 stop) fun r s6 ⟨hr, I6⟩ => ?_
      subst hr
      have I7 : Inv X pins σ H5 s6 := I3.call' (ch := fp) I6.os I6.base I6.hok I6.bare fun b hb => ⟨(f3 b hb).1.2.2.2.1, (f3 b hb).1.2.1, (f3 b hb).1.2.2.2.2.1, (f3 b hb).1.2.2.2.2.2⟩
      have nC : H5 s3.heap.objs.size = none := by
        have z : H5 ce.locals = none := I6.free
        rw [cL] at z
        exact z
      obtain ⟨m, hn, _⟩ := I6.loc
      have hn : s6.heap.Ns ce.locals m := hn
      rw [cL] at hn
      exact hRR D s3.heap.objs.size s6 m H5 I7 qq hn (I3.fpOk (Nat.le_refl _) nC)
    · refine thnF (T.item (X.blk s3 H3 scope ce fp) rfl rfl rfl hc i [] s5 _ H5 (fun _ _ => False) I5 (stat I5 n5) st5 go) fun r s6 ⟨u, hr, h6⟩ => ?_
      subst hr
      refine thnF h6 fun _ s7 ⟨x, H7, I7, r7, y7, st7, n7⟩ => ?_
      have I7' := I7.pinned (stat I7 n7) (T.obj _ _ st7)
      refine thnF (pg.run _ s7 _ H7 x u _ I7' r7 (step x H7 y7)) fun _ s8 ⟨σ8, H8, I8, hw8, q8⟩ => ?_
      refine thnF (pt.run _ s8 σ8 H8 _ I8 q8) fun b s9 ⟨H9, I9, q9⟩ => ?_
      have fin : ∀ {σ9 : L2.St} {s' : Shared} {H' : Hp}, Inv (X.blk s3 H3 scope ce fp) ([] ++ pinsAt fp s7.heap) σ9 H' s' → (wipe σ (own.map (·.2))).length = σ9.length → (∀ (j : Nat) v, (wipe σ (own.map (·.2)))[j]? = some (some v) → σ9[j]? = some (some v)) → Nx H' →
          ∃ m, m < n ∧ ∃ i H', Inv (X.blk s3 H3 scope ce fp) [] (wipe σ (own.map (·.2))) H' s' ∧ tn i s'.heap ∧ (∀ b ∈ fp, H' b = none) ∧ W i m H' := fun {σ9 s' H'} I' hl hk nx => by
        obtain ⟨m', hm, w'⟩ := hNx H' nx
        have pin' : ∀ b ∈ fp, ∀ o, s7.heap.get? b = some o → s'.heap.get? b = some o ∧ H' b = none := fun b hb o e => by
          have z := I'.pin (b, o) (List.mem_append_right _ (List.mem_append_right _ (mem_pinsAt hb e)))
          exact ⟨z.1, z.2.1⟩
        refine ⟨m', hm, i + 1, H', (I'.unpinned (pins := [])).weak hl hk, T.keep _ _ _ st7 fun b hb o e => (pin' b hb o e).1, fun b hb => ?_, w'⟩
        obtain ⟨o, e, _⟩ := T.obj _ _ st7 b hb
        exact (pin' b hb o e).2
      have hl8 : (wipe σ (own.map (·.2))).length = σ8.length := by rw [← hw8, wipe_length]
      have hk8 : ∀ (j : Nat) v, (wipe σ (own.map (·.2)))[j]? = some (some v) → σ8[j]? = some (some v) := fun j v e => by
        rw [← hw8] at e
        exact (wipe_some e).1
      cases b with
      | false =>
        simp only [Bool.false_eq_true, if_false] at q9 ⊢
        exact fin I9 hl8 hk8 q9
      | true =>
        simp only [if_true] at q9 ⊢
        refine thnF (pk.run _ s9 σ8 H9 _ I9 q9) fun z s10 ⟨yk, H10, I10, r10, q10⟩ => ?_
        refine thnF (pe.run _ s10 σ8 H10 _ I10 q10) fun z2 s11 ⟨yv, H11, I11, r11, H12, put, nx⟩ => ?_
        exact d_setP (X := X.blk s3 H3 scope ce fp) hu I11 put r10 r11 fun s12 I12 => fin I12 hl8 hk8 nx
  exact codeAny_compStart_dict loop (T.self X.A 0 _ _ _ st4 loop)
theorem pe_dp1 {kx vx tg iter : Expr} {ifs : List Expr} {scope : Scope} {own : List (Str × Nat)} {pos : Pos} {o0 : HO} {wi : TI} {g : TG} {tt : TT} {tk tv : TE} (hc : X.calm = true) (hu : X.A.units + 1 < cLine) (hN : X.N.Nodup) (hi : PI X tg iter wi) (ok : BlkOk X.N X.env.scope scope own)
    (hg : ∀ (s : Shared) (H : Hp) (C : Addr) (cl : List (Str × Addr)) (fp : List Addr), PG (X.blk s H scope (compEnvC scope cl C X.env) fp) tg g) (ht : ∀ (s : Shared) (H : Hp) (C : Addr) (cl : List (Str × Addr)) (fp : List Addr), PTs (X.blk s H scope (compEnvC scope cl C X.env) fp) ifs tt)
    (hk : ∀ (s : Shared) (H : Hp) (C : Addr) (cl : List (Str × Addr)) (fp : List Addr), PE (X.blk s H scope (compEnvC scope cl C X.env) fp) kx tk) (he : ∀ (s : Shared) (H : Hp) (C : Addr) (cl : List (Str × Addr)) (fp : List Addr), PE (X.blk s H scope (compEnvC scope cl C X.env) fp) vx tv)
    (ho : o0 = .dK [] ∨ o0 = .dT []) (hs : ∀ x, foldedSetIterable iter X.env x = pure x := by intro _; rfl) :
    PE X (.DictComp kx vx [⟨tg, iter, ifs, 0⟩] scope pos) (tDp1 o0 wi g tt tk tv (own.map (·.2))) := by
  refine ⟨fun pins s σ H Q I h => ?_⟩
  rw [arm_eval_DictComp]
  refine dp1_core hc hu hN I hi ok hg ht hk he ho hs h fun D C s' m H' I' q hn f => ⟨m, hn, fun h'' sb => ?_⟩
  obtain ⟨f0, f1, f2, f3, f4, f5⟩ := f
  exact ⟨.ref D, H', I'.turned (t' := s'.toks) (fun b o hb e => (sb.2 b hb).trans e) f0 f1 f3 f4 f5, rfl, q⟩
theorem ps_setDp1 {i : Nat} {y : Str} {py spos : Pos} {kx vx tg iter : Expr} {ifs : List Expr} {scope : Scope} {own : List (Str × Nat)} {pos : Pos} {o0 : HO} {wi : TI} {g : TG} {tt : TT} {tk tv : TE} (hc : X.calm = true) (hu : X.A.units + 1 < cLine) (hN : X.N.Nodup) (hy : X.N[i]? = some y) (hyl : X.env.scope.names.lookup y = some .local)
    (hsw : swapsWith (.DictComp kx vx [⟨tg, iter, ifs, 0⟩] scope pos) (some (.Name y py)) spos.line X.env = pure true) (hi : PI X tg iter wi) (ok : BlkOk X.N X.env.scope scope own)
    (hg : ∀ (s : Shared) (H : Hp) (C : Addr) (cl : List (Str × Addr)) (fp : List Addr), PG (X.blk s H scope (compEnvC scope cl C X.env) fp) tg g) (ht : ∀ (s : Shared) (H : Hp) (C : Addr) (cl : List (Str × Addr)) (fp : List Addr), PTs (X.blk s H scope (compEnvC scope cl C X.env) fp) ifs tt)
    (hk : ∀ (s : Shared) (H : Hp) (C : Addr) (cl : List (Str × Addr)) (fp : List Addr), PE (X.blk s H scope (compEnvC scope cl C X.env) fp) kx tk) (he : ∀ (s : Shared) (H : Hp) (C : Addr) (cl : List (Str × Addr)) (fp : List Addr), PE (X.blk s H scope (compEnvC scope cl C X.env) fp) vx tv)
    (ho : o0 = .dK [] ∨ o0 = .dT []) (hs : ∀ x, foldedSetIterable iter X.env x = pure x := by intro _; rfl) :
    PS X (.Assign [.Name y py] (.DictComp kx vx [⟨tg, iter, ifs, 0⟩] scope pos) spos) (tAsg (tDp1 o0 wi g tt tk tv (own.map (·.2))) (gName i)) := by
  refine ⟨fun pins s σ H D I h => ?_⟩
  rw [exec_Assign_Name_used _ _ _ _ hsw]
  refine wpAny_bind (wpAny_standAt (wpAny_bind ?_))
  show wpAny _ X.A (do let _ ← comprehension (.DictComp kx vx [⟨tg, iter, ifs, 0⟩] scope pos) scope X.env (firstIterPos [⟨tg, iter, ifs, 0⟩] pos) newDict false (eval iter X.env) (some (assign (.Name y py) X.env))) _ _ s
  have h : tDp1 o0 wi g tt tk tv (own.map (·.2)) σ H (fun x H1 => gName i x σ H1 D.nx) := h
  refine wpAny_bind (thn (dp1_core (Qf := fun _ s' => SP X pins D .next s') hc hu hN I hi ok hg ht hk he ho hs h fun L C s' m H' I' q hn f => ?_) fun _ s' hq => wpAny_pure (wpAny_pure hq))
  show wpAny _ _ (assign (.Name y py) X.env (.ref L)) _ _ _
  refine wpAny_assign_Name (store_ok2 (v := V.ref L) I' hN hy (.inl hyl) rfl (fun s2 I2 ⟨a, sb, ha⟩ => ?_) (.inr hyl))
  obtain ⟨f0, f1, f2, f3, f4, f5⟩ := f
  have haC : C ≠ a := by
    rcases ha with z | z
    · rw [z]; exact f1
    · exact fun e => f4 y a z e.symm
  refine ⟨m, hn.sameBut sb haC, fun h3 sb3 => ?_⟩
  exact ⟨_, H', I2.turned (t' := s2.toks) (fun b o hb e => (sb3.2 b hb).trans e) f0 f1 f3 f4 f5, q⟩
def tDp2 (o0 : HO) (wi : TI) (g : TG) (tt : TT) (wi1 : TI) (g1 : TG) (tt1 : TT) (tk tv : TE) (vs vs1 : List Nat) : TE := fun σ H Q => wi σ H fun J H1 => ∀ D, H1 D = none → ∃ W : Nat → Nat → Hp → Prop, (∃ m, W 0 m (upd H1 D o0)) ∧ ∀ i m H, W i m H →
  (J.stop i H ∧ Q (.ref D) H) ∨ (J.go i H ∧ ∃ Nx : Hp → Prop, (∀ H', Nx H' → ∃ m', m' < m ∧ W (i + 1) m' H') ∧ ∀ x H', J.yld i H x H' → g x (wipe σ vs) H' fun σ2 H2 => wipe σ2 vs = wipe σ vs ∧ tt σ2 H2 fun b H3 =>
    if b = true then wi1 σ2 H3 fun J1 H4 => ∃ W1 : Nat → Nat → Hp → Prop, (∃ m, W1 0 m H4) ∧ ∀ j k H, W1 j k H →
      (J1.stop j H ∧ Nx H) ∨ (J1.go j H ∧ ∃ Nx1 : Hp → Prop, (∀ H', Nx1 H' → ∃ k', k' < k ∧ W1 (j + 1) k' H') ∧ ∀ x H', J1.yld j H x H' → g1 x (wipe σ2 vs1) H' fun σ3 H5 => wipe σ3 vs1 = wipe σ2 vs1 ∧ tt1 σ3 H5 fun b H6 =>
        if b = true then tk σ3 H6 fun y H7 => tv σ3 H7 fun z H8 => ∃ H9, DPut H8 D y z H9 ∧ Nx1 H9 else Nx1 H6)
    else Nx H3)
theorem dp2_core {pins : List (Addr × Obj)} {s : Shared} {σ : L2.St} {H : Hp} {Q : VK} {use : Option (Value → Sem Unit)} {Qf : Value → Shared → Prop} {pos' : Pos} {kx vx tg iter tg1 iter1 : Expr} {ifs ifs1 : List Expr} {scope : Scope} {own : List (Str × Nat)} {vs1 : List Nat} {pos : Pos} {o0 : HO} {wi wi1 : TI} {g g1 : TG} {tt tt1 : TT} {tk tv : TE} (hc : X.calm = true) (hu : X.A.units + 1 < cLine) (hN : X.N.Nodup) (I : Inv X pins σ H s) (hi : PI X tg iter wi) (ok : BlkOk X.N X.env.scope scope own) (hv : ∀ i ∈ vs1, i ∈ own.map (·.2))
    (hg : ∀ (s : Shared) (H : Hp) (C : Addr) (cl : List (Str × Addr)) (fp : List Addr), PG (X.blk s H scope (compEnvC scope cl C X.env) fp) tg g) (ht : ∀ (s : Shared) (H : Hp) (C : Addr) (cl : List (Str × Addr)) (fp : List Addr), PTs (X.blk s H scope (compEnvC scope cl C X.env) fp) ifs tt)
    (hi1 : ∀ (s : Shared) (H : Hp) (C : Addr) (cl : List (Str × Addr)) (fp : List Addr), PI (X.blk s H scope (compEnvC scope cl C X.env) fp) tg1 iter1 wi1) (hg1 : ∀ (s : Shared) (H : Hp) (C : Addr) (cl : List (Str × Addr)) (fp : List Addr), PG (X.blk s H scope (compEnvC scope cl C X.env) fp) tg1 g1) (ht1 : ∀ (s : Shared) (H : Hp) (C : Addr) (cl : List (Str × Addr)) (fp : List Addr), PTs (X.blk s H scope (compEnvC scope cl C X.env) fp) ifs1 tt1)
    (hk : ∀ (s : Shared) (H : Hp) (C : Addr) (cl : List (Str × Addr)) (fp : List Addr), PE (X.blk s H scope (compEnvC scope cl C X.env) fp) kx tk) (he : ∀ (s : Shared) (H : Hp) (C : Addr) (cl : List (Str × Addr)) (fp : List Addr), PE (X.blk s H scope (compEnvC scope cl C X.env) fp) vx tv)
    (ho : o0 = .dK [] ∨ o0 = .dT []) (hs : ∀ x, foldedSetIterable iter X.env x = pure x) (hs1 : ∀ env x, foldedSetIterable iter1 env x = pure x)
    (h : tDp2 o0 wi g tt wi1 g1 tt1 tk tv (own.map (·.2)) vs1 σ H Q)
    (hRR : ∀ D C s' m H', Inv X pins σ H' s' → Q (.ref D) H' → s'.heap.Ns C m → FpOk X pins H' C → compPost (model X.prog X.w) X.A X.xe use Qf (.ref D) C (.ok .next) s') :
    wpAny (model X.prog X.w) X.A (comprehension (.DictComp kx vx [⟨tg, iter, ifs, 0⟩, ⟨tg1, iter1, ifs1, 0⟩] scope pos) scope X.env pos' newDict false (eval iter X.env) use) Qf X.xe s := by
  have hfree : ∀ y ∈ scope.names, y.2 = .free → ∃ c, X.env.cells.lookup y.1 = some c := fun y hy e => I.ok.has _ (ok.free y hy e)
  refine wpAny_comprehension_free (use := use) rfl hs (closure_ok hfree) ok.kind (fun y hy e => by rw [ok.uniq y hy, e]) (thn (hi.run pins s σ H _ I h) fun xv s1 hx => thn hx fun itv s2 h2 => ?_)
  obtain ⟨it, fp, tn, J, H2, e, I2, T, st2, f2, q⟩ := h2
  subst e
  refine wpAny_newObj_type (newEnv_comp ?_)
  generalize hD : s2.heap.objs.size = D
  obtain ⟨W, ⟨m0, w0⟩, turn⟩ := q D (I2.hok.fresh (Nat.le_of_eq hD))
  generalize hs3 : ({ s2 with heap := s2.heap.push { cls := .type "dict", data := .dict #[] } } : Shared) = s3
  have h3 : s3.heap = s2.heap.push { cls := .type "dict", data := .dict #[] } := by rw [← hs3]
  have I3 : Inv X pins σ (upd H2 D o0) s3 := by
    rw [← hs3]
    refine I2.laid (t' := s2.toks) (fun b o e => Heap.get?_push_of_some _ e) (Nat.le_of_eq hD) ?_
    rw [← hD]
    rcases ho with z | z
    · rw [z]; exact dk_empty s2.heap I2.big
    · rw [z]; exact dt_empty s2.heap I2.big
  have f3 : ∀ b ∈ fp, FpOk X pins (upd H2 D o0) b ∧ b < s3.heap.objs.size := fun b hb => by
    obtain ⟨o, e, _⟩ := T.obj _ _ st2 b hb
    have hlt := Heap.lt_size e
    refine ⟨⟨?_, (f2 b hb).2⟩, by rw [h3, Heap.size_push]; exact Nat.lt_succ_of_lt hlt⟩
    rw [upd_ne (by rw [← hD]; exact Nat.ne_of_lt hlt)]
    exact (f2 b hb).1
  have st3 : tn 0 s3.heap := T.keep _ _ _ st2 fun b _ o e => by rw [h3]; exact Heap.get?_push_of_some _ e
  generalize hH3 : upd H2 D o0 = H3 at I3 f3 w0
  have I4 := block_start I3 ok hN f3
  have pg := hg s3 H3 s3.heap.objs.size (cellsFrom (s3.heap.objs.size + 1) scope.names (cloFrom X.env.cells scope.names [])) fp
  have pt := ht s3 H3 s3.heap.objs.size (cellsFrom (s3.heap.objs.size + 1) scope.names (cloFrom X.env.cells scope.names [])) fp
  have pi1 := hi1 s3 H3 s3.heap.objs.size (cellsFrom (s3.heap.objs.size + 1) scope.names (cloFrom X.env.cells scope.names [])) fp
  have pg1 := hg1 s3 H3 s3.heap.objs.size (cellsFrom (s3.heap.objs.size + 1) scope.names (cloFrom X.env.cells scope.names [])) fp
  have pt1 := ht1 s3 H3 s3.heap.objs.size (cellsFrom (s3.heap.objs.size + 1) scope.names (cloFrom X.env.cells scope.names [])) fp
  have pk := hk s3 H3 s3.heap.objs.size (cellsFrom (s3.heap.objs.size + 1) scope.names (cloFrom X.env.cells scope.names [])) fp
  have pe := he s3 H3 s3.heap.objs.size (cellsFrom (s3.heap.objs.size + 1) scope.names (cloFrom X.env.cells scope.names [])) fp
  have nfp : ∀ b ∈ fp, H3 b = none := fun b hb => (f3 b hb).1.1
  show codeAny _ _ (.compStart (.DictComp kx vx [⟨tg, iter, ifs, 0⟩, ⟨tg1, iter1, ifs1, 0⟩] scope pos) 0 (.ref it) (.ref D) (compEnvC scope (cellsFrom (s3.heap.objs.size + 1) scope.names (cloFrom X.env.cells scope.names [])) s3.heap.objs.size X.env)) _ { s3 with heap := pushCells (s3.heap.push { cls := .type "dict", data := .dict #[] }) scope.names }
  generalize hce : compEnvC scope (cellsFrom (s3.heap.objs.size + 1) scope.names (cloFrom X.env.cells scope.names [])) s3.heap.objs.size X.env = ce at I4 pg pt pi1 pg1 pt1 pk pe ⊢
  have cL : ce.locals = s3.heap.objs.size := by subst hce; rfl
  generalize hs4 : ({ s3 with heap := pushCells (s3.heap.push { cls := .type "dict", data := .dict #[] }) scope.names } : Shared) = s4 at I4 ⊢
  have st4 : tn 0 s4.heap := T.keep _ _ _ st3 fun b _ o e => by rw [← hs4]; exact pushCells_keeps _ _ _ _ (Heap.get?_push_of_some _ e)
  have stat : ∀ {σ' : L2.St} {H' : Hp} {s' : Shared}, Inv (X.blk s3 H3 scope ce fp) [] σ' H' s' → (∀ b ∈ fp, H' b = none) → ∀ b ∈ fp, FpOk (X.blk s3 H3 scope ce fp) [] H' b := fun {σ' H' s'} I' hn b hb =>
    ⟨hn b hb, (I'.ok.exf b hb).1, I'.ok.exfs b hb, .inl hb, fun x c e => (I'.ok.exf b hb).2 x c e, fun p hp => nomatch (show p ∈ ([] : List (Addr × Obj)) from hp)⟩
  have loop : codeAny (model X.prog X.w) X.A (.compLoop (.DictComp kx vx [⟨tg, iter, ifs, 0⟩, ⟨tg1, iter1, ifs1, 0⟩] scope pos) 0 (.ref it) (.ref D) ce) (compPost (model X.prog X.w) X.A X.xe use Qf (.ref D) s3.heap.objs.size) s4 := by
    refine loop2_out (hs1 ce) (fun n s' => ∃ i H', Inv (X.blk s3 H3 scope ce fp) [] (wipe σ (own.map (·.2))) H' s' ∧ tn i s'.heap ∧ (∀ b ∈ fp, H' b = none) ∧ W i n H') ?_ m0 ⟨0, H3, I4, st4, nfp, w0⟩
    rintro n s5 ⟨i, H5, I5, st5, n5, w5⟩
    rcases turn i n H5 w5 with ⟨stop, qq⟩ | ⟨go, Nx, hNx, step⟩
    · refine thnF (T.done (X.blk s3 H3 scope ce fp) rfl rfl rfl hc i [] s5 _ H5 (fun _ _ => False) I5 (stat I5 n5) st5 stop) fun r s6 ⟨hr, I6⟩ => ?_
      subst hr
      have I7 : Inv X pins σ H5 s6 := I3.call' (ch := fp) I6.os I6.base I6.hok I6.bare fun b hb => ⟨(f3 b hb).1.2.2.2.1, (f3 b hb).1.2.1, (f3 b hb).1.2.2.2.2.1, (f3 b hb).1.2.2.2.2.2⟩
      have nC : H5 s3.heap.objs.size = none := by
        have z : H5 ce.locals = none := I6.free
        rw [cL] at z
        exact z
      obtain ⟨m, hn, _⟩ := I6.loc
      have hn : s6.heap.Ns ce.locals m := hn
      rw [cL] at hn
      exact hRR D s3.heap.objs.size s6 m H5 I7 qq hn (I3.fpOk (Nat.le_refl _) nC)
    · refine thnF (T.item (X.blk s3 H3 scope ce fp) rfl rfl rfl hc i [] s5 _ H5 (fun _ _ => False) I5 (stat I5 n5) st5 go) fun r s6 ⟨u, hr, h6⟩ => ?_
      subst hr
      refine thnF h6 fun _ s7 ⟨x, H7, I7, r7, y7, st7, n7⟩ => ?_
      have I7' := I7.pinned (stat I7 n7) (T.obj _ _ st7)
      refine thnF (pg.run _ s7 _ H7 x u _ I7' r7 (step x H7 y7)) fun _ s8 ⟨σ8, H8, I8, hw8, q8⟩ => ?_
      refine thnF (pt.run _ s8 σ8 H8 _ I8 q8) fun b s9 ⟨H9, I9, q9⟩ => ?_
      have fin : ∀ {σ9 : L2.St} {s' : Shared} {H' : Hp}, Inv (X.blk s3 H3 scope ce fp) ([] ++ pinsAt fp s7.heap) σ9 H' s' → (wipe σ (own.map (·.2))).length = σ9.length → (∀ (j : Nat) v, (wipe σ (own.map (·.2)))[j]? = some (some v) → σ9[j]? = some (some v)) → Nx H' →
          ∃ m, m < n ∧ ∃ i H', Inv (X.blk s3 H3 scope ce fp) [] (wipe σ (own.map (·.2))) H' s' ∧ tn i s'.heap ∧ (∀ b ∈ fp, H' b = none) ∧ W i m H' := fun {σ9 s' H'} I' hl hk nx => by
        obtain ⟨m', hm, w'⟩ := hNx H' nx
        have pin' : ∀ b ∈ fp, ∀ o, s7.heap.get? b = some o → s'.heap.get? b = some o ∧ H' b = none := fun b hb o e => by
          have z := I'.pin (b, o) (List.mem_append_right _ (List.mem_append_right _ (mem_pinsAt hb e)))
          exact ⟨z.1, z.2.1⟩
        refine ⟨m', hm, i + 1, H', (I'.unpinned (pins := [])).weak hl hk, T.keep _ _ _ st7 fun b hb o e => (pin' b hb o e).1, fun b hb => ?_, w'⟩
        obtain ⟨o, e, _⟩ := T.obj _ _ st7 b hb
        exact (pin' b hb o e).2
      have hl8 : (wipe σ (own.map (·.2))).length = σ8.length := by rw [← hw8, wipe_length]
      have hk8 : ∀ (j : Nat) v, (wipe σ (own.map (·.2)))[j]? = some (some v) → σ8[j]? = some (some v) := fun j v e => by
        rw [← hw8] at e
        exact (wipe_some e).1
      have hk9 : ∀ (j : Nat) v, (wipe σ (own.map (·.2)))[j]? = some (some v) → (wipe σ8 vs1)[j]? = some (some v) := fun j v e => by
        rw [← hw8] at e
        obtain ⟨e1, e2⟩ := wipe_some e
        rw [wipe_out fun z => e2 (hv j z)]
        exact e1
      cases b with
      | false =>
        simp only [Bool.false_eq_true, if_false] at q9 ⊢
        exact fin I9 hl8 hk8 q9
      | true =>
        simp only [if_true] at q9 ⊢
        refine thnF (pi1.run _ s9 σ8 H9 _ I9 q9) fun xv s10 hx => thnF hx fun itv s11 h11 => ?_
        obtain ⟨it1, fp1, tn1, J1, H11, e1, I11, T1, st11, f11, W1, ⟨m1, w1⟩, turn1⟩ := h11
        subst e1
        have stat1 : ∀ {H' : Hp}, (∀ b ∈ fp1, H' b = none) → ∀ b ∈ fp1, FpOk (X.blk s3 H3 scope ce fp) ([] ++ pinsAt fp s7.heap) H' b := fun hn b hb => ⟨hn b hb, (f11 b hb).2⟩
        have loop1 : codeAny (model X.prog X.w) X.A (.compLoop (.DictComp kx vx [⟨tg, iter, ifs, 0⟩, ⟨tg1, iter1, ifs1, 0⟩] scope pos) 1 (.ref it1) (.ref D) ce)
            (fun r s' => match r with
              | .ok _ => ∃ m, m < n ∧ ∃ i H', Inv (X.blk s3 H3 scope ce fp) [] (wipe σ (own.map (·.2))) H' s' ∧ tn i s'.heap ∧ (∀ b ∈ fp, H' b = none) ∧ W i m H'
              | .error _ => False) s11 := by
          refine loop2_in (fun k s' => ∃ j H', Inv (X.blk s3 H3 scope ce fp) ([] ++ pinsAt fp s7.heap) (wipe σ8 vs1) H' s' ∧ tn1 j s'.heap ∧ (∀ b ∈ fp1, H' b = none) ∧ W1 j k H') ?_ m1 ⟨0, H11, I11.weak (wipe_length _ _) (fun j v e => (wipe_some e).1), st11, fun b hb => (f11 b hb).1, w1⟩
          rintro k s12 ⟨j, H12, I12, st12, n12, w12⟩
          rcases turn1 j k H12 w12 with ⟨stop1, nx1⟩ | ⟨go1, Nx1, hNx1, step1⟩
          · refine thnF (T1.done (X.blk s3 H3 scope ce fp) rfl rfl rfl hc j _ s12 (wipe σ8 vs1) H12 (fun _ _ => False) I12 (stat1 n12) st12 stop1) fun r s13 ⟨hr, I13⟩ => ?_
            subst hr
            exact fin I13 (hl8.trans (wipe_length σ8 vs1).symm) hk9 nx1
          · refine thnF (T1.item (X.blk s3 H3 scope ce fp) rfl rfl rfl hc j _ s12 (wipe σ8 vs1) H12 (fun _ _ => False) I12 (stat1 n12) st12 go1) fun r s13 ⟨u1, hr, h13⟩ => ?_
            subst hr
            refine thnF h13 fun _ s14 ⟨x1, H14, I14, r14, y14, st14, n14⟩ => ?_
            have I14' := I14.pinned (stat1 n14) (T1.obj _ _ st14)
            refine thnF (pg1.run _ s14 (wipe σ8 vs1) H14 x1 u1 _ I14' r14 (step1 x1 H14 y14)) fun _ s15 ⟨σ15, H15, I15, hw15, q15⟩ => ?_
            refine thnF (pt1.run _ s15 σ15 H15 _ I15 q15) fun b1 s16 ⟨H16, I16, q16⟩ => ?_
            have fin1 : ∀ {s' : Shared} {H' : Hp}, Inv (X.blk s3 H3 scope ce fp) (([] ++ pinsAt fp s7.heap) ++ pinsAt fp1 s14.heap) σ15 H' s' → Nx1 H' →
                ∃ m, m < k ∧ ∃ j H', Inv (X.blk s3 H3 scope ce fp) ([] ++ pinsAt fp s7.heap) (wipe σ8 vs1) H' s' ∧ tn1 j s'.heap ∧ (∀ b ∈ fp1, H' b = none) ∧ W1 j m H' := fun {s' H'} I' nx => by
              obtain ⟨m', hm, w'⟩ := hNx1 H' nx
              have pin' : ∀ b ∈ fp1, ∀ o, s14.heap.get? b = some o → s'.heap.get? b = some o ∧ H' b = none := fun b hb o e => by
                have z := I'.pin (b, o) (List.mem_append_right _ (List.mem_append_right _ (mem_pinsAt hb e)))
                exact ⟨z.1, z.2.1⟩
              refine ⟨m', hm, j + 1, H', I'.unpinned.weak (by rw [← hw15, wipe_length]) (fun j v e => by rw [← hw15] at e; exact (wipe_some e).1), T1.keep _ _ _ st14 fun b hb o e => (pin' b hb o e).1, fun b hb => ?_, w'⟩
              obtain ⟨o, e, _⟩ := T1.obj _ _ st14 b hb
              exact (pin' b hb o e).2
            cases b1 with
            | false =>
              simp only [Bool.false_eq_true, if_false] at q16 ⊢
              exact fin1 I16 q16
            | true =>
              simp only [if_true] at q16 ⊢
              refine thnF (pk.run _ s16 σ15 H16 _ I16 q16) fun z s17 ⟨yk, H17, I17, r17, q17⟩ => ?_
              refine thnF (pe.run _ s17 σ15 H17 _ I17 q17) fun z2 s18 ⟨yv, H18, I18, r18, H19, put, nx⟩ => ?_
              exact d_setP (X := X.blk s3 H3 scope ce fp) hu I18 put r17 r18 fun s19 I19 => fin1 I19 nx
        exact start2 loop1 (T1.self X.A 0 _ _ _ st11 loop1)
  exact codeAny_compStart_dict loop (T.self X.A 0 _ _ _ st4 loop)
theorem pe_dp2 {kx vx tg iter tg1 iter1 : Expr} {ifs ifs1 : List Expr} {scope : Scope} {own : List (Str × Nat)} {vs1 : List Nat} {pos : Pos} {o0 : HO} {wi wi1 : TI} {g g1 : TG} {tt tt1 : TT} {tk tv : TE} (hc : X.calm = true) (hu : X.A.units + 1 < cLine) (hN : X.N.Nodup) (hi : PI X tg iter wi) (ok : BlkOk X.N X.env.scope scope own) (hv : ∀ i ∈ vs1, i ∈ own.map (·.2))
    (hg : ∀ (s : Shared) (H : Hp) (C : Addr) (cl : List (Str × Addr)) (fp : List Addr), PG (X.blk s H scope (compEnvC scope cl C X.env) fp) tg g) (ht : ∀ (s : Shared) (H : Hp) (C : Addr) (cl : List (Str × Addr)) (fp : List Addr), PTs (X.blk s H scope (compEnvC scope cl C X.env) fp) ifs tt)
    (hi1 : ∀ (s : Shared) (H : Hp) (C : Addr) (cl : List (Str × Addr)) (fp : List Addr), PI (X.blk s H scope (compEnvC scope cl C X.env) fp) tg1 iter1 wi1) (hg1 : ∀ (s : Shared) (H : Hp) (C : Addr) (cl : List (Str × Addr)) (fp : List Addr), PG (X.blk s H scope (compEnvC scope cl C X.env) fp) tg1 g1) (ht1 : ∀ (s : Shared) (H : Hp) (C : Addr) (cl : List (Str × Addr)) (fp : List Addr), PTs (X.blk s H scope (compEnvC scope cl C X.env) fp) ifs1 tt1)
    (hk : ∀ (s : Shared) (H : Hp) (C : Addr) (cl : List (Str × Addr)) (fp : List Addr), PE (X.blk s H scope (compEnvC scope cl C X.env) fp) kx tk) (he : ∀ (s : Shared) (H : Hp) (C : Addr) (cl : List (Str × Addr)) (fp : List Addr), PE (X.blk s H scope (compEnvC scope cl C X.env) fp) vx tv)
    (ho : o0 = .dK [] ∨ o0 = .dT []) (hs : ∀ x, foldedSetIterable iter X.env x = pure x := by intro _; rfl) (hs1 : ∀ env x, foldedSetIterable iter1 env x = pure x := by intro _ _; rfl) :
    PE X (.DictComp kx vx [⟨tg, iter, ifs, 0⟩, ⟨tg1, iter1, ifs1, 0⟩] scope pos) (tDp2 o0 wi g tt wi1 g1 tt1 tk tv (own.map (·.2)) vs1) := by
  refine ⟨fun pins s σ H Q I h => ?_⟩
  rw [arm_eval_DictComp]
  refine dp2_core hc hu hN I hi ok hv hg ht hi1 hg1 ht1 hk he ho hs hs1 h fun D C s' m H' I' q hn f => ⟨m, hn, fun h'' sb => ?_⟩
  obtain ⟨f0, f1, f2, f3, f4, f5⟩ := f
  exact ⟨.ref D, H', I'.turned (t' := s'.toks) (fun b o hb e => (sb.2 b hb).trans e) f0 f1 f3 f4 f5, rfl, q⟩
theorem ps_setDp2 {i : Nat} {y : Str} {py spos : Pos} {kx vx tg iter tg1 iter1 : Expr} {ifs ifs1 : List Expr} {scope : Scope} {own : List (Str × Nat)} {vs1 : List Nat} {pos : Pos} {o0 : HO} {wi wi1 : TI} {g g1 : TG} {tt tt1 : TT} {tk tv : TE} (hc : X.calm = true) (hu : X.A.units + 1 < cLine) (hN : X.N.Nodup) (hy : X.N[i]? = some y) (hyl : X.env.scope.names.lookup y = some .local)
    (hsw : swapsWith (.DictComp kx vx [⟨tg, iter, ifs, 0⟩, ⟨tg1, iter1, ifs1, 0⟩] scope pos) (some (.Name y py)) spos.line X.env = pure true) (hi : PI X tg iter wi) (ok : BlkOk X.N X.env.scope scope own) (hv : ∀ i ∈ vs1, i ∈ own.map (·.2))
    (hg : ∀ (s : Shared) (H : Hp) (C : Addr) (cl : List (Str × Addr)) (fp : List Addr), PG (X.blk s H scope (compEnvC scope cl C X.env) fp) tg g) (ht : ∀ (s : Shared) (H : Hp) (C : Addr) (cl : List (Str × Addr)) (fp : List Addr), PTs (X.blk s H scope (compEnvC scope cl C X.env) fp) ifs tt)
    (hi1 : ∀ (s : Shared) (H : Hp) (C : Addr) (cl : List (Str × Addr)) (fp : List Addr), PI (X.blk s H scope (compEnvC scope cl C X.env) fp) tg1 iter1 wi1) (hg1 : ∀ (s : Shared) (H : Hp) (C : Addr) (cl : List (Str × Addr)) (fp : List Addr), PG (X.blk s H scope (compEnvC scope cl C X.env) fp) tg1 g1) (ht1 : ∀ (s : Shared) (H : Hp) (C : Addr) (cl : List (Str × Addr)) (fp : List Addr), PTs (X.blk s H scope (compEnvC scope cl C X.env) fp) ifs1 tt1)
    (hk : ∀ (s : Shared) (H : Hp) (C : Addr) (cl : List (Str × Addr)) (fp : List Addr), PE (X.blk s H scope (compEnvC scope cl C X.env) fp) kx tk) (he : ∀ (s : Shared) (H : Hp) (C : Addr) (cl : List (Str × Addr)) (fp : List Addr), PE (X.blk s H scope (compEnvC scope cl C X.env) fp) vx tv)
    (ho : o0 = .dK [] ∨ o0 = .dT []) (hs : ∀ x, foldedSetIterable iter X.env x = pure x := by intro _; rfl) (hs1 : ∀ env x, foldedSetIterable iter1 env x = pure x := by intro _ _; rfl) :
    PS X (.Assign [.Name y py] (.DictComp kx vx [⟨tg, iter, ifs, 0⟩, ⟨tg1, iter1, ifs1, 0⟩] scope pos) spos) (tAsg (tDp2 o0 wi g tt wi1 g1 tt1 tk tv (own.map (·.2)) vs1) (gName i)) := by
  refine ⟨fun pins s σ H D I h => ?_⟩
  rw [exec_Assign_Name_used _ _ _ _ hsw]
  refine wpAny_bind (wpAny_standAt (wpAny_bind ?_))
  show wpAny _ X.A (do let _ ← comprehension (.DictComp kx vx [⟨tg, iter, ifs, 0⟩, ⟨tg1, iter1, ifs1, 0⟩] scope pos) scope X.env (firstIterPos [⟨tg, iter, ifs, 0⟩, ⟨tg1, iter1, ifs1, 0⟩] pos) newDict false (eval iter X.env) (some (assign (.Name y py) X.env))) _ _ s
  have h : tDp2 o0 wi g tt wi1 g1 tt1 tk tv (own.map (·.2)) vs1 σ H (fun x H1 => gName i x σ H1 D.nx) := h
  refine wpAny_bind (thn (dp2_core (Qf := fun _ s' => SP X pins D .next s') hc hu hN I hi ok hv hg ht hi1 hg1 ht1 hk he ho hs hs1 h fun L C s' m H' I' q hn f => ?_) fun _ s' hq => wpAny_pure (wpAny_pure hq))
  show wpAny _ _ (assign (.Name y py) X.env (.ref L)) _ _ _
  refine wpAny_assign_Name (store_ok2 (v := V.ref L) I' hN hy (.inl hyl) rfl (fun s2 I2 ⟨a, sb, ha⟩ => ?_) (.inr hyl))
  obtain ⟨f0, f1, f2, f3, f4, f5⟩ := f
  have haC : C ≠ a := by
    rcases ha with z | z
    · rw [z]; exact f1
    · exact fun e => f4 y a z e.symm
  refine ⟨m, hn.sameBut sb haC, fun h3 sb3 => ?_⟩
  exact ⟨_, H', I2.turned (t' := s2.toks) (fun b o hb e => (sb3.2 b hb).trans e) f0 f1 f3 f4 f5, q⟩
theorem swD_true {kx vx : Expr} {gs : List Comprehension} {scope : Scope} {pos py : Pos} {y : Str} {l : Nat} {env : Env} (hk : env.scope.kind = .function) (hy : env.scope.names.lookup y = some .local) (hl : (py.line == pos.line) = true)
    (ha : (scope.names.any fun (n, k) => n == y && (k == .local || k == .cell)) = false) : swapsWith (.DictComp kx vx gs scope pos) (some (.Name y py)) l env = pure true := by
  have ky : env.kindOf y = some .local := hy
  have hb : env.blockKind = .function := by unfold Env.blockKind; rw [hk]; rfl
  unfold swapsWith
  simp only [hb, ky, ha, Expr.pos, hl]
  rfl
end
end MN
/-! lists and tuples of texts and truths as data -/
namespace MN
open PySem PySem.Spec PyProof.Rows L2
section
variable {K : PySem.W.Frag} {H : Hp}
theorem dp_strs : ∀ zs : List Str, DpAll K H (zs.map V.str) (zs.map PyData.str)
  | [] => .nil
  | z :: zs => .cons (.str z) (dp_strs zs)
theorem dp_bls : ∀ bs : List Bool, DpAll K H (bs.map V.bl) (bs.map PyData.bool)
  | [] => .nil
  | b :: bs => .cons (.bl b) (dp_bls bs)
theorem dpT {t : Addr} {zs : List Str} (h : SqT K H t (zs.map V.str)) : Dp K H (.ref t) (.tuple (zs.map PyData.str)) := .tup h (dp_strs zs)
theorem dpL {t : Addr} {zs : List Str} (h : SqL K H t (zs.map V.str)) : Dp K H (.ref t) (.list (zs.map PyData.str)) := .lst h (dp_strs zs)
theorem dpB {t : Addr} {bs : List Bool} (h : SqL K H t (bs.map V.bl)) : Dp K H (.ref t) (.list (bs.map PyData.bool)) := .lst h (dp_bls bs)
theorem layAll (zs : List PyData) (h : ∀ d ∈ zs, d.canLay0 = true) : PyData.canLayAll0 zs = true := by
  induction zs with
  | nil => rfl
  | cons z zs ih =>
    rw [PyData.canLayAll0, h z List.mem_cons_self, ih fun d hd => h d (List.mem_cons_of_mem _ hd)]
    rfl
theorem depthAll0 (zs : List PyData) {n : Nat} (h : ∀ d ∈ zs, d.depth ≤ n) : PyData.depthAll zs ≤ n := by
  induction zs with
  | nil => simp [PyData.depthAll]
  | cons z zs ih =>
    rw [PyData.depthAll]
    have h1 := h z List.mem_cons_self
    have h2 := ih fun d hd => h d (List.mem_cons_of_mem _ hd)
    omega
theorem shapedT {zs : List PyData} (h : ∀ d ∈ zs, d.canLay0 = true ∧ d.depth ≤ 60) : SeqAt.shaped (.tuple zs) = true := by
  unfold SeqAt.shaped
  rw [PyData.canLay0, layAll zs fun d hd => (h d hd).1, PyData.depth]
  have := depthAll0 zs (n := 60) fun d hd => (h d hd).2
  simp only [Bool.true_and, decide_eq_true_eq]
  omega
theorem shapedL {zs : List PyData} (h : ∀ d ∈ zs, d.canLay0 = true ∧ d.depth ≤ 60) : SeqAt.shaped (.list zs) = true := by
  unfold SeqAt.shaped
  rw [PyData.canLay0, layAll zs fun d hd => (h d hd).1, PyData.depth]
  have := depthAll0 zs (n := 60) fun d hd => (h d hd).2
  simp only [Bool.true_and, decide_eq_true_eq]
  omega
theorem eqv_self {d : PyData} (h : SeqAt.shaped d = true) : PyData.eqv d d = true := SeqAt.eqv_refl d (SeqAt.canLay_of_shaped h)
end
end MN
/-! the head's facts: defs at any address, one more Bool -/
namespace MN
open PySem PySem.Spec PyProof.Rows L2
def obsX (ex : PySem.W.Frag → Bool) (fn : List He5.DefA) (K : PySem.W.Frag) : He.AlD := (ex K && fn.all fun d => d.ok K, fn.map fun d => He5.fnA K (d.at_ K))
def SaysX (ex : PySem.W.Frag → Bool) (fn : List He5.DefA) (K : PySem.W.Frag) : Prop := obsX ex fn K = He5.valA fn
def obsXG (n : Nat) (ex : PySem.W.Frag → Bool) (fn : List He5.DefA) (g : Addr → Option Obj) : He.AlD := obsX ex fn (He.frG g (He5.asA g n))
def hookX (n : Nat) (ex : PySem.W.Frag → Bool) (fn : List He5.DefA) : PySem.W.Hook where
  α := He.AlD
  obs := fun s => obsXG n ex fn s.heap.get?
  val := fun _ => He5.valA fn
  says := fun _ h => ∃ K : PySem.W.Frag, K.In h ∧ SaysX ex fn K
  of := fun _ _ e => ⟨_, He.frG_in, e⟩
  keeps := fun _ _ _ ⟨K, hK, c⟩ k => ⟨K, PySem.W.Frag.In.keeps hK k, c⟩
theorem obsXG_eq {n : Nat} {ex : PySem.W.Frag → Bool} {fn : List He5.DefA} {g : Addr → Option Obj} {s : Shared} (h : ∀ a, g a = s.heap.get? a) : obsXG n ex fn g = (hookX n ex fn).obs s := by
  have e : g = s.heap.get? := funext h
  rw [e] <;> rfl
section
variable {ex : PySem.W.Frag → Bool} {fn : List He5.DefA} {K : PySem.W.Frag}
theorem SaysX.all (c : SaysX ex fn K) : ex K = true := (He.ba (show (ex K && fn.all fun d => d.ok K) = true from congrArg (fun z : He.AlD => z.1) c)).1
theorem SaysX.def_ (c : SaysX ex fn K) (i : Nat) {d : He5.DefA} (h : fn[i]? = some d := by rfl) : ∃ fd, L2.FunD K d.name d.qual d.params d.body d.scope (d.dvs K) (d.kws K) (d.at_ K) fd := by
  have c2 := (He.ba (show (ex K && fn.all fun d => d.ok K) = true from congrArg (fun z : He.AlD => z.1) c)).2
  have e : fn.map (fun d => He5.fnA K (d.at_ K)) = fn.map He5.DefA.val := congrArg (fun z : He.AlD => z.2) c
  have e2 : (fn.map fun d => He5.fnA K (d.at_ K))[i]? = (fn.map He5.DefA.val)[i]? := by rw [e]
  rw [List.getElem?_map, List.getElem?_map, h] at e2
  exact He5.DefA.funD (Option.some.inj e2) (List.all_eq_true.mp c2 d (List.mem_of_getElem? h))
end
/-- a def of the top -/
def gDef (x : Str) (st : Stmt) : He5.DefA := { at_ := fun K => He.ga K x, name := x, qual := x, params := defArgs st, body := defBody st, scope := defScope st }
/-! ### a class with slots -/
def scB (K : PySem.W.Frag) (C : Addr) : Bool := PySem.W.plainGet K C Str.empty && (PySem.W.isClsIn K C && (PySem.W.plainOver K C && He.eqO (PySem.W.findIn K (.ref C) "__setattr__") (some (some (.builtin "object.__setattr__")))))
theorem scB_ok {K : PySem.W.Frag} {C : Addr} (h : scB K C = true) : SlX.SCls K C := by
  obtain ⟨h1, h⟩ := He.ba h
  obtain ⟨h2, h⟩ := He.ba h
  obtain ⟨h3, h4⟩ := He.ba h
  exact ⟨h1, h2, h3, He.eqO_ok h4⟩
def siB (K : PySem.W.Frag) (C : Addr) : Bool := He.eqO (PySem.W.findIn K (.ref C) "__class__") (some (some (.builtin "object.__class__"))) && (He.eqO (PySem.W.specialIn K (.builtin "object.__class__") "__get__") (some (some (.builtin "getset_descriptor.__get__"))) &&
  (decide (PySem.W.takesIn K (.builtin "object.__class__") = some true) && decide (PySem.W.mroIn K C (.type "object") = some true)))
theorem siB_ok {K : PySem.W.Frag} {C : Addr} (h : siB K C = true) : SlX.SIsi K C := by
  obtain ⟨h1, h⟩ := He.ba h
  obtain ⟨h2, h⟩ := He.ba h
  obtain ⟨h3, h4⟩ := He.ba h
  exact ⟨He.eqO_ok h1, He.eqO_ok h2, of_decide_eq_true h3, of_decide_eq_true h4⟩
def slB (K : PySem.W.Frag) (C : Addr) (f : Str) : Bool := He.eqO (PySem.W.findIn K (.ref C) f) (some (some (.ref (He.ma K C f)))) && (He.eqO (PySem.W.specialIn K (.ref (He.ma K C f)) "__get__") (some (some (.builtin "member_descriptor.__get__"))) &&
  (decide (PySem.W.takesIn K (.ref (He.ma K C f)) = some true) && (decide (PySem.W.typeIn K (.ref (He.ma K C f)) = some (.type "member_descriptor")) && (match PySem.W.slotIn K (He.ma K C f) C with
    | some i => decide (i < 1000)
    | none => false))))
theorem slB_ok {K : PySem.W.Frag} {C : Addr} {f : Str} (h : slB K C f = true) : ∃ p i, SlX.Slot1 K C f p i := by
  obtain ⟨h1, h⟩ := He.ba h
  obtain ⟨h2, h⟩ := He.ba h
  obtain ⟨h3, h⟩ := He.ba h
  obtain ⟨h4, h5⟩ := He.ba h
  cases e : PySem.W.slotIn K (He.ma K C f) C with
  | none =>
    rw [e] at h5
    cases h5
  | some i =>
    rw [e] at h5
    exact ⟨_, i, He.eqO_ok h1, He.eqO_ok h2, of_decide_eq_true h3, of_decide_eq_true h4, e, of_decide_eq_true h5⟩
/-- attributes and classmethods read off the class -/
def rdB (K : PySem.W.Frag) (C : Addr) : Bool := PySem.W.readsIn K C (.type "type") && He.eqO (PySem.W.specialIn K (.ref C) "__getattribute__") (some (some (.builtin "type.__getattribute__")))
theorem rdB_ok {K : PySem.W.Frag} {C : Addr} (h : rdB K C = true) : ClX.CRead K C (.type "type") := by
  obtain ⟨h1, h2⟩ := He.ba h
  exact ⟨h1, He.eqO_ok h2⟩
def cmB (K : PySem.W.Frag) (C : Addr) (m : Str) : Bool := He5.wrapB K C "classmethod" "classmethod.__get__" m && PySem.W.fnIn K (He5.wf K C "classmethod" m)
theorem cmB_ok {K : PySem.W.Frag} {C : Addr} {m : Str} (h : cmB K C m = true) : ClX.CMet K C (.type "type") m (He.ma K C m) (He5.wf K C "classmethod" m) := by
  obtain ⟨h1, h2⟩ := He.ba h
  exact He5.cmet_of h1 h2
/-! ### names -/
def freeAll (K : PySem.W.Frag) (xs : List Str) : Bool := xs.all fun x => (He.Fa.free x).ok K
def gloAll (K : PySem.W.Frag) (xs : List Str) : Bool := xs.all fun x => (He.Fa.glo x).ok K
section
variable {K : PySem.W.Frag} {h : Heap} {mg : Str → Option Value}
theorem freeAll_ok (X : K.In h) (G : h.Ns mainGlobals mg) {xs : List Str} (c : freeAll K xs = true) : ∀ x ∈ xs, mg x = none := fun x hx => He.free_ok X G (List.all_eq_true.mp c x hx)
theorem gloAll_ok (X : K.In h) (G : h.Ns mainGlobals mg) {xs : List Str} (c : gloAll K xs = true) {x : Str} (hx : x ∈ xs) : mg x = some (.ref (He.ga K x)) := He.glo_ok X G (List.all_eq_true.mp c x hx)
theorem intC_ok (X : K.In h) (G : h.Ns mainGlobals mg) {x : Str} {i : Int} (c : (He.Fa.int x i).ok K = true) : ∃ u, mg x = some u ∧ RelV (.int i) u := by
  obtain ⟨t, e⟩ := He.int_ok X G c
  exact ⟨_, e, t, rfl⟩
theorem strC_ok (X : K.In h) (G : h.Ns mainGlobals mg) {x z : Str} (c : (He.Fa.str x z).ok K = true) : ∃ u, mg x = some u ∧ RelV (.str z) u := by
  obtain ⟨t, e⟩ := He.str_ok X G c
  exact ⟨_, e, t, rfl⟩
end
end MN
/-! the law's draws: whatever is drawn lies in its bounds -/
namespace MN
open PySem PySem.Spec PyProof.Rows L2
abbrev potO (a b c : Int) : HO := .lst [.int a, .int b, .int c]
def Pot (H : Hp) (p : Addr) : Prop := ∃ a b c, H p = some (potO a b c)
/-- all but the pot is as it was; the pot is one still -/
structure Ex (p : Addr) (H H' : Hp) : Prop where
  keep : ∀ b o, b ≠ p → H b = some o → H' b = some o
  pot : Pot H' p
theorem Pot.upd {H : Hp} {p : Addr} {a b c : Int} : Pot (L2.upd H p (potO a b c)) p := ⟨a, b, c, upd_same⟩
theorem Ex.turn {H : Hp} {p : Addr} {a b c : Int} : Ex p H (L2.upd H p (potO a b c)) := ⟨fun b o hb e => by rw [upd_ne hb]; exact e, .upd⟩
theorem Ex.trans {p : Addr} {H H1 H2 : Hp} (a : Ex p H H1) (b : Ex p H1 H2) : Ex p H H2 := ⟨fun x o hx e => b.keep x o hx (a.keep x o hx e), b.pot⟩
theorem Ex.new {p q : Addr} {H H1 : Hp} {o : HO} (a : Ex p H H1) (hq : H1 q = none) : Ex p H (L2.upd H1 q o) := by
  obtain ⟨x, y, z, hp⟩ := a.pot
  exact ⟨fun b u hb e => by rw [upd_ne (ne_of_none (a.keep b u hb e) hq)]; exact a.keep b u hb e, x, y, z, by rw [upd_ne (ne_of_none hp hq)]; exact hp⟩
theorem Ex.same {p : Addr} {H H1 H2 : Hp} (a : Ex p H H1) (s : Same H1 H2) : Ex p H H2 := by
  obtain ⟨x, y, z, hp⟩ := a.pot
  exact ⟨fun b u hb e => s _ _ (a.keep b u hb e), x, y, z, s _ _ hp⟩
theorem Ex.refl {p : Addr} {H : Hp} (h : Pot H p) : Ex p H H := ⟨fun _ _ _ e => e, h⟩
theorem Ex.free {p q : Addr} {H H1 : Hp} (a : Ex p H H1) (hp : Pot H p) (hq : H1 q = none) : H q = none := by
  cases e : H q with
  | none => rfl
  | some o =>
    by_cases z : q = p
    · subst z
      obtain ⟨x, y, w, h⟩ := a.pot
      rw [h] at hq; cases hq
    · rw [a.keep q o z e] at hq; cases hq
/-- an object that stands, or a new one, may be changed -/
theorem Ex.put {p q : Addr} {H H1 : Hp} {o : HO} (a : Ex p H H1) (hq : H q = none) (hne : q ≠ p) : Ex p H (L2.upd H1 q o) := by
  obtain ⟨x, y, z, hp⟩ := a.pot
  exact ⟨fun b u hb e => by rw [upd_ne (ne_of_none e hq)]; exact a.keep b u hb e, x, y, z, by rw [upd_ne (Ne.symm hne)]; exact hp⟩
theorem Ex.seqL {K : PySem.W.Frag} {p : Addr} {H H' : Hp} {a : Addr} {xs : List V} (e : Ex p H H') (h : SqL K H a xs) (hne : a ≠ p) : SqL K H' a xs := by
  rcases h with (h | ⟨o, h⟩) | h
  · exact .inl (.inl (e.keep _ _ hne h))
  · exact .inl (.inr ⟨o, e.keep _ _ hne h⟩)
  · exact .inr h
theorem Ex.seqT {K : PySem.W.Frag} {p : Addr} {H H' : Hp} {a : Addr} {xs : List V} (e : Ex p H H') (h : SqT K H a xs) (hne : a ≠ p) : SqT K H' a xs := by
  rcases h with (h | ⟨o, h⟩) | h
  · exact .inl (.inl (e.keep _ _ hne h))
  · exact .inl (.inr ⟨o, e.keep _ _ hne h⟩)
  · exact .inr h
theorem atI_int {ns : List Int} {i : Int} (h0 : 0 ≤ i) (h : i < (ns.map V.int).length) : ∃ x : Int, atI (ns.map V.int) i = some (.int x) := by
  obtain ⟨j, rfl⟩ : ∃ j : Nat, i = j := ⟨i.toNat, by omega⟩
  rw [List.length_map] at h
  have hj : j < ns.length := by omega
  exact ⟨ns[j], atI_nat (by rw [List.getElem?_map, List.getElem?_eq_getElem hj]; rfl)⟩
theorem atI_some {α : Type} {xs : List α} {r : Int} (h0 : 0 ≤ r) (h1 : r < (xs.length : Int)) : ∃ v, v ∈ xs ∧ xs[r.toNat]? = some v ∧ atI xs r = some v := by
  obtain ⟨j, rfl⟩ : ∃ j : Nat, r = j := ⟨r.toNat, by omega⟩
  have hj : j < xs.length := by omega
  exact ⟨xs[j], List.getElem_mem hj, by simp [hj], atI_nat (List.getElem?_eq_getElem hj)⟩
theorem perm_erase {α : Type} : ∀ {xs : List α} {k : Nat} {y : α}, xs[k]? = some y → (y :: xs.eraseIdx k).Perm xs
  | x :: xs, 0, y, h => by
    cases (show some x = some y from h)
    exact List.Perm.refl _
  | x :: xs, k + 1, y, h => by
    have ih := perm_erase (xs := xs) (k := k) (y := y) (by simpa using h)
    exact (List.Perm.swap x y _).trans (ih.cons x)
theorem seqIx {r : Int} {n : Nat} (h0 : 0 ≤ r) (h1 : r < n) : seqIndex? r n = some r.toNat := by
  unfold seqIndex?
  simp [show ¬ r < 0 by omega, h0, h1]
theorem join_signs (cs : List Nat) : (Txt.join "" (cs.map fun c => (⟨#[c]⟩ : Str))).cps.toList = cs := by
  rw [TL.join_eq]
  show TL.tl (Str.join "" (cs.map fun c => (⟨#[c]⟩ : Str))) = cs
  rw [TL.tl_join, List.map_map]
  have h : ∀ cs : List Nat, TL.joinL [] (cs.map (TL.tl ∘ fun c => (⟨#[c]⟩ : Str))) = cs := by
    intro cs
    induction cs with
    | nil => rfl
    | cons c cs ih =>
      cases cs with
      | nil => rfl
      | cons d r =>
        show [c] ++ ([] ++ TL.joinL [] ((d :: r).map (TL.tl ∘ fun c => (⟨#[c]⟩ : Str)))) = c :: d :: r
        rw [ih]; rfl
  exact h cs
/-! ### _law_word -/
def spDip : Sp := fun vs H Q _ => ∃ p n a b c, vs = [.ref p, .int n] ∧ H p = some (potO a b c) ∧ 0 < n ∧ n < 1000000 ∧ ∀ r a' b' c', 0 ≤ r → r < n → Q (.int r) (upd H p (potO a' b' c'))
def spFilled (K : PySem.W.Frag) : Sp := fun vs H Q _ => ∃ (a : Addr) (i : Int) (ns : List Int), vs = [.ref a, .int i] ∧ SqL K H a (ns.map V.int) ∧ 0 ≤ i ∧ i < 1000 ∧ ∀ q H', H q = none → Same H H' → Pot H' q → Q (.ref q) H'
def spChoose (K : PySem.W.Frag) : Sp := fun vs H Q _ => ∃ p x, vs = [.ref p, x] ∧ Pot H p ∧ ((∃ z : Str, x = .str z ∧ 0 < z.length ∧ z.length < 100000 ∧ ∀ c a' b' c', c ∈ z.cps.toList → Q (.str ⟨#[c]⟩) (upd H p (potO a' b' c'))) ∨
  (∃ l xs, x = .ref l ∧ l ≠ p ∧ SqL K H l xs ∧ 0 < xs.length ∧ xs.length < 100000 ∧ ∀ v a' b' c', v ∈ xs → Q v (upd H p (potO a' b' c'))))
end MN
/-! comprehensions with two for-clauses: the outer walk, the inner walk -/
namespace MN
open PySem PySem.Spec PyProof.Rows L2
section
variable {vs vs1 : List Nat} {σ σ2 : L2.St} {H1 : Hp} {D : Addr} {Qd : Hp → Prop} {g g1 : TG} {tt tt1 : TT} {te : TE} {wi1 : TI}
theorem lc2_out {J : It} {n : Nat} {G : Hp → Prop} {Y : Nat → Hp → V → Hp → Prop} (w : Walk J n G Y) (Pv : Nat → Hp → Prop) (h0 : Pv 0 (upd H1 D (.lst []))) (hG : ∀ i H, i ≤ n → Pv i H → G H)
    (hs : ∀ i x H H', i < n → Pv i H → Y i H x H' → g x (wipe σ vs) H' fun σ2 H2 => wipe σ2 vs = wipe σ vs ∧ tt σ2 H2 fun b H3 =>
      if b = true then wi1 σ2 H3 fun J1 H4 => ∃ W1 : Nat → Nat → Hp → Prop, (∃ m, W1 0 m H4) ∧ ∀ j k H, W1 j k H →
        (J1.stop j H ∧ Pv (i + 1) H) ∨ (J1.go j H ∧ ∃ Nx1 : Hp → Prop, (∀ H', Nx1 H' → ∃ k', k' < k ∧ W1 (j + 1) k' H') ∧ ∀ x H', J1.yld j H x H' → g1 x (wipe σ2 vs1) H' fun σ3 H5 => wipe σ3 vs1 = wipe σ2 vs1 ∧ tt1 σ3 H5 fun b H6 =>
          if b = true then te σ3 H6 fun y H7 => ∃ acc, H7 D = some (.lst acc) ∧ acc.length < sizeLine ∧ Nx1 (upd H7 D (.lst (acc ++ [y]))) else Nx1 H6)
      else Pv (i + 1) H3) (hd : ∀ H, Pv n H → Qd H) :
    ∃ W : Nat → Nat → Hp → Prop, (∃ m, W 0 m (upd H1 D (.lst []))) ∧ ∀ i m H, W i m H →
      (J.stop i H ∧ Qd H) ∨ (J.go i H ∧ ∃ Nx : Hp → Prop, (∀ H', Nx H' → ∃ m', m' < m ∧ W (i + 1) m' H') ∧ ∀ x H', J.yld i H x H' → g x (wipe σ vs) H' fun σ2 H2 => wipe σ2 vs = wipe σ vs ∧ tt σ2 H2 fun b H3 =>
        if b = true then wi1 σ2 H3 fun J1 H4 => ∃ W1 : Nat → Nat → Hp → Prop, (∃ m, W1 0 m H4) ∧ ∀ j k H, W1 j k H →
          (J1.stop j H ∧ Nx H) ∨ (J1.go j H ∧ ∃ Nx1 : Hp → Prop, (∀ H', Nx1 H' → ∃ k', k' < k ∧ W1 (j + 1) k' H') ∧ ∀ x H', J1.yld j H x H' → g1 x (wipe σ2 vs1) H' fun σ3 H5 => wipe σ3 vs1 = wipe σ2 vs1 ∧ tt1 σ3 H5 fun b H6 =>
            if b = true then te σ3 H6 fun y H7 => ∃ acc, H7 D = some (.lst acc) ∧ acc.length < sizeLine ∧ Nx1 (upd H7 D (.lst (acc ++ [y]))) else Nx1 H6)
        else Nx H3) := by
  refine ⟨fun i m H => m = n - i ∧ i ≤ n ∧ Pv i H, ⟨n, by simp, Nat.zero_le _, h0⟩, ?_⟩
  rintro i m H ⟨rfl, hi, p⟩
  have q := hG i H hi p
  by_cases hlt : i < n
  · exact .inr ⟨w.goes i H hlt q, Pv (i + 1), fun H' p' => ⟨n - (i + 1), by omega, rfl, hlt, p'⟩, fun x H' y => hs i x H H' hlt p (w.yields i H x H' hlt q y)⟩
  · obtain rfl : i = n := by omega
    exact .inl ⟨w.stops H q, hd H p⟩
theorem lc2_in {J1 : It} {n : Nat} {G : Hp → Prop} {Y : Nat → Hp → V → Hp → Prop} {H4 : Hp} {R : Hp → Prop} (w : Walk J1 n G Y) (Pv : Nat → Hp → Prop) (h0 : Pv 0 H4) (hG : ∀ i H, i ≤ n → Pv i H → G H)
    (hs : ∀ j x H H', j < n → Pv j H → Y j H x H' → g1 x (wipe σ2 vs1) H' fun σ3 H5 => wipe σ3 vs1 = wipe σ2 vs1 ∧ tt1 σ3 H5 fun b H6 =>
      if b = true then te σ3 H6 fun y H7 => ∃ acc, H7 D = some (.lst acc) ∧ acc.length < sizeLine ∧ Pv (j + 1) (upd H7 D (.lst (acc ++ [y]))) else Pv (j + 1) H6) (hd : ∀ H, Pv n H → R H) :
    ∃ W1 : Nat → Nat → Hp → Prop, (∃ m, W1 0 m H4) ∧ ∀ j k H, W1 j k H →
      (J1.stop j H ∧ R H) ∨ (J1.go j H ∧ ∃ Nx1 : Hp → Prop, (∀ H', Nx1 H' → ∃ k', k' < k ∧ W1 (j + 1) k' H') ∧ ∀ x H', J1.yld j H x H' → g1 x (wipe σ2 vs1) H' fun σ3 H5 => wipe σ3 vs1 = wipe σ2 vs1 ∧ tt1 σ3 H5 fun b H6 =>
        if b = true then te σ3 H6 fun y H7 => ∃ acc, H7 D = some (.lst acc) ∧ acc.length < sizeLine ∧ Nx1 (upd H7 D (.lst (acc ++ [y]))) else Nx1 H6) := by
  refine ⟨fun i m H => m = n - i ∧ i ≤ n ∧ Pv i H, ⟨n, by simp, Nat.zero_le _, h0⟩, ?_⟩
  rintro i m H ⟨rfl, hi, p⟩
  have q := hG i H hi p
  by_cases hlt : i < n
  · exact .inr ⟨w.goes i H hlt q, Pv (i + 1), fun H' p' => ⟨n - (i + 1), by omega, rfl, hlt, p'⟩, fun x H' y => hs i x H H' hlt p (w.yields i H x H' hlt q y)⟩
  · obtain rfl : i = n := by omega
    exact .inl ⟨w.stops H q, hd H p⟩
end
end MN
/-! all words in order: plain -/
namespace MN
open PySem
def e0 : Str := Str.ofString ""
def kids (zs : List Str) (w : Str) : List Str := zs.map fun z => w ++ z
def lvl (zs : List Str) : Nat → List Str
  | 0 => [e0]
  | n + 1 => (lvl zs n).flatMap (kids zs)
def allW (zs : List Str) : Nat → List Str
  | 0 => [e0]
  | n + 1 => allW zs n ++ lvl zs (n + 1)
def tot (m : Nat) : Nat → Nat
  | 0 => 1
  | n + 1 => tot m n + m ^ (n + 1)
theorem allW_succ (zs : List Str) (n : Nat) : allW zs (n + 1) = e0 :: (allW zs n).flatMap (kids zs) := by
  induction n with
  | zero => rfl
  | succ n ih =>
    show allW zs (n + 1) ++ lvl zs (n + 2) = _
    rw [show lvl zs (n + 2) = (lvl zs (n + 1)).flatMap (kids zs) from rfl]
    conv => lhs; rw [ih]
    rw [List.cons_append, ← List.flatMap_append]
    rfl
theorem lvl_length (zs : List Str) (n : Nat) : (lvl zs n).length = zs.length ^ n := by
  induction n with
  | zero => rfl
  | succ n ih =>
    show ((lvl zs n).flatMap (kids zs)).length = _
    rw [List.length_flatMap]
    have : ((lvl zs n).map fun a => (kids zs a).length) = (lvl zs n).map fun _ => zs.length := by
      apply List.map_congr_left
      intro a _
      simp [kids]
    have s : ∀ l : List Str, (l.map fun _ => zs.length).sum = l.length * zs.length := by
      intro l
      induction l with
      | nil => simp
      | cons a l ih2 => rw [List.map_cons, List.sum_cons, ih2, List.length_cons, Nat.succ_mul]; omega
    rw [this, s, ih, Nat.pow_succ]
theorem allW_length (zs : List Str) (n : Nat) : (allW zs n).length = tot zs.length n := by
  induction n with
  | zero => rfl
  | succ n ih =>
    show (allW zs n ++ lvl zs (n + 1)).length = tot zs.length n + zs.length ^ (n + 1)
    rw [List.length_append, ih, lvl_length]
theorem flat_get {α β : Type} (f : α → Str → β) (zs : List Str) (hm : 0 < zs.length) : ∀ (l : List α) (i : Nat), (l.flatMap fun w => zs.map (f w))[i]? = (l[i / zs.length]?).bind fun w => (zs[i % zs.length]?).map (f w) := by
  intro l
  induction l with
  | nil => intro i; simp
  | cons a l ih =>
    intro i
    rw [List.flatMap_cons]
    by_cases h : i < zs.length
    · rw [List.getElem?_append_left (by simpa using h), Nat.div_eq_of_lt h, Nat.mod_eq_of_lt h]
      simp
    · have h' : zs.length ≤ i := Nat.le_of_not_lt h
      rw [List.getElem?_append_right (by simpa using h'), List.length_map, ih]
      have e1 : i / zs.length = (i - zs.length) / zs.length + 1 := by
        rw [Nat.div_eq i zs.length, if_pos ⟨hm, h'⟩]
      have e2 : (i - zs.length) % zs.length = i % zs.length := (Nat.mod_eq_sub_mod h').symm
      rw [e1, e2, List.getElem?_cons_succ]
theorem allW_next {zs : List Str} (hm : 0 < zs.length) {n i : Nat} : (allW zs (n + 1))[i + 1]? = ((allW zs n)[i / zs.length]?).bind fun w => (zs[i % zs.length]?).map fun z => w ++ z := by
  rw [allW_succ, List.getElem?_cons_succ]
  exact flat_get (fun w z => w ++ z) zs hm _ _
theorem allW_zero (zs : List Str) (n : Nat) : (allW zs n)[0]? = some e0 := by
  cases n with
  | zero => rfl
  | succ n => rw [allW_succ]; rfl
/-- the law's own number: k rounds -/
def numW (zs : List Str) : Nat → Nat → Str → Str
  | 0, _, acc => acc
  | k + 1, i, acc => if 0 < i then numW zs k ((i - 1) / zs.length) ((zs[(i - 1) % zs.length]?).getD e0 ++ acc) else numW zs k i acc
theorem numW_zero (zs : List Str) (k : Nat) (acc : Str) : numW zs k 0 acc = acc := by
  induction k with
  | zero => rfl
  | succ k ih => show (if 0 < 0 then _ else _) = _; rw [if_neg (Nat.lt_irrefl 0)]; exact ih
theorem numW_ok {zs : List Str} (hm : 0 < zs.length) : ∀ (n k i : Nat) (w acc : Str), n ≤ k → (allW zs n)[i]? = some w → numW zs k i acc = w ++ acc := by
  intro n
  induction n with
  | zero =>
    intro k i w acc _ h
    match i, h with
    | 0, h =>
      have : w = e0 := (Option.some.inj h).symm
      rw [numW_zero, this]
      exact (Str.empty_append acc).symm
  | succ n ih =>
    intro k i w acc hk h
    match k, hk with
    | k + 1, hk =>
      match i, h with
      | 0, h =>
        rw [allW_zero] at h
        have : w = e0 := (Option.some.inj h).symm
        rw [numW_zero, this]
        exact (Str.empty_append acc).symm
      | i + 1, h =>
        rw [allW_next hm] at h
        obtain ⟨v, h1, h2⟩ := Option.bind_eq_some_iff.mp h
        obtain ⟨z, h3, h4⟩ := Option.map_eq_some_iff.mp h2
        show (if 0 < i + 1 then numW zs k ((i + 1 - 1) / zs.length) ((zs[(i + 1 - 1) % zs.length]?).getD e0 ++ acc) else _) = _
        rw [if_pos (Nat.succ_pos i), Nat.add_sub_cancel, h3, ih k _ v _ (by omega) h1, ← h4]
        exact (Str.append_assoc v z acc).symm
theorem allW_take (zs : List Str) (n : Nat) : (allW zs (n + 1)).take (tot zs.length n) = allW zs n := by
  show (allW zs n ++ lvl zs (n + 1)).take _ = _
  rw [← allW_length zs n]
  exact List.take_left' rfl
/-- ascending signs -/
structure SgnOk (zs : List Str) : Prop where
  asc : zs.Pairwise fun a b => a.cps.toList < b.cps.toList
  one : ∀ z ∈ zs, ∃ c ∈ ("abcde" : Str).cps.toList, z = ⟨#[c]⟩
  pos : 0 < zs.length
  le : zs.length ≤ 5
theorem cpsL_append (a b : Str) : (a ++ b).cps.toList = a.cps.toList ++ b.cps.toList := by
  show (a.cps ++ b.cps).toList = _
  simp
theorem strLen_app (a b : Str) : (a ++ b).length = a.length + b.length := Str.length_append a b
theorem lex_same (a : List Nat) {s t : List Nat} (h : s < t) : a ++ s < a ++ t := by
  induction a with
  | nil => exact h
  | cons x a ih => exact List.cons_lt_cons_iff.mpr (.inr ⟨rfl, ih⟩)
theorem lex_app : ∀ {a b : List Nat} {s t : List Nat}, a.length = b.length → a < b → a ++ s < b ++ t
  | [], [], _, _, _, h => absurd h (List.lt_irrefl _)
  | x :: a, y :: b, s, t, hl, h => by
    rcases List.cons_lt_cons_iff.mp h with h | ⟨h1, h2⟩
    · exact List.cons_lt_cons_iff.mpr (.inl h)
    · exact List.cons_lt_cons_iff.mpr (.inr ⟨h1, lex_app (by simpa using hl) h2⟩)
theorem one_len {zs : List Str} (h : SgnOk zs) {z : Str} (hz : z ∈ zs) : z.length = 1 := by
  obtain ⟨c, _, rfl⟩ := h.one z hz
  rfl
theorem lvl_len {zs : List Str} (h : SgnOk zs) : ∀ (n : Nat) (w : Str), w ∈ lvl zs n → w.length = n := by
  intro n
  induction n with
  | zero => intro w hw; rw [List.mem_singleton.mp hw]; rfl
  | succ n ih =>
    intro w hw
    obtain ⟨v, hv, hw⟩ := List.mem_flatMap.mp hw
    obtain ⟨z, hz, rfl⟩ := List.mem_map.mp hw
    rw [strLen_app, ih v hv, one_len h hz]
theorem lvl_asc {zs : List Str} (h : SgnOk zs) (n : Nat) : (lvl zs n).Pairwise fun a b => a.cps.toList < b.cps.toList := by
  induction n with
  | zero => exact List.pairwise_singleton _ _
  | succ n ih =>
    show ((lvl zs n).flatMap (kids zs)).Pairwise _
    refine List.pairwise_flatMap.mpr ⟨fun a ha => ?_, ?_⟩
    · refine List.pairwise_map.mpr (h.asc.imp fun {s t} hst => ?_)
      rw [cpsL_append, cpsL_append]
      exact lex_same _ hst
    · refine ih.imp_of_mem fun {a b} ha hb hab x hx y hy => ?_
      obtain ⟨s, hs, rfl⟩ := List.mem_map.mp hx
      obtain ⟨t, ht, rfl⟩ := List.mem_map.mp hy
      rw [cpsL_append, cpsL_append]
      refine lex_app ?_ hab
      have h1 := lvl_len h n a ha
      have h2 := lvl_len h n b hb
      have e1 : a.cps.toList.length = a.length := by simp [Str.length]
      have e2 : b.cps.toList.length = b.length := by simp [Str.length]
      omega
theorem allW_len {zs : List Str} (h : SgnOk zs) : ∀ (n : Nat) (w : Str), w ∈ allW zs n → w.length ≤ n := by
  intro n
  induction n with
  | zero => intro w hw; rw [List.mem_singleton.mp hw]; exact Nat.le_refl _
  | succ n ih =>
    intro w hw
    rcases List.mem_append.mp hw with hw | hw
    · have := ih w hw; omega
    · have := lvl_len h _ w hw; omega
theorem allW_asc {zs : List Str} (h : SgnOk zs) (n : Nat) : (allW zs n).Pairwise ahead := by
  induction n with
  | zero => exact List.pairwise_singleton _ _
  | succ n ih =>
    refine List.pairwise_append.mpr ⟨ih, (lvl_asc h (n + 1)).imp_of_mem fun {a b} ha hb hab => .inr ⟨?_, hab⟩, fun a ha b hb => .inl ?_⟩
    · rw [lvl_len h _ a ha, lvl_len h _ b hb]
    · have h1 := allW_len h n a ha
      have h2 := lvl_len h _ b hb
      omega
theorem lvl_word {zs : List Str} (h : SgnOk zs) : ∀ (n : Nat) (w : Str), w ∈ lvl zs n → isWordS w = true := by
  intro n
  induction n with
  | zero => intro w hw; rw [List.mem_singleton.mp hw]; rfl
  | succ n ih =>
    intro w hw
    obtain ⟨v, hv, hw⟩ := List.mem_flatMap.mp hw
    obtain ⟨z, hz, rfl⟩ := List.mem_map.mp hw
    obtain ⟨c, hc, rfl⟩ := h.one z hz
    unfold isWordS
    rw [cpsL_append, List.all_append, Bool.and_eq_true]
    refine ⟨ih v hv, ?_⟩
    simp [sgn, hc]
theorem allW_word {zs : List Str} (h : SgnOk zs) : ∀ (n : Nat) (w : Str), w ∈ allW zs n → isWordS w = true := by
  intro n
  induction n with
  | zero => intro w hw; rw [List.mem_singleton.mp hw]; rfl
  | succ n ih =>
    intro w hw
    rcases List.mem_append.mp hw with hw | hw
    · exact ih w hw
    · exact lvl_word h _ w hw
theorem ord_allW {zs ws : List Str} (h : SgnOk zs) {n : Nat} (hp : ws.Perm (allW zs n)) : ord ws = allW zs n :=
  sorted_one (ord_sorted ws) (allW_asc h n) fun x => mem_ord.trans hp.mem_iff
theorem tot_le {m n : Nat} (hm : m ≤ 5) (hn : n ≤ 8) : tot m n ≤ 488281 := by
  have mono : ∀ n, tot m n ≤ tot 5 n := by
    intro n
    induction n with
    | zero => exact Nat.le_refl _
    | succ n ih => exact Nat.add_le_add ih (Nat.pow_le_pow_left hm _)
  have up : ∀ k, tot 5 n ≤ tot 5 (n + k) := by
    intro k
    induction k with
    | zero => exact Nat.le_refl _
    | succ k ih => exact Nat.le_trans ih (Nat.le_add_right _ _)
  have := up (8 - n)
  rw [show n + (8 - n) = 8 by omega] at this
  exact Nat.le_trans (mono n) (Nat.le_trans this (by decide))
abbrev strsV (zs : List Str) : List L2.V := zs.map L2.V.str
end MN
/-! the drawn signs; slices: plain -/
namespace MN
open PySem PySem.Spec PyProof.Rows L2
def one (c : Nat) : Str := ⟨#[c]⟩
theorem signsOf_one (z : Str) : signsOf z = (z.cps.toList.map one).map V.str := by
  unfold signsOf
  rw [List.map_map]; rfl
def strOf : V → Str
  | .str z => z
  | _ => e0
theorem perm_strsP {ys : List V} {zs : List Str} (h : ys.Perm (strsV zs)) : ∃ ws : List Str, ys = strsV ws ∧ ws.Perm zs := by
  refine ⟨ys.map strOf, ?_, ?_⟩
  · show ys = (ys.map strOf).map V.str
    rw [List.map_map]
    have : ys.map (V.str ∘ strOf) = ys.map id := by
      apply List.map_congr_left
      intro y hy
      obtain ⟨z, _, rfl⟩ := List.mem_map.mp (h.mem_iff.mp hy)
      rfl
    rw [this, List.map_id]
  · have := h.map strOf
    rw [List.map_map] at this
    have e : zs.map (strOf ∘ V.str) = zs.map id := List.map_congr_left fun _ _ => rfl
    rw [e, List.map_id] at this
    exact this
theorem ltCps_one (c d : Nat) : ltCps (one c).cps.toList (one d).cps.toList = decide (c < d) := by
  show (decide (c < d) || (c == d && false)) = _
  simp
theorem rising1 : ∀ (cs : List Nat) (p : Nat), risingS (one p) (cs.map one) = true → (∀ c ∈ cs, p ≤ c) ∧ cs.Pairwise (· ≤ ·)
  | [], _, _ => ⟨fun _ h => (by cases h), List.Pairwise.nil⟩
  | c :: cs, p, h => by
    have h' : (!ltCps (one c).cps.toList (one p).cps.toList && risingS (one c) (cs.map one)) = true := h
    rw [Bool.and_eq_true, ltCps_one] at h'
    obtain ⟨h1, h2⟩ := h'
    have hpc : p ≤ c := by simpa using h1
    obtain ⟨h3, h4⟩ := rising1 cs c h2
    refine ⟨fun d hd => ?_, .cons h3 h4⟩
    rcases List.mem_cons.mp hd with rfl | hd
    · exact hpc
    · exact Nat.le_trans hpc (h3 d hd)
theorem sorted1 : ∀ (cs : List Nat), sortedS (cs.map one) = true → cs.Pairwise (· ≤ ·)
  | [], _ => .nil
  | c :: cs, h => by
    obtain ⟨h1, h2⟩ := rising1 cs c h
    exact .cons h1 h2
/-- some of the five signs, sorted -/
theorem sgn_drawn {ws zs : List Str} {k : Nat} (hw : ws.Perm (("abcde" : Str).cps.toList.map one)) (hk : 0 < k) (hz : zs.Perm (ws.take k)) (hs : sortedS zs = true) : SgnOk zs := by
  have hnd : (("abcde" : Str).cps.toList.map one).Nodup := by decide +kernel
  have hws : ws.Nodup := hw.nodup_iff.mpr hnd
  have hzs : zs.Nodup := hz.nodup_iff.mpr (hws.sublist (List.take_sublist _ _))
  have hmem : ∀ z ∈ zs, ∃ c ∈ ("abcde" : Str).cps.toList, z = one c := fun z hz' => by
    have h1 := List.mem_of_mem_take (hz.mem_iff.mp hz')
    obtain ⟨c, hc, rfl⟩ := List.mem_map.mp (hw.mem_iff.mp h1)
    exact ⟨c, hc, rfl⟩
  have hl5 : ws.length = 5 := hw.length_eq
  have hzl : zs.length = min k 5 := by rw [hz.length_eq, List.length_take, hl5]
  obtain ⟨cs, rfl⟩ : ∃ cs : List Nat, zs = cs.map one := by
    refine ⟨zs.map fun z => z.cps.toList.headD 0, ?_⟩
    rw [List.map_map]
    have : zs.map (one ∘ fun z => z.cps.toList.headD 0) = zs.map id := by
      apply List.map_congr_left
      intro z hz'
      obtain ⟨c, _, rfl⟩ := hmem z hz'
      rfl
    rw [this, List.map_id]
  refine ⟨?_, hmem, by omega, by omega⟩
  have h1 := sorted1 cs hs
  have h2 : cs.Pairwise (· ≠ ·) := by
    have h3 : (cs.map one).Pairwise (· ≠ ·) := hzs
    rw [List.pairwise_map] at h3
    exact h3.imp fun {a b} h e => h (by rw [e])
  rw [List.pairwise_map]
  refine List.Pairwise.imp₂ (fun a b h h' => ?_) h1 h2
  show [a] < [b]
  exact List.cons_lt_cons_iff.mpr (.inl (Nat.lt_of_le_of_ne h h'))
theorem sgn_casesP {c : Nat} (h : sgn c = true) : c = 97 ∨ c = 98 ∨ c = 99 ∨ c = 100 ∨ c = 101 := by
  have h1 : c ∈ ("abcde" : Str).cps.toList := of_decide_eq_true h
  have h2 : ("abcde" : Str).cps.toList = [97, 98, 99, 100, 101] := by decide +kernel
  rw [h2] at h1
  simpa using h1
theorem word_okP {z : Str} (h : isWordS z = true) : PyData.strOk z = true := by
  unfold PyData.strOk
  rw [Array.all_eq_true_iff_forall_mem]
  intro c hc
  have := List.all_eq_true.mp h c (by simpa using hc)
  rcases sgn_casesP this with q | q | q | q | q <;> subst q <;> decide
theorem words_shapeP {zs : List Str} (h : ∀ z ∈ zs, isWordS z = true) : ∀ d ∈ zs.map PyData.str, d.canLay0 = true ∧ d.depth ≤ 60 := fun d hd => by
  obtain ⟨z, hz, rfl⟩ := List.mem_map.mp hd
  exact ⟨by rw [PyData.canLay0]; exact word_okP (h z hz), by rw [PyData.depth]; omega⟩
theorem cut_to (zs : List Str) {k : Int} (hk : 0 ≤ k) : cutV (strsV zs) none (some k) = strsV (zs.take k.toNat) := by
  have e : HT.sIx (strsV zs).length (strsV zs).length (some k) = min k.toNat zs.length := by
    show (if k < 0 then (k + ((strsV zs).length : Int)).toNat else min k.toNat (strsV zs).length) = _
    rw [if_neg (by omega), List.length_map]
  unfold cutV
  rw [e]
  show ((strsV zs).drop 0).take (min k.toNat zs.length - 0) = _
  rw [List.drop_zero, Nat.sub_zero, ← List.map_take]
  congr 1
  by_cases h : k.toNat ≤ zs.length
  · rw [Nat.min_eq_left h]
  · rw [Nat.min_eq_right (by omega), List.take_length, List.take_of_length_le (by omega)]
theorem cut_parts (zs : List Str) : ∃ m, cutV (strsV zs) (some (-30)) none = strsV (zs.drop m) ∧ cutV (strsV zs) none (some (-30)) = strsV (zs.take m) := by
  have e : ∀ d, HT.sIx (strsV zs).length d (some (-30)) = zs.length - 30 := fun d => by
    show (if (-30 : Int) < 0 then ((-30) + ((strsV zs).length : Int)).toNat else min (-30 : Int).toNat (strsV zs).length) = _
    rw [if_pos (by decide), List.length_map]
    omega
  refine ⟨zs.length - 30, ?_, ?_⟩
  · unfold cutV
    rw [e]
    show ((strsV zs).drop (zs.length - 30)).take ((strsV zs).length - (zs.length - 30)) = _
    rw [← List.map_drop, List.take_of_length_le]
    rw [List.length_map, List.length_drop, List.length_map]
    omega
  · unfold cutV
    rw [e]
    show ((strsV zs).drop 0).take (zs.length - 30 - 0) = _
    rw [List.drop_zero, Nat.sub_zero, ← List.map_take]
theorem shW {zs : List Str} (h : ∀ z ∈ zs, isWordS z = true) : SeqAt.shaped (.list (zs.map PyData.str)) = true := shapedL (words_shapeP h)
theorem shWT {zs : List Str} (h : ∀ z ∈ zs, isWordS z = true) : SeqAt.shaped (.tuple (zs.map PyData.str)) = true := shapedT (words_shapeP h)
theorem greatest_at {m : Nat} (h1 : 0 < m) (h5 : m ≤ 5) : ∃ g : Nat, atI [V.int 9, .int 9, .int 6, .int 5, .int 5] ((m : Int) - 1) = some (.int (g : Nat)) ∧ 0 < g ∧ g ≤ 9 ∧ ∀ n, n < g → tot m n ≤ 1000 := by
  have hm : m = 1 ∨ m = 2 ∨ m = 3 ∨ m = 4 ∨ m = 5 := by omega
  rcases hm with rfl | rfl | rfl | rfl | rfl
  · exact ⟨9, rfl, by decide, by decide, by decide⟩
  · exact ⟨9, rfl, by decide, by decide, by decide⟩
  · exact ⟨6, rfl, by decide, by decide, by decide⟩
  · exact ⟨5, rfl, by decide, by decide, by decide⟩
  · exact ⟨5, rfl, by decide, by decide, by decide⟩
end MN
/-! list(text) -/
namespace MN
open PySem PySem.Spec PyProof.Rows L2
section
variable {X : Cx}
/-- list(text) -/
theorem call_listS (hc : X.calm = true) : CallR X (.type "list") (fun xs H Q => ∃ z : Str, xs = [.str z] ∧ z.length ≤ 1000000 ∧ ∀ l, H l = none → Q (.ref l) (upd H l (.lst (signsOf z)))) := by
  intro pins s σ H xs us Q I r h
  obtain ⟨z, rfl, hz, q⟩ := h
  obtain ⟨u, rfl, t, rfl⟩ := vals1 r
  have hz1 : z.cps.size ≤ sizeLine := Nat.le_trans hz (by decide)
  refine PySem.call_list_str (hn := hz1) (I.ok.hd hc) z t fun h' tk acc' c' hk hS hacc => ?_
  have rv : Vals (signsOf z) acc'.toList := by
    have e := vals_of_get acc'.toList (fun j => V.str ⟨#[(z.cps[j]?).getD 0]⟩) fun j u hj => by
      obtain ⟨c, uu, h1, h2⟩ := hacc.2 j u (by simpa using hj)
      rw [h1, h2]
      exact ⟨_, rfl⟩
    have e2 : (List.range acc'.toList.length).map (fun j => V.str ⟨#[(z.cps[j]?).getD 0]⟩) = signsOf z := by
      apply List.ext_getElem?
      intro i
      unfold signsOf
      rw [List.getElem?_map, List.getElem?_map]
      have hl : acc'.toList.length = z.cps.size := by simpa using hacc.1
      by_cases hi : i < z.cps.size
      · rw [List.getElem?_range (by omega)]
        simp [hi]
      · rw [List.getElem?_eq_none (by simpa [hl] using Nat.le_of_not_lt hi), List.getElem?_eq_none (by simpa using Nat.le_of_not_lt hi)]
        rfl
    rw [e2] at e
    exact e
  refine ⟨.ref s.heap.objs.size, _, I.laid (t' := tk) hk (Nat.le_refl _) (show ObjOk X.prog X.w _ h' _ (.lst (signsOf z)) from ⟨?_, acc'.toList, c', rv, hS⟩), rfl, q _ (I.hok.fresh (Nat.le_refl _))⟩
  have : (signsOf z).length = z.cps.size := by simp [signsOf]
  omega
def ItemsL (K : PySem.W.Frag) (H : Hp) (x : V) (xs : List V) : Prop := (∃ l, x = .ref l ∧ SqL K H l xs) ∨ ∃ z : Str, x = .str z ∧ z.length ≤ 1000000 ∧ xs = signsOf z
theorem call_listI (hc : X.calm = true) : CallR X (.type "list") (fun vs H Q => ∃ x xs, vs = [x] ∧ ItemsL X.K H x xs ∧ ∀ l, H l = none → Q (.ref l) (upd H l (.lst xs))) := by
  intro pins s σ H vs us Q I r h
  obtain ⟨x, xs, rfl, hx, q⟩ := h
  rcases hx with ⟨l, rfl, hl⟩ | ⟨z, rfl, hz, rfl⟩
  · exact call_list_of pins s σ H _ us Q I r ⟨l, xs, rfl, .inl hl, q⟩
  · exact call_listS hc pins s σ H _ us Q I r ⟨z, rfl, hz, q⟩
end
section
/-- what is shuffled: a list, or a text's signs -/
def Items (K : PySem.W.Frag) (H : Hp) (p : Addr) (x : V) (xs : List V) : Prop := (∃ l, x = .ref l ∧ l ≠ p ∧ SqL K H l xs) ∨ (∃ z : Str, x = .str z ∧ xs = signsOf z)
theorem signs_len (z : Str) : (signsOf z).length = z.length := by simp [signsOf, Str.length]
end
end MN
/-! dicts whose keys are tuples: list(d.items()), dict(pairs), the walk over d.items() -/
namespace MN
open PySem PySem.Spec PyProof.Rows L2
/-- things laid over a tracked heap -/
def overH (H : Hp) (l : List (Addr × HO)) : Hp := fun b => match l.lookup b with | some o => some o | none => H b
theorem over_in {H : Hp} {l : List (Addr × HO)} {b : Addr} {o : HO} (h : l.lookup b = some o) : overH H l b = some o := by unfold overH; rw [h]
theorem over_out {H : Hp} {l : List (Addr × HO)} {b : Addr} (h : l.lookup b = none) : overH H l b = H b := by unfold overH; rw [h]
theorem lookup_zip {as : List Addr} {os : List HO} (nd : as.Nodup) {i : Nat} {a : Addr} {o : HO} (h1 : as[i]? = some a) (h2 : os[i]? = some o) : (as.zip os).lookup a = some o := by
  induction as generalizing os i with
  | nil => cases h1
  | cons x as ih =>
    obtain ⟨hx, nd'⟩ := List.nodup_cons.mp nd
    cases os with
    | nil => cases h2
    | cons y os =>
      cases i with
      | zero =>
        have e1 : x = a := Option.some.inj h1
        have e2 : y = o := Option.some.inj h2
        subst e1 e2
        rw [List.zip_cons_cons, List.lookup_cons_self]
      | succ i =>
        have h1' : as[i]? = some a := h1
        have hne : (a == x) = false := beq_eq_false_iff_ne.mpr fun e => hx (by rw [← e]; exact List.mem_of_getElem? h1')
        rw [List.zip_cons_cons, List.lookup_cons, hne]
        exact ih nd' h1' h2
theorem lookup_mem {α β : Type} [BEq α] [LawfulBEq α] : ∀ {l : List (α × β)} {a : α} {b : β}, l.lookup a = some b → (a, b) ∈ l
  | (x, y) :: l, a, b, h => by
    rw [List.lookup_cons] at h
    by_cases e : a = x
    · subst e
      rw [beq_self_eq_true] at h
      cases h
      exact List.mem_cons_self
    · rw [beq_eq_false_iff_ne.mpr e] at h
      exact List.mem_cons_of_mem _ (lookup_mem h)
theorem zip_of {as : List Addr} {os : List HO} {a : Addr} {o : HO} (h : (as.zip os).lookup a = some o) : ∃ i : Nat, as[i]? = some a ∧ os[i]? = some o := by
  have hm := lookup_mem h
  obtain ⟨i, hi⟩ := List.mem_iff_getElem?.mp hm
  obtain ⟨h1, h2⟩ := List.getElem?_zip_eq_some.mp hi
  exact ⟨i, h1, h2⟩
section
variable {X : Cx} {pins : List (Addr × Obj)} {σ : L2.St} {H : Hp} {s : Shared}
theorem Inv_over {l : List (Addr × HO)} {h' : Heap} {tk : Nat} (I : L2.Inv X pins σ H s) (hk : ∀ b o, s.heap.get? b = some o → h'.get? b = some o) (fresh : ∀ b o, l.lookup b = some o → s.heap.objs.size ≤ b)
    (ok : ∀ b o, l.lookup b = some o → ObjOk X.prog X.w (overH H l) h' b o) : L2.Inv X pins σ (overH H l) { s with heap := h', toks := tk } := by
  have up : ∀ b u, H b = some u → overH H l b = some u := fun b u e => by
    cases q : l.lookup b with
    | none => rw [over_out q]; exact e
    | some o => rw [I.hok.fresh (fresh b o q)] at e; cases e
  refine I.call' (ch := []) rfl ⟨fun b o q _ _ _ => hk b o q, fun b o q _ _ _ => ⟨o.slots, hk b o q⟩, fun b o q n _ => ?_, fun b o q _ => ⟨o, hk b o q⟩, fun b xs q => up b _ q, fun b o u q => up b _ q, fun b ps q => ⟨#[], by rw [up b _ q]; simp⟩⟩ (fun b u q => ?_) I.bare fun b z => by simp at z
  · cases z : l.lookup b with
    | none => rw [over_out z]; exact n
    | some u => exact absurd (Nat.lt_of_lt_of_le (Heap.lt_size q) (fresh b u z)) (Nat.lt_irrefl _)
  · cases z : l.lookup b with
    | none =>
      rw [over_out z] at q
      exact (I.hok b u q).stay (fun d v _ y => hk d v y) (fun d y => up d _ y) fun d xs y => up d _ y
    | some o =>
      rw [over_in z] at q
      cases q
      exact ok b _ z
end
/-- each t is the tuple of a key and its value -/
def PairsT (H : Hp) : List Addr → List (List Key × V) → Prop := Paired fun t kv => ∃ q, H t = some (.tup [.ref q, kv.2]) ∧ H q = some (.tup (kv.1.map kV))
/-! ### list(d.items()) -/
section
variable {prog : Program} {w : World} {A : Around} {E : Value → Shared → Prop} {s : Shared} {r d : Addr} {es : Array DictEntry} {ep : Nat}
theorem list_items_raw {Q : Value → Shared → Prop} (hh : A.handled = none) (hv : s.heap.IsItemsView r d) (hm : DT.Raw s.heap d es ep) (hn : es.size ≤ sizeLine)
    (hQ : ∀ h' tk acc c as, (∀ b o, s.heap.get? b = some o → h'.get? b = some o) → h'.get? s.heap.objs.size = some { cls := .type "list", dict := none, data := .seq acc c, slots := #[] } → as.length = es.size → DT.Made es s.heap.objs.size h' as →
      acc.toList = as.map Value.ref → Q (.ref s.heap.objs.size) { s with heap := h', toks := tk }) :
    wpAny (model prog w) A (call (.type "list") [.ref r]) Q E s := by
  refine callType_codes (Q₁ := fun obj s₁ => obj = .ref s.heap.objs.size ∧ s₁ = { s with heap := s.heap.push { cls := .type "list", data := .seq #[] } }) PySem.F.called_list (PySem.F.typeCall_list_1 _) PySem.F.entry_list_init
    (code_list_new _ ⟨rfl, rfl⟩) fun obj s₁ h₁ => ?_
  obtain ⟨rfl, rfl⟩ := h₁
  have hS : (s.heap.push { cls := .type "list", data := .seq #[] }).get? s.heap.objs.size = some { cls := .type "list", data := .seq #[] } := Heap.get?_push_size _ rfl
  have hr : r < s.heap.objs.size := let ⟨_, ho, _⟩ := hv; Heap.lt_size ho
  have hd : d < s.heap.objs.size := hm.lt
  refine ⟨⟨_, hS, rfl⟩, PySem.F.args_list_init_2 _ _, ?_⟩
  show wpAny _ A.in1.in1 (do let old ← Builtin.List.listItems (.ref s.heap.objs.size); Builtin.List.listUpdate (.ref s.heap.objs.size) (fun _ => #[]); letGo old.toList.reverse; Builtin.List.listExtendWith (.ref s.heap.objs.size) (.ref r) .none) _ _ _
  refine wpAny_bind ?_
  unfold Builtin.List.listItems
  refine wpAny_bind (wpAny_seqItems hS rfl (wpAny_pure ?_))
  show wpAny _ _ (updateSeq s.heap.objs.size (fun _ => #[]) >>= fun _ => letGo (#[] : Array Value).toList.reverse >>= fun _ => Builtin.List.listExtendWith (.ref s.heap.objs.size) (.ref r) .none) _ _ _
  refine wpAny_bind (wpAny_updateSeq hS rfl ?_)
  have hS₂ := Heap.get?_update_self (Obj.mapSeq (fun _ => (#[] : Array Value))) hS rfl
  have oth : ∀ b o, b ≠ s.heap.objs.size → (s.heap.push { cls := .type "list", data := .seq #[] }).get? b = some o → ((s.heap.push { cls := .type "list", data := .seq #[] }).update s.heap.objs.size (Obj.mapSeq (fun _ => (#[] : Array Value)))).get? b = some o :=
    fun b o hb e => (Heap.get?_update_other _ _ (Ne.symm hb)).trans e
  have up : ∀ b o, s.heap.get? b = some o → ((s.heap.push { cls := .type "list", data := .seq #[] }).update s.heap.objs.size (Obj.mapSeq (fun _ => (#[] : Array Value)))).get? b = some o := fun b o e => oth b o (Nat.ne_of_lt (Heap.lt_size e)) (Heap.get?_push_of_some _ e)
  refine wpAny_bind (wpAny_letGo ?_)
  refine DT.extI (A := A.in1) (es := es) (ep := ep) hh (let ⟨o, ho, x⟩ := hv; ⟨o, up r o ho, x⟩) (hm.at' fun o e => up d o e) _ (Nat.ne_of_gt hr) (Nat.ne_of_lt hd) .none _ hS₂ (fun h' tk acc c as hk hS' hl hG hacc => ?_) hn
  exact ⟨rfl, hQ h' tk acc c as (fun b o e => hk b o (Nat.ne_of_lt (Heap.lt_size e)) (up b o e)) hS' hl (hG.low (Nat.le_of_lt (Heap.lt_size hS₂))) hacc⟩
end
def rItemsLT : V → Hp → VK → Prop := fun x H Q => ∃ (d : Addr) (kvs : List (List Key × V)), x = .ref d ∧ H d = some (.dT kvs) ∧
  ∀ (H' : Hp) (p : Addr) (ts : List Addr), Same H H' → H p = none → H' p = some (.lst (ts.map V.ref)) → PairsT H' ts kvs → Q (.ref p) H'
def tListItemsT (te : TE) : TE := fun σ H Q => te σ H fun x H1 => rItemsLT x H1 Q
theorem paired_of {α β : Type} {F : α → β → Prop} : ∀ {xs : List α} {ys : List β}, xs.length = ys.length → (∀ (i : Nat) (x : α) (y : β), xs[i]? = some x → ys[i]? = some y → F x y) → Paired F xs ys
  | [], [], _, _ => .nil
  | [], _ :: _, h, _ => by cases h
  | _ :: _, [], h, _ => by cases h
  | x :: xs, y :: ys, h, hF => .cons (hF 0 x y rfl rfl) (paired_of (Nat.succ.inj h) fun i a b h1 h2 => hF (i + 1) a b h1 h2)
section
variable {X : Cx} {e : Expr} {te : TE} {p apos cpos pos : Pos}
theorem pe_listItemsT (hc : X.calm = true) (he : PE X e te) (hg : Gl X "list") (hm : X.mg "list" = none) (hv : bootBuiltins "list" = some (.type "list")) (hbase : attributeBase e "items" X.env (eval e X.env) = eval e X.env := by rfl) (hline : (apos.endLine == cpos.line) = true := by rfl)
    (hs : starEach [.Call (.Attribute e "items" apos) [] [] cpos] X.env = (false, eval (.Call (.Attribute e "items" apos) [] [] cpos) X.env) :: starEach [] X.env := by rfl) :
    PE X (.Call (.Name "list" p) [.Call (.Attribute e "items" apos) [] [] cpos] [] pos) (tListItemsT te) := by
  refine ⟨fun pins s σ H Q I hq => ?_⟩
  refine wpAny_Call_Name_kw (ld_blt I hg hm hv ?_)
  refine PyProof.Rows.callWith_type1 ?_ hs rfl
  rw [hs]
  show wpAny _ _ (spliced ((false, eval (.Call (.Attribute e "items" apos) [] [] cpos) X.env) :: backTo pos (starEach [] X.env))) _ _ s
  refine Calls.spliced_cons ?_
  refine wpAny_Call_method (T := "dict") (id := "dict.items") hbase rfl hline F.plainAttrs_dict F.slot_dict_items F.type_dict_items (thn (he.run pins s σ H _ I hq) fun u s1 ⟨x, H1, I1, rx, d, kvs, ex, hd, q⟩ => ?_)
  subst ex
  obtain rfl : u = Value.ref d := rx
  obtain ⟨z, hs0, xs, rel, o, es, ep, ho, hx, hdat, hes, his, hnd⟩ := dt_of I1.hok hd
  have raw : DT.Raw s1.heap d es ep := ⟨o, ho, hx, hdat⟩
  have lx : kvs.length = xs.length := Paired.length rel
  have le : es.size = xs.length := size_of_entries hes
  have I2 : L2.Inv X pins σ H1 { s1 with heap := s1.heap.push { cls := .type "dict_items", data := .fields #[.ref d] } } := I1.kept (t' := s1.toks) fun b ob q => Heap.get?_push_of_some _ q
  refine ⟨raw.typeIs, dictOfH_noDict (knd := tupleKind (mixKind X.prog X.w)) ⟨o, es, ep, ho, hx, hdat, hes, his, hnd⟩, ?_⟩
  show wpAny _ _ (callWith cpos (.builtin "dict.items") [.ref d] [] []) _ X.xe s1
  refine Calls.callWith_builtin rfl (PySem.evalArgs_none (DT.callItems hs0 raw ?_))
  refine Calls.spliced_nil ?_
  refine list_items_raw (I1.ok.hd hc) (r := s1.heap.objs.size) ⟨_, Heap.get?_push_size _ rfl, rfl, rfl⟩ (raw.push _) (by omega) fun h' tk acc c as hk hS hl hG hacc => ?_
  have la : as.length = kvs.length := by omega
  have nd : as.Nodup := List.Pairwise.imp (fun {a b} (h : a < b) => Nat.ne_of_lt h) hG.rise
  let S := (s1.heap.push { cls := .type "dict_items", data := .fields #[.ref d] }).objs.size
  let os : List HO := (kvs.zip xs).map fun z => HO.tup [.ref z.2.2.1, z.1.2]
  let l : List (Addr × HO) := (S, .lst (as.map V.ref)) :: as.zip os
  have hSn : S ∉ as := fun z => Nat.lt_irrefl _ (hG.above _ z)
  have osAt : ∀ (i : Nat) (kv : List Key × V) (x : List Key × Addr × Value), kvs[i]? = some kv → xs[i]? = some x → os[i]? = some (HO.tup [.ref x.2.1, kv.2]) := fun i kv x h1 h2 => by
    show ((kvs.zip xs).map _)[i]? = _
    rw [List.getElem?_map, show (kvs.zip xs)[i]? = some (kv, x) from List.getElem?_zip_eq_some.mpr ⟨h1, h2⟩]; rfl
  have lS : l.lookup S = some (.lst (as.map V.ref)) := List.lookup_cons_self
  have lT : ∀ (i : Nat) (a : Addr) (kv : List Key × V) (x : List Key × Addr × Value), as[i]? = some a → kvs[i]? = some kv → xs[i]? = some x → l.lookup a = some (.tup [.ref x.2.1, kv.2]) := fun i a kv x h0 h1 h2 => by
    have hne : (a == S) = false := beq_eq_false_iff_ne.mpr fun e => hSn (by rw [← e]; exact List.mem_of_getElem? h0)
    show List.lookup a ((S, _) :: as.zip os) = _
    rw [List.lookup_cons, hne]
    exact lookup_zip nd h0 (osAt i kv x h1 h2)
  have lOf : ∀ b o, l.lookup b = some o → (b = S ∧ o = .lst (as.map V.ref)) ∨ ∃ (i : Nat) (kv : List Key × V) (x : List Key × Addr × Value), as[i]? = some b ∧ kvs[i]? = some kv ∧ xs[i]? = some x ∧ o = .tup [.ref x.2.1, kv.2] := fun b o h => by
    by_cases hb : b = S
    · subst hb
      rw [lS] at h
      exact .inl ⟨rfl, (Option.some.inj h).symm⟩
    · have hne : (b == S) = false := beq_eq_false_iff_ne.mpr hb
      have h' : (as.zip os).lookup b = some o := by
        have h2 : List.lookup b ((S, HO.lst (as.map V.ref)) :: as.zip os) = some o := h
        rw [List.lookup_cons, hne] at h2
        exact h2
      obtain ⟨i, h1, h2⟩ := zip_of h'
      obtain ⟨z, h3, h4⟩ := Option.map_eq_some_iff.mp ((List.getElem?_map ..).symm.trans h2)
      obtain ⟨h5, h6⟩ := List.getElem?_zip_eq_some.mp h3
      exact .inr ⟨i, z.1, z.2, h1, h5, h6, h4.symm⟩
  have fresh : ∀ b o, l.lookup b = some o → S ≤ b := fun b o h => by
    rcases lOf b o h with ⟨rfl, _⟩ | ⟨i, kv, x, h1, _⟩
    · exact Nat.le_refl _
    · exact Nat.le_of_lt (hG.above b (List.mem_of_getElem? h1))
  have J : L2.Inv X pins σ (overH H1 l) { s1 with heap := h', toks := tk } := by
    refine Inv_over (s := { s1 with heap := s1.heap.push { cls := .type "dict_items", data := .fields #[.ref d] } }) I2 hk fresh fun b o h => ?_
    rcases lOf b o h with ⟨rfl, rfl⟩ | ⟨i, kv, x, h1, h2, h3, rfl⟩
    · refine ⟨by rw [List.length_map]; omega, acc.toList, c, by rw [hacc]; exact LiI.vals_refs as, ?_⟩
      rw [Array.toArray_toList]; exact hS
    · obtain ⟨en, e1, e2⟩ := hG.pairs i b h1
      have e3 := entry_at hes i
      rw [e1, h3] at e3
      have e4 : en = entryOfKey (tupleKind (mixKind X.prog X.w)) x := Option.some.inj e3
      obtain ⟨y, hy, r1, r2, r3⟩ := L2.DX.pget rel h3
      rw [h2] at hy
      cases hy
      rw [e4] at e2
      exact ⟨by show 2 ≤ sizeLine; decide, [Value.ref x.2.1, x.2.2], .cons rfl (.cons r3 .nil), ⟨_, e2, rfl, _, rfl⟩⟩
  have up : Same H1 (overH H1 l) := fun b u e => by
    cases q : l.lookup b with
    | none => rw [over_out q]; exact e
    | some o => rw [I2.hok.fresh (fresh b o q)] at e; cases e
  refine ⟨.ref S, overH H1 l, J, rfl, q _ S as up (I2.hok.fresh (Nat.le_refl _)) (over_in lS) (paired_of la fun i t kv h1 h2 => ?_)⟩
  obtain ⟨x, hx1, r1, r2, r3⟩ := LiI.paired_get rel h2
  exact ⟨x.2.1, over_in (lT i t kv x h1 h2 hx1), up _ _ r2⟩
end
/-! ### dict(pairs) -/
theorem stored_all {ps : List (List Key × Addr × Value)} : ∀ (acc : List (List Key × Addr × Value)), ((acc ++ ps).map (·.1)).Nodup → storedAllH acc ps = acc ++ ps := by
  induction ps with
  | nil => intro acc _; rw [List.append_nil]; rfl
  | cons p ps ih =>
    intro acc hn
    have hnew : atKey acc p.1 = none := by
      cases q : atKey acc p.1 with
      | none => rfl
      | some z =>
        exfalso
        unfold atKey at q
        obtain ⟨x, hx, _⟩ := Option.map_eq_some_iff.mp q
        have h1 := List.mem_of_find?_eq_some hx
        have h2 : x.1 = p.1 := by simpa using List.find?_some hx
        rw [List.map_append, List.map_cons] at hn
        have h3 := (List.nodup_append.mp hn).2.2 x.1 (List.mem_map.mpr ⟨x, h1, rfl⟩) p.1 List.mem_cons_self
        exact h3 h2
    show storedAllH (storedH acc p.1 p.2.1 p.2.2) ps = _
    rw [storedH_new hnew]
    have e : acc ++ p :: ps = (acc ++ [(p.1, p.2.1, p.2.2)]) ++ ps := by simp
    rw [ih _ (by rw [← e]; exact hn), e]
def rDictPT : List V → Hp → VK → Prop := fun vs H Q => ∃ (a : Addr) (ts : List Addr) (kvs : List (List Key × V)), vs = [.ref a] ∧ H a = some (.lst (ts.map V.ref)) ∧ PairsT H ts kvs ∧ (kvs.map (·.1)).Nodup ∧ ∀ p, H p = none → Q (.ref p) (upd H p (.dT kvs))
theorem call_dictPT {X : Cx} (hcalm : X.calm = true) (hu : X.A.units + 64 < cLine) : CallR X (.type "dict") rDictPT := by
  intro pins s σ H xs us Q I r q
  obtain ⟨a, ts, kvs, rfl, ha, hp, hnd, q⟩ := q
  obtain ⟨u, rfl, rx⟩ := vals1 r
  cases rx
  obtain ⟨hz, its, n, rv, ho⟩ := I.hok a _ ha
  have ei := refs_at rv
  subst ei
  rw [List.length_map] at hz
  have lk : ts.length = kvs.length := Paired.length hp
  -- what stands at each pair
  have at_ : ∀ (i : Nat) (t : Addr) (kv : List Key × V), ts[i]? = some t → kvs[i]? = some kv → ∃ (b : Addr) (v : Value), H b = some (.tup (kv.1.map kV)) ∧ RelV kv.2 v ∧ IsTup s.heap t #[.ref b, v] := fun i t kv h1 h2 => by
    obtain ⟨kv', e, qa, h3, h4⟩ := LiI.paired_get hp h1
    rw [h2] at e
    cases e
    obtain ⟨_, its2, r2, ht⟩ := I.hok t _ h3
    cases r2 with
    | cons ra rb =>
      cases rb with
      | cons rc rd =>
        cases rd
        cases ra
        exact ⟨qa, _, h4, rc, ht⟩
  have ch : ∀ i : Fin ts.length, ∃ x : Addr × Value, H x.1 = some (.tup ((kvs[i.1]'(by omega)).1.map kV)) ∧ RelV (kvs[i.1]'(by omega)).2 x.2 ∧ IsTup s.heap ts[i.1] #[.ref x.1, x.2] := fun i => by
    obtain ⟨b, v, h1, h2, h3⟩ := at_ i.1 ts[i.1] (kvs[i.1]'(by omega)) (List.getElem?_eq_getElem _) (List.getElem?_eq_getElem _)
    exact ⟨(b, v), h1, h2, h3⟩
  let f : Fin ts.length → Addr × Value := fun i => Classical.choose (ch i)
  have hf : ∀ i : Fin ts.length, H (f i).1 = some (.tup ((kvs[i.1]'(by omega)).1.map kV)) ∧ RelV (kvs[i.1]'(by omega)).2 (f i).2 ∧ IsTup s.heap ts[i.1] #[.ref (f i).1, (f i).2] := fun i => Classical.choose_spec (ch i)
  let ps : List (List Key × Addr × Value) := List.ofFn fun i : Fin ts.length => ((kvs[i.1]'(by omega)).1, (f i).1, (f i).2)
  have psl : ps.length = ts.length := List.length_ofFn
  have psAt : ∀ (i : Nat) (hi : i < ts.length), ps[i]? = some ((kvs[i]'(by omega)).1, (f ⟨i, hi⟩).1, (f ⟨i, hi⟩).2) := fun i hi => by
    rw [List.getElem?_eq_getElem (by omega), List.getElem_ofFn]
  have kt : KT H kvs ps := paired_of (by omega) fun i kv x h1 h2 => by
    have hi : i < ts.length := by have := (List.getElem?_eq_some_iff.mp h1).1; omega
    rw [psAt i hi] at h2
    cases h2
    obtain ⟨hi', e⟩ := List.getElem?_eq_some_iff.mp h1
    subst e
    exact ⟨rfl, (hf ⟨i, hi⟩).1, (hf ⟨i, hi⟩).2.1⟩
  have keysP : ps.map (·.1) = kvs.map (·.1) := by
    apply List.ext_getElem?
    intro i
    rw [List.getElem?_map, List.getElem?_map]
    by_cases hi : i < ts.length
    · rw [psAt i hi, List.getElem?_eq_getElem (by omega)]; rfl
    · rw [List.getElem?_eq_none (by omega), List.getElem?_eq_none (by omega)]; rfl
  let prs : List (Value × Value) := ps.map fun x => (Value.ref x.2.1, x.2.2)
  have prl : prs.length = ts.length := by rw [List.length_map]; exact psl
  have hst : KeysStay (tupleKind (mixKind X.prog X.w)) s.heap s.heap.objs.size [] ps := fun h' hk x hx => by
    obtain ⟨y, hy⟩ := List.mem_iff_getElem?.mp hx
    obtain ⟨kv, hkv, r1, r2, _⟩ := L2.DX.pget kt hy
    have ok' : HOk X.prog X.w H h' := by
      intro b o e
      exact (I.hok b o e).stay (fun c v _ z => hk c v (Nat.ne_of_lt (Heap.lt_size z)) (by simp) z) (fun _ z => z) fun _ _ z => z
    rw [← r1]
    exact key_of ok' r2
  refine call_dict_pairsH (knd := tupleKind (mixKind X.prog X.w)) (ps := ps) (PairArg.list a ((ts.map Value.ref).toArray) (fun j => (ts[j]?).getD 0) prs) (I.ok.hd hcalm) (show X.A.in1.in1.units < cLine by show X.A.units + 1 + 1 < cLine; omega) ⟨⟨_, n, ho, rfl, rfl, rfl⟩, by simp [prl], fun j k v hj => ?_⟩ ⟨by rw [prl, psl], fun i key v hrel => ?_⟩ hst (by omega) fun h' tk hd' hk => ?_
  · have hj' : j < ts.length := by have := (List.getElem?_eq_some_iff.mp hj).1; omega
    rw [List.getElem?_map, psAt j hj'] at hj
    cases hj
    have ht := (hf ⟨j, hj'⟩).2.2
    refine ⟨by simp [hj'], .inl ?_⟩
    show s.heap.IsTuple ((ts[j]?).getD 0) _
    rw [List.getElem?_eq_getElem hj']
    exact ht
  · have hj' : i < ts.length := by have := (List.getElem?_eq_some_iff.mp hrel).1; omega
    have hrel' : prs[i]? = some (key, v) := hrel
    rw [List.getElem?_map, psAt i hj'] at hrel'
    cases hrel'
    exact ⟨_, _, psAt i hj', rfl⟩
  · have e := stored_all (ps := ps) [] (by rw [List.nil_append, keysP]; exact hnd)
    rw [e, List.nil_append] at hd'
    have hm : (s.heap.objs.size == sysModules) = false := beq_eq_false_iff_ne.mpr (Nat.ne_of_gt I.big)
    have hk' : ∀ b o, s.heap.get? b = some o → h'.get? b = some o := fun b o e => hk b o (by simp) e
    obtain ⟨o, es, ep, h1, h2, h3, h4, h5, h6⟩ := hd'
    have hfr : H s.heap.objs.size = none := I.hok.fresh (Nat.le_refl _)
    refine ⟨.ref s.heap.objs.size, upd H s.heap.objs.size (.dT kvs), I.laid (t' := tk) hk' (Nat.le_refl _) (show ObjOk X.prog X.w _ _ _ (.dT kvs) from ⟨by omega, hm, ps, kt.keeps fun b ys e => ?_, o, es, ep, h1, h2, h3, h4, h6⟩), rfl, q _ hfr⟩
    rw [upd_ne (ne_of_none e hfr)]; exact e
end MN
/-! the walk over d.items() of a dict with tuple keys; sorted of data -/
namespace MN
open PySem PySem.Spec PyProof.Rows L2
/-- the pairs, each a new tuple of the key's own tuple and the value -/
def Itit (d : Addr) (o : Obj) (kvs : List (List Key × V)) : It :=
  ⟨fun i H => H d = some (.frz o (.dT kvs)) ∧ i < kvs.length, fun i H x H' => ∃ T k v q, kvs[i]? = some (k, v) ∧ x = .ref T ∧ H T = none ∧ H q = some (.tup (k.map kV)) ∧ H' = upd H T (.tup [.ref q, v]), fun i H => H d = some (.frz o (.dT kvs)) ∧ kvs.length ≤ i⟩
section
variable {X : Cx} {pins : List (Addr × Obj)} {σ : L2.St} {H : Hp} {s : Shared} {d : Addr} {o : Obj}
theorem frzTV {kvs : List (List Key × V)} (I : L2.Inv X pins σ H s) (h : H d = some (.frz o (.dT kvs))) :
    (d == sysModules) = false ∧ s.heap.get? d = some o ∧ o.ExactDict ∧ ∃ (es : Array DictEntry) (ep : Nat), o.data = .dict es ep ∧ es.size = kvs.length ∧
      ∀ (i : Nat) (k : List Key) (v : V), kvs[i]? = some (k, v) → ∃ (en : DictEntry) (q : Addr), es[i]? = some en ∧ en.key = .ref q ∧ H q = some (.tup (k.map kV)) ∧ RelV v en.val := by
  obtain ⟨hd, z, hs, xs, pr, o', es, ep, ho, hx, hdt, he, _⟩ := I.hok d _ h
  rw [hd] at ho
  cases ho
  refine ⟨hs, hd, hx, es, ep, hdt, ?_, fun i k v e => ?_⟩
  · have l1 : es.size = xs.length := size_of_entries he
    have l2 : kvs.length = xs.length := Paired.length pr
    omega
  · obtain ⟨b, hb, e1, e2, e3⟩ := LiI.paired_get pr e
    have q := entry_at he i
    rw [hb] at q
    exact ⟨_, b.2.1, q, rfl, e2, e3⟩
end
section
variable {P : Program} {w : World} {K : PySem.W.Frag} {d : Addr} {o : Obj} {es : Array DictEntry} {ep : Nat}
theorem turn_itemsT {kvs : List (List Key × V)} {elts : List Expr} {kk : Nat} {tpos : Pos} (it : Addr) (hod : o.data = .dict es ep) :
    Turn P w K (.Tuple elts kk tpos) (Itit d o kvs) [it] it (fun i h => ∃ ok ov, IsItemIter h it d i kvs.length ep ok ov) where
  mem := by simp
  obj := fun i h st b hb => by
    have e : b = it := by simpa using hb
    subst e
    obtain ⟨ok, ov, e⟩ := st
    exact ⟨_, e, fun v z => nomatch z⟩
  keep := fun i h h' st k => let ⟨ok, ov, e⟩ := st; ⟨ok, ov, k it (by simp) _ e⟩
  item := by
    intro X hP hw hK hc i pins s σ H E I hf st hg
    subst hP hw hK
    obtain ⟨hd, hi⟩ := hg
    obtain ⟨hs, hgd, hx, es', ep', hdt, hsz, ent⟩ := frzTV I hd
    obtain ⟨rfl, rfl⟩ := dict_ep hod hdt
    obtain ⟨⟨k, v⟩, hkv⟩ : ∃ p, kvs[i]? = some p := ⟨kvs[i], List.getElem?_eq_getElem hi⟩
    obtain ⟨en, q, hen, hkey, hq, rv⟩ := ent i k v hkv
    obtain ⟨hie, ee⟩ := Array.getElem?_eq_some_iff.mp hen
    obtain ⟨ok, ov, he⟩ := st
    rw [← hsz] at he
    have hlt : it < s.heap.objs.size := Heap.lt_size he
    refine DT.nextI he ⟨o, hgd, hx, hod⟩ hie fun h' ho hT hz hk => ?_
    refine ⟨_, rfl, wpAny_letOwnedTupleGo_items (s := { s with heap := h' }) ho fun h'' he' sb => ?_⟩
    have hT2 : h''.get? s.heap.objs.size = some { cls := .type "tuple", data := .seq #[.ref q, en.val] } := by
      have := (sb.2 _ (Nat.ne_of_gt hlt)).trans hT
      rw [ee, hkey] at this
      exact this
    have new : ObjOk X.prog X.w (upd H s.heap.objs.size (.tup [.ref q, v])) h'' s.heap.objs.size (.tup [.ref q, v]) :=
      ⟨by show 2 ≤ sizeLine; decide, [.ref q, en.val], .cons rfl (.cons rv .nil), ⟨_, hT2, rfl, _, rfl⟩⟩
    have I1 : L2.Inv X pins σ (upd H s.heap.objs.size (.tup [.ref q, v])) { s with heap := h'' } :=
      I.turnedNew (t' := s.toks) (ch := [it]) (fun b ob hb e => (sb.2 b (by simpa using hb)).trans (hk b ob (by simpa using hb) e)) hf (Nat.le_refl _) new
    refine ⟨.ref s.heap.objs.size, _, I1, rfl, ⟨_, k, v, q, hkv, rfl, I.hok.fresh (Nat.le_refl _), hq, rfl⟩, ⟨es'[i].key, es'[i].val, ?_⟩, fun b hb => ?_⟩
    · rw [← hsz]; exact he'
    · have e : b = it := by simpa using hb
      rw [e, upd_ne (Nat.ne_of_lt hlt)]
      exact (hf it (by simp)).1
  done := by
    intro X hP hw hK hc i pins s σ H E I hf st hg
    subst hP hw hK
    obtain ⟨hd, hi⟩ := hg
    obtain ⟨f0, f1, f2, f3, f4, f5⟩ := hf it (by simp)
    obtain ⟨hs, hgd, hx, es', ep', hdt, hsz, ent⟩ := frzTV I hd
    obtain ⟨rfl, rfl⟩ := dict_ep hod hdt
    obtain ⟨ok, ov, he⟩ := st
    rw [← hsz] at he
    exact DT.endI (I.ok.hd hc) he ⟨o, hgd, hx, hod⟩ (by omega) fun h' eb => ⟨rfl, I.turned (t' := s.toks) (fun b ob hb e => eb b ob hb e) f0 f1 f3 f4 f5⟩
  self := fun A i s Q E st h => let ⟨_, _, e⟩ := st; PySem.W.kcp_self e h
end
def iItemsT (td : TE) : TI := fun σ H R => td σ H fun x H1 => ∃ d o kvs, x = .ref d ∧ H1 d = some (.frz o (.dT kvs)) ∧ R (Itit d o kvs) H1
section
variable {X : Cx} {e : Expr} {td : TE} {apos cpos : Pos}
theorem pi_itemsT {elts : List Expr} {kk : Nat} {tpos : Pos} (he : PE X e td) (hbase : attributeBase e "items" X.env (eval e X.env) = eval e X.env := by rfl) (hline : (apos.endLine == cpos.line) = true := by rfl) :
    PI X (.Tuple elts kk tpos) (.Call (.Attribute e "items" apos) [] [] cpos) (iItemsT td) := by
  refine ⟨fun pins s σ H R I h => ?_⟩
  refine wpAny_Call_method (T := "dict") (id := "dict.items") hbase rfl hline F.plainAttrs_dict F.slot_dict_items F.type_dict_items (thn (he.run pins s σ H _ I h) fun u s1 ⟨x, H1, I1, rx, d, o, kvs, ex, hd, q⟩ => ?_)
  subst ex
  obtain rfl : u = Value.ref d := rx
  obtain ⟨hs, hgd, hx, es, ep, hdt, hsz, ent⟩ := frzTV I1 hd
  have raw : DT.Raw s1.heap d es ep := ⟨o, hgd, hx, hdt⟩
  refine ⟨raw.typeIs, fun b hb => ?_, ?_⟩
  · cases hb
    exact ⟨o, hgd, hx.2.1⟩
  have I2 : L2.Inv X pins σ H1 { s1 with heap := s1.heap.push { cls := .type "dict_items", data := .fields #[.ref d] } } := I1.kept (t' := s1.toks) fun b ob q => Heap.get?_push_of_some _ q
  show wpAny _ _ (callWith cpos (.builtin "dict.items") [.ref d] [] []) _ X.xe s1
  refine Calls.callWith_builtin rfl (PySem.evalArgs_none (DT.callItems hs raw ?_))
  refine DT.iterI (s := { s1 with heap := _ }) ⟨_, Heap.get?_push_size _ rfl, rfl, rfl⟩ (raw.push _) (pi_one (tk := s1.toks) I2 _ (turn_itemsT _ hdt) ⟨.none, .none, ?_⟩ q)
  rw [← hsz]
  exact Heap.get?_push_size _ rfl
theorem walk_itemsT {d : Addr} {o : Obj} {kvs : List (List Key × V)} : Walk (Itit d o kvs) kvs.length (fun H => H d = some (.frz o (.dT kvs)))
    (fun i H x H' => ∃ T k v q, kvs[i]? = some (k, v) ∧ x = .ref T ∧ H T = none ∧ H q = some (.tup (k.map kV)) ∧ H' = upd H T (.tup [.ref q, v])) :=
  ⟨fun _ _ hi q => ⟨q, hi⟩, fun _ q => ⟨q, Nat.le_refl _⟩, fun _ _ _ _ _ _ y => y⟩
end
/-! ### sorted(data) -/
def rSortD (K : PySem.W.Frag) : List V → Hp → VK → Prop := fun vs H Q => ∃ (a : Addr) (bs : List (V × PyData)), vs = [.ref a] ∧ SqL K H a (bs.map Prod.fst) ∧ (∀ b ∈ bs, Dp K H b.1 b.2) ∧ PySem.W.AllAlike (bs.map Prod.snd) ∧ PySem.W.Sortable (bs.map Prod.snd) ∧ (∀ b ∈ bs, b.2.depth ≤ 8) ∧
  ∀ p, H p = none → Q (.ref p) (upd H p (.lst ((bs.mergeSort (PySem.W.dataLe false Prod.snd)).map Prod.fst)))
theorem vals_each : ∀ {bs : List (V × PyData)} {us : List Value}, Vals (bs.map Prod.fst) us → PySem.W.EachIs (fun v (b : V × PyData) => RelV b.1 v) us bs
  | [], _, .nil => PySem.W.EachIs.nil
  | _ :: _, _, .cons e r => PySem.W.EachIs.cons e (vals_each r)
theorem each_vals : ∀ {bs : List (V × PyData)} {us : List Value}, PySem.W.EachIs (fun v (b : V × PyData) => RelV b.1 v) us bs → Vals (bs.map Prod.fst) us
  | _, _, .nil => .nil
  | _, _, .cons h1 h2 => .cons h1 (each_vals h2)
theorem each_reads {X : Cx} {pins : List (Addr × Obj)} {σ : L2.St} {H : Hp} {s : Shared} (I : L2.Inv X pins σ H s) : ∀ {bs : List (V × PyData)} {us : List Value}, Vals (bs.map Prod.fst) us → (∀ b ∈ bs, Dp X.K H b.1 b.2) → PySem.W.EachIs (fun v (b : V × PyData) => ∃ as, Reads s.heap v b.2 as) us bs
  | [], _, .nil, _ => PySem.W.EachIs.nil
  | b :: bs, _, .cons e r, h => PySem.W.EachIs.cons (Dp.reads I b.2 b.1 _ (h b List.mem_cons_self) e) (each_reads I r fun c hc => h c (List.mem_cons_of_mem _ hc))
theorem cr_sortedD {X : Cx} (hu : X.A.units + 64 < cLine) : CallR X (.builtin "sorted") (rSortD X.K) := by
  intro pins s σ H vs us Q I r h
  obtain ⟨a, bs, rfl, hs, hd, hal, hk, hdp, q⟩ := h
  obtain ⟨u, rfl, rx⟩ := vals1 r
  cases rx
  obtain ⟨its, rv, hl, hz⟩ := I.list hs
  rw [List.length_map] at hz
  refine PySem.W.sorted_data (enc := Prod.snd) hl.isList (vals_each rv) (each_reads I rv hd) hal hk hz (fun b hb => by have := hdp b hb; omega) fun out hlen he => ?_
  obtain ⟨c, hc⟩ := sortedAll_at s.heap its out.toArray
  have hz2 : ((bs.mergeSort (PySem.W.dataLe false Prod.snd)).map Prod.fst).length ≤ sizeLine := by rw [List.length_map, List.length_mergeSort]; exact hz
  exact ⟨.ref (s.heap.objs.size + 1), _, I.laid (t' := s.toks) (fun b o e => sortedAll_old e) (Nat.le_succ _) (show ObjOk X.prog X.w _ _ _ (.lst ((bs.mergeSort (PySem.W.dataLe false Prod.snd)).map Prod.fst)) from ⟨hz2, out, c, each_vals he, hc⟩), rfl, q _ (I.hok.fresh (Nat.le_succ _))⟩
end MN
/-! sets of keys (ints and texts): set(x), sorted(set), len(set); x in an instance by its own __contains__ -/
namespace MN
open PySem PySem.Spec PyProof.Rows L2
section
variable {P : Program} {w : World} {A : Around} {E : Value → Shared → Prop} {s : Shared} {KT : Type} [DecidableEq KT] {knd : PySem.KeyKind P w KT} {a : Addr} {o : Obj} {es : Array (Int × Value)} {ep : Nat} {t : SetTable}
/-- laid and perhaps laid anew -/
theorem tail_raw {gv : Bool → Sem Unit} (hgv : ∀ (b : Bool) (z : Shared) (Q' : Unit → Shared → Prop), Q' () z → wpAny (model P w) A (gv b) Q' E z) (ho : s.heap.get? a = some o) (hd : o.data = .set es ep t)
    {fs : Array (Int × Value)} {u : SetTable} (hb : fs.size < scanBound) (hf : u.fits fs.size = true) (hr : Ris u.place.toList) {dm : Bool} {R : Option Bool → Shared → Prop}
    (hR : ∀ h' gs e' v, Heap.SameBut a s.heap h' → h'.get? a = some { o with data := .set gs e' v } → gs.toList.Perm fs.toList → v.fits gs.size = true → Ris v.place.toList → v.led = u.led → R (some true) { s with heap := h' }) :
    wpAny (model P w) A (storeSet a fs u >>= fun _ => if (!dm && u.tooFull) = true then (gv (relayAll u fs (SetTable.grown fs.size)).2.2 >>= fun _ => storeSet a (relayAll u fs (SetTable.grown fs.size)).1 (relayAll u fs (SetTable.grown fs.size)).2.1 >>= fun _ => pure (some true)) else pure (some true)) R E s := by
  refine wpAny_bind (wpAny_storeSet_of ho hd ?_ (fits_of_scanBound hb))
  have o1 := store_at (es' := fs) (t' := u) ho hd
  have b1 := Heap.SameBut.update s.heap a (Obj.putSet fs u)
  split
  · have q1 := relayAll_perm u fs (SetTable.grown fs.size)
    have q2 := relayAll_fits u fs (SetTable.grown fs.size)
    have q3 := relayAll_ris u fs (SetTable.grown fs.size)
    have q4 := relayAll_led u fs (SetTable.grown fs.size)
    generalize relayAll u fs (SetTable.grown fs.size) = Z at q1 q2 q3 q4 ⊢
    obtain ⟨gs, v, gave⟩ := Z
    dsimp only at q1 q2 q3 q4 ⊢
    have hz : gs.size < scanBound := by rw [← Array.length_toList, q1.length_eq, Array.length_toList]; exact hb
    refine wpAny_bind (hgv _ _ _ (wpAny_bind (wpAny_storeSet_of o1 rfl ?_ (fits_of_scanBound hz))))
    have o2 := store_at (es' := gs) (t' := v) o1 rfl
    exact wpAny_pure (hR _ gs _ v (b1.trans (Heap.SameBut.update _ a _)) o2 q1 q2 q3 q4)
  · exact wpAny_pure (hR _ fs _ u b1 o1 (List.Perm.refl _) hf hr rfl)
theorem add_raw {k : KT} {x : Value} {Q : Bool → Shared → Prop} (hkey : knd.is k x = true) (hsc : x.scannable = true) (ho : s.heap.get? a = some o) (hd : o.data = .set es ep t) (hel : ElemsOf knd es.toList) (hb : es.size + 1 < scanBound) (hf : t.fits es.size = true) (hr : Ris t.place.toList)
    (q1 : (∃ e ∈ es.toList, knd.is k e.2 = true) → Q false s)
    (q2 : (∀ e ∈ es.toList, knd.is k e.2 = false) → ∀ h' gs e' v, Heap.SameBut a s.heap h' → h'.get? a = some { o with data := .set gs e' v } → gs.toList.Perm ((knd.hash k, x) :: es.toList) → v.fits gs.size = true → Ris v.place.toList → v.led = t.led → Q true { s with heap := h' }) :
    wpAny (model P w) A (setAddHashed a x (knd.hash k)) Q E s := by
  have hb0 : es.size < scanBound := by omega
  unfold setAddHashed setAddHashedIn
  refine wpAny_holding (wpAny_bind (wpAny_setState_of ho hd hf ?_))
  dsimp only
  rw [byScan_of hsc hb0 hel, if_pos rfl]
  unfold setAddByScan
  refine wpAny_bind (wpAny_bind (wpAny_rule (wpAny_bind (wpAny_setScan_of hkey ho hd hf hel ?_))))
  cases hfi : List.findIdx? (fun e => knd.is k e.2) es.toList with
  | some j =>
    obtain ⟨hj, pj, _⟩ := List.findIdx?_eq_some_iff_getElem.mp hfi
    exact wpAny_pure (wpAny_pure (q1 ⟨_, List.getElem_mem hj, pj⟩))
  | none =>
    have hno : ∀ e ∈ es.toList, knd.is k e.2 = false := fun e he => by simpa using List.findIdx?_eq_none_iff.mp hfi e he
    have p1 := layNew_perm t es (knd.hash k) x
    have p2 := layNew_fits t es (knd.hash k) x
    have p3 := layNew_ris t es (knd.hash k) x hr
    have p4 := layNew_led t es (knd.hash k) x
    dsimp only
    generalize layNew t es (knd.hash k) x = Z at p1 p2 p3 p4 ⊢
    obtain ⟨fs, u, dm, gave⟩ := Z
    dsimp only at p1 p2 p3 p4 ⊢
    rw [Array.toList_push] at p1
    have pc : fs.toList.Perm ((knd.hash k, x) :: es.toList) := p1.trans (List.perm_append_singleton _ _)
    have hz : fs.size < scanBound := by rw [← Array.length_toList, pc.length_eq, List.length_cons, Array.length_toList]; exact hb
    have gw : ∀ (b : Bool) (z : Shared) (Q' : Unit → Shared → Prop), Q' () z → wpAny (model P w) A (match b with | true => rule "set.scan.the-table-gave-way" | false => pure ()) Q' E z := fun b z Q' q => by
      cases b
      · exact wpAny_pure q
      · exact wpAny_rule q
    refine wpAny_bind (gw _ _ _ ?_)
    split
    · refine wpAny_bind ?_
      rw [hashByValue_scannable 8 hsc]
      refine wpAny_pure (tail_raw gw ho hd hz ?_ ?_ fun h' gs e' v c1 c2 c3 c4 c5 c6 => wpAny_pure (q2 hno h' gs e' v c1 c2 (c3.trans pc) c4 c5 ?_))
      · split
        · exact p2
        · exact SetTable.fits_plain_off p2
      · split <;> exact p3
      · rw [c6]; split <;> exact p4
    · refine wpAny_bind (wpAny_pure ?_)
      simp only [↓reduceIte]
      exact tail_raw gw ho hd hz p2 p3 fun h' gs e' v c1 c2 c3 c4 c5 c6 => wpAny_pure (q2 hno h' gs e' v c1 c2 (c3.trans pc) c4 c5 (c6.trans p4))
end
/-! ### a set of keys -/
def kOf (e : Int × Value) : Key := match e.2 with | .int i _ => .inl i | .str z _ => .inr z | _ => .inl 0
def GoodK (P : Program) (w : World) (e : Int × Value) : Prop := (mixKind P w).is (kOf e) e.2 = true ∧ e.1 = (mixKind P w).hash (kOf e) ∧ e.2.scannable = true
def SetX (P : Program) (w : World) (h : Heap) (a : Addr) (ks : List Key) : Prop := ∃ o es ep t, h.get? a = some o ∧ o.ExactSet ∧ o.data = .set es ep t ∧ (∀ e ∈ es.toList, GoodK P w e) ∧ (es.toList.map kOf).Perm ks ∧ ks.Nodup ∧ es.size < scanBound ∧ t.fits es.size = true ∧ Ris t.place.toList ∧
  (w.params.followText "set-order" = true ∨ t.led = true)
section
variable {P : Program} {w : World} {A : Around} {E : Value → Shared → Prop} {s : Shared} {a : Addr} {ks : List Key}
theorem SetX.at {h h' : Heap} (R : SetX P w h a ks) (k : ∀ o, h.get? a = some o → h'.get? a = some o) : SetX P w h' a ks := by
  obtain ⟨o, es, ep, t, ho, r⟩ := R
  exact ⟨o, es, ep, t, k o ho, r⟩
theorem keyIs_kOf {k : Key} {x : Value} {h : Int} (hk : (mixKind P w).is k x = true) : kOf (h, x) = k := by
  rcases keyIs_shape hk with ⟨i, u, rfl, rfl⟩ | ⟨z, u, rfl, rfl⟩ <;> rfl
theorem goodK_el {l : List (Int × Value)} (g : ∀ e ∈ l, GoodK P w e) : ElemsOf (mixKind P w) l := fun e he => ⟨⟨kOf e, (g e he).1, (g e he).2.1⟩, (g e he).2.2⟩
theorem key_scan' {k : Key} {x : Value} (hk : (mixKind P w).is k x = true) : x.scannable = true := by
  rcases keyIs_shape hk with ⟨i, u, rfl, rfl⟩ | ⟨z, u, rfl, rfl⟩ <;> rfl
theorem SetX.len {h : Heap} (R : SetX P w h a ks) : ∃ o es ep t, h.get? a = some o ∧ o.ExactSet ∧ o.data = .set es ep t ∧ t.fits es.size = true ∧ es.size = ks.length := by
  obtain ⟨o, es, ep, t, ho, hx, hd, g, pm, nd, hb, hf, hr, hl⟩ := R
  exact ⟨o, es, ep, t, ho, hx, hd, hf, by rw [← pm.length_eq, List.length_map, Array.length_toList]⟩
theorem setX_add {k : Key} {x : Value} {Q : Bool → Shared → Prop} (hk : (mixKind P w).is k x = true) (R : SetX P w s.heap a ks) (hb1 : ks.length + 1 < scanBound)
    (hQ : ∀ h' us b, Heap.SameBut a s.heap h' → SetX P w h' a us → us.length ≤ ks.length + 1 → (∀ j, j ∈ us ↔ j ∈ ks ∨ j = k) → Q b { s with heap := h' }) : wpAny (model P w) A (setAddHashed a x ((mixKind P w).hash k)) Q E s := by
  obtain ⟨o, es, ep, t, ho, hx, hd, g, pm, nd, hb, hf, hr, hl⟩ := R
  have hz : es.size = ks.length := by rw [← pm.length_eq, List.length_map, Array.length_toList]
  refine add_raw hk (key_scan' hk) ho hd (goodK_el g) (by omega) hf hr (fun ⟨e, he, q⟩ => ?_) fun hno h' gs e' v c1 c2 c3 c4 c5 c6 => ?_
  · have hin : k ∈ ks := by
      rw [← pm.mem_iff, List.mem_map]
      exact ⟨e, he, (mixKind P w).inj _ _ _ (g e he).1 q⟩
    have z : s = { s with heap := s.heap } := by cases s; rfl
    rw [z]
    exact hQ s.heap ks false (Heap.SameBut.refl a _) ⟨o, es, ep, t, ho, hx, hd, g, pm, nd, hb, hf, hr, hl⟩ (Nat.le_succ _) fun j => ⟨.inl, fun q => q.elim id fun e => e ▸ hin⟩
  · have pk : (gs.toList.map kOf).Perm (k :: es.toList.map kOf) := by
      have q := c3.map kOf
      rw [List.map_cons, keyIs_kOf hk] at q
      exact q
    have hn : k ∉ ks := fun hm => by
      rw [← pm.mem_iff, List.mem_map] at hm
      obtain ⟨e, he, q⟩ := hm
      have c := hno e he
      rw [← q, (g e he).1] at c
      cases c
    have lg : gs.size = ks.length + 1 := by rw [← Array.length_toList, c3.length_eq, List.length_cons, Array.length_toList, hz]
    refine hQ h' (k :: ks) true c1 ⟨_, gs, e', v, c2, hx, rfl, fun e he => ?_, pk.trans (pm.cons k), List.nodup_cons.mpr ⟨hn, nd⟩, by omega, c4, c5, hl.imp id fun z => c6.trans z⟩ (Nat.le_refl _) fun j => by rw [List.mem_cons]; exact Or.comm
    rcases List.mem_cons.mp (c3.mem_iff.mp he) with rfl | he
    · refine ⟨?_, ?_, key_scan' hk⟩
      · rw [keyIs_kOf hk]; exact hk
      · rw [keyIs_kOf hk]
    · exact g e he
theorem setX_fresh {h : Heap} (ho : h.get? a = some { cls := .type "set", dict := none, data := .set #[] 0 (.fresh 0 0 (!w.params.followText "set-order")) }) : SetX P w h a [] :=
  ⟨_, #[], 0, _, ho, ⟨rfl, rfl, rfl⟩, rfl, fun e he => by simp at he, by simp, List.nodup_nil, by decide, by rfl, List.Pairwise.nil, by
    show _ ∨ (!w.params.followText "set-order") = true
    cases w.params.followText "set-order"
    · exact .inr rfl
    · exact .inl rfl⟩
theorem setX_loop {I : Addr} {fp wr : List Addr} {G : Array GenState → Array GenState → Prop} {n : Nat} {Pv : Nat → Value → Prop} {St : Nat → Shared → Prop} {R : Result → Shared → Prop}
    (W : WalksS P w A.in1 I fp wr G n Pv St) (S : Addr) (hSf : S ∉ fp) (vs : List Key) (hn : n = vs.length) (hb : vs.length + 1 < scanBound) (hval : ∀ i v, Pv i v → ∃ k, vs[i]? = some k ∧ (mixKind P w).is k v = true) :
    ∀ (m i : Nat) (s : Shared), n - i = m → i ≤ n → St i s → (∃ us, SetX P w s.heap S us ∧ us.length ≤ i ∧ ∀ j, j ∈ us ↔ j ∈ vs.take i) →
      (∀ z us, Moved (S :: wr) G s z → SetX P w z.heap S us → us.length ≤ n → (∀ j, j ∈ us ↔ j ∈ vs) → R (.ok (.ret .none)) z) → codeAny (model P w) A (.builtin "set.update.loop" ⟨[.ref S, .ref I], []⟩) R s := by
  have nw : S ∉ wr := fun q => hSf (W.sub _ q)
  have sb : ∀ b ∈ wr, b ∈ S :: wr := fun b q => List.mem_cons_of_mem _ q
  intro m
  induction m with
  | zero =>
    intro i s e1 e2 st ⟨us, hS, ul, hm⟩ hR
    obtain rfl : i = n := by omega
    refine codeAny_builtin F.entry_set_update_loop ?_
    rw [Around.under_plainId F.plain_set_update_loop _]
    refine wpAny_bind (m := pyNext (.ref I)) (W.done s _ _ st fun z mv => wpAny_pure (hR z us (mv.mono sb) (hS.at fun u q => mv.heap S _ nw q) ul fun j => ?_))
    rw [hm j, hn, List.take_length]
  | succ m ih =>
    intro i s e1 e2 st ⟨us, hS, ul, hm⟩ hR
    have hlt : i < n := by omega
    refine codeAny_builtin F.entry_set_update_loop ?_
    rw [Around.under_plainId F.plain_set_update_loop _]
    refine wpAny_bind (m := pyNext (.ref I)) (W.item i s _ _ hlt st fun v z hP st2 mv => ?_)
    obtain ⟨k, hk1, hk2⟩ := hval i v hP
    have hS2 : SetX P w z.heap S us := hS.at fun u q => mv.heap S _ nw q
    show wpAny _ A.in1 (holding [v] (setAdd S v) >>= _) _ _ z
    refine wpAny_bind (wpAny_holding ?_)
    unfold setAdd
    refine wpAny_holding (wpAny_bind ((mixKind P w).pyHash hk2 ?_))
    refine setX_add (s := { z with toks := z.toks + 1 }) hk2 hS2 (by omega) fun h' us' b c1 c2 c3 c4 => ?_
    refine wpAny_pure ⟨plainId_quiet F.plain_set_update_loop _, ih (i + 1) _ (by omega) hlt (W.frame _ z _ _ st2 (Nat.le_succ _) fun b hb u q => ?_) ⟨us', c2, by omega, fun j => ?_⟩ fun z2 us2 mv2 => ?_⟩
    · rw [c1.2 b (fun e : b = S => hSf (by rw [← e]; exact hb))]; exact q
    · rw [c4 j, hm j, List.take_add_one, hk1, List.mem_append]
      simp
    · refine hR z2 us2 (Moved.trans W.gtrans ((mv.mono sb).then_heap (Nat.le_succ _) fun b u hb q => ?_) mv2)
      rw [c1.2 b (fun e : b = S => hb (by rw [e]; exact List.mem_cons_self))]; exact q
end
end MN
/-! set(x) of keys, sorted(set), in by an own __contains__ -/
namespace MN
open PySem PySem.Spec PyProof.Rows L2
section
variable {P : Program} {w : World} {A : Around} {E : Value → Shared → Prop} {s : Shared}
abbrev setO0 (w : World) : Obj := { cls := .type "set", dict := none, data := .set #[] 0 (.fresh 0 0 (!w.params.followText "set-order")) }
/-- what is walked gives the keys vs -/
def Gives (P : Program) (w : World) (s : Shared) (x : Value) (vs : List Key) : Prop := ∀ (z : Shared) (A' : Around) (E' : Value → Shared → Prop) (Q' : Value → Shared → Prop), (∀ b o, s.heap.get? b = some o → z.heap.get? b = some o) →
  (∀ (ob : Obj) (fp : List Addr) (Pv : Nat → Value → Prop) (St : Nat → Heap → Prop), (∀ A2 : Around, A2.handled = none → Walks P w A2 z.heap.objs.size fp [z.heap.objs.size] vs.length Pv St) → (∀ b ∈ fp, b = z.heap.objs.size ∨ b < s.heap.objs.size) → St 0 (z.heap.push ob) →
    (∀ i v, Pv i v → ∃ k, vs[i]? = some k ∧ (mixKind P w).is k v = true) → Q' (.ref z.heap.objs.size) { z with heap := z.heap.push ob }) → wpAny (model P w) A' (pyIter x) Q' E' z
set_option maxRecDepth 100000 in
set_option maxHeartbeats 3200000 in
theorem set_of_any {x : Value} {T : String} (vs : List Key) {Q : Value → Shared → Prop} (hh : A.handled = none) (hT : ∀ z : Shared, (∀ b o, s.heap.get? b = some o → z.heap.get? b = some o) → z.TypeIs x T) (hs1 : isSubtype (.type T) (.type "set") = pure false) (hs2 : isSubtype (.type T) (.type "frozenset") = pure false) (hs3 : (Value.type T == Value.type "dict") = false)
    (hb : vs.length + 1 < scanBound) (hg : Gives P w s x vs)
    (h : ∀ (h' : Heap) (tk : Nat) (us : List Key), SetX P w h' s.heap.objs.size us → us.length ≤ vs.length → (∀ j, j ∈ us ↔ j ∈ vs) → (∀ b o, s.heap.get? b = some o → h'.get? b = some o) → Q (.ref s.heap.objs.size) { s with heap := h', toks := tk }) :
    wpAny (model P w) A (call (.type "set") [x]) Q E s := by
  obtain ⟨c, tl, hmro⟩ := F.called_set.mro
  have hmade := F.called_set.made
  have hsub := F.called_set.sub
  refine wpAny_call (codeAny_of_tree ?_)
  refine wpAny_pure ⟨Code.quiet_builtin _ (by decide +kernel), codeAny_builtin F.entry_type_call ?_⟩
  rw [Around.under_plain (weight_type_call_type "set" [x] []) rfl]
  have h1 := F.called_set.notType
  have h2 := F.called_set.canCreate
  have hct := F.typeCall_set_1 x
  repeat (any_goals (first | assumption | wp_step))
  refine codeAny_mono (code_set_led1 x (E := E) (Q₁ := fun obj z => obj = .ref s.heap.objs.size ∧ z = { s with heap := s.heap.push (setO0 w) }) ⟨rfl, rfl⟩) fun r z hr => ?_
  cases r with
  | error e => exact hr
  | ok fl =>
    cases fl with
    | ret obj =>
      obtain ⟨rfl, rfl⟩ := hr
      have hS : (s.heap.push (setO0 w)).get? s.heap.objs.size = some (setO0 w) := Heap.get?_push_size _ rfl
      have hT0 : Shared.TypeIs { s with heap := s.heap.push (setO0 w) } (.ref s.heap.objs.size) "set" := ⟨_, hS, rfl⟩
      have hli := F.called_set.init.lookup
      have hbi := F.called_set.init.bind (.ref s.heap.objs.size)
      repeat (any_goals (first | assumption | wp_step))
      refine codeAny_mono (codeAny_call_builtin (R := wants (fun r z2 => r = .none ∧ ∃ h' tk us, z2 = { s with heap := h', toks := tk } ∧ SetX P w h' s.heap.objs.size us ∧ us.length ≤ vs.length ∧ (∀ j, j ∈ us ↔ j ∈ vs) ∧
          (∀ b o, s.heap.get? b = some o → h'.get? b = some o)) E) F.called_set.init.plain F.entry_set_init (check_set_init_1 hT0 ?_)) fun r2 z2 hr2 => ?_
      · have hTx : Shared.TypeIs { s with heap := s.heap.push (setO0 w) } x T := hT _ fun b o e => Heap.get?_push_of_some _ e
        have hgx := hg { s with heap := s.heap.push (setO0 w) }
        unfold Builtin.«set.__init__» noKeywords Builtin.Frozenset.updateFrom
        generalize hPI : pyIter = PI at hgx ⊢
        wp_walk
        subst hPI
        refine hgx _ _ _ (fun b o e => Heap.get?_push_of_some _ e) fun ob fp Pv St hW hfp hst hval => ?_
        refine wpAny_bind (wpAny_runValue ?_)
        have hh3 : A.in1.in1.in1.handled = none := by simp [hh]
        have hSf : s.heap.objs.size ∉ fp := fun q => by
          have z : (s.heap.push (setO0 w)).objs.size = s.heap.objs.size + 1 := Heap.size_push ..
          rcases hfp _ q with e | e
          · rw [z] at e; exact absurd e (Nat.ne_of_lt (Nat.lt_succ_self _))
          · exact absurd e (Nat.lt_irrefl _)
        have h0 : ((s.heap.push (setO0 w)).push ob).get? s.heap.objs.size = some (setO0 w) := Heap.get?_push_of_some _ hS
        refine setX_loop ((hW _ hh3).toS) s.heap.objs.size hSf vs rfl hb hval (vs.length - 0) 0 _ (by omega) (Nat.zero_le _) hst ⟨[], setX_fresh h0, Nat.le_refl _, fun j => by simp⟩ fun z us mv hX hl hm => ?_
        obtain ⟨h', g2, d', tk', os'⟩ := z
        have eg : g2 = s.gens := mv.gens
        have ed : d' = s.drawn := mv.drawn
        have eo : os' = s.os := mv.os
        subst eg ed eo
        refine wpAny_pure (wpAny_pure ⟨rfl, h', tk', us, rfl, hX, hl, hm, fun b o e => ?_⟩)
        have hb0 : b < s.heap.objs.size := Heap.lt_size e
        refine mv.heap b o (fun q => ?_) (Heap.get?_push_of_some _ (Heap.get?_push_of_some _ e))
        rcases List.mem_cons.mp q with e1 | q
        · rw [e1] at hb0; exact absurd hb0 (Nat.lt_irrefl _)
        · have e1 := List.mem_singleton.mp q
          have z : (s.heap.push (setO0 w)).objs.size = s.heap.objs.size + 1 := Heap.size_push ..
          rw [e1, z] at hb0
          exact absurd hb0 (Nat.not_lt_of_le (Nat.le_succ _))
      · cases r2 with
        | error e => exact hr2
        | ok fl2 =>
          cases fl2 with
          | ret r =>
            obtain ⟨rfl, h', tk, us, rfl, c1, c2, c3, c4⟩ := hr2
            repeat (any_goals (first | assumption | wp_step))
            exact h _ _ _ c1 c2 c3 c4
          | _ => exact hr2.elim
    | _ => exact hr.elim
end
end MN
/-! sorted(set) of texts; set(x), sorted(set) over the layer; in by an own __contains__ -/
namespace MN
open PySem PySem.Spec PyProof.Rows L2
section
variable {P : Program} {w : World} {A : Around} {E : Value → Shared → Prop} {s : Shared}
/-- sorted(set) of texts -/
theorem strs_of_keys : ∀ (l : List Value) (ks : List Key) (zs : List Str), l.map (fun v => kOf (0, v)) = ks → ks = zs.map Sum.inr → (∀ v ∈ l, ∃ k, (mixKind P w).is k v = true) → StrsAre l zs
  | [], _, [], _, _, _ => .nil
  | [], _, _ :: _, e1, e2, _ => by rw [← e1] at e2; cases e2
  | _ :: _, _, [], e1, e2, _ => by rw [← e1] at e2; cases e2
  | v :: l, _, z :: zs, e1, e2, h => by
    subst e1
    injection e2 with e3 e4
    obtain ⟨k, hk⟩ := h v List.mem_cons_self
    have e3' : kOf (0, v) = Sum.inr z := e3
    rw [keyIs_kOf hk] at e3'
    clear e3
    subst e3'
    rcases keyIs_shape (show keyIs (Sum.inr z) v = true from hk) with ⟨i, u, e, _⟩ | ⟨z', u, e, rfl⟩
    · cases e
    · cases e
      exact .cons _ _ (strs_of_keys l _ zs rfl e4 fun v hv => h v (List.mem_cons_of_mem _ hv))
theorem map_inr : ∀ (ks : List Key) (zs : List Str), (∀ k ∈ ks, ∃ z, k = Sum.inr z ∧ z ∈ zs) → ∃ ys : List Str, ks = ys.map Sum.inr
  | [], _, _ => ⟨[], rfl⟩
  | k :: ks, zs, h => by
    obtain ⟨z, rfl, _⟩ := h k List.mem_cons_self
    obtain ⟨ys, e⟩ := map_inr ks zs fun k hk => h k (List.mem_cons_of_mem _ hk)
    exact ⟨z :: ys, by rw [e]; rfl⟩
theorem sorted_setX {a : Addr} {ks : List Key} {zs : List Str} {Q : Value → Shared → Prop} (R : SetX P w s.heap a ks) (e : ks = zs.map Sum.inr) (hh : A.handled = none) (h64 : zs.length < 64)
    (hQ : ∀ (z : Shared) (p : Addr) (out : Array Value) (c : Nat) (ys : List Str), (∀ b o, s.heap.get? b = some o → z.heap.get? b = some o) → z.gens = s.gens → z.os = s.os → s.heap.objs.size ≤ p → z.heap.get? p = some (seqObj "list" out c) → StrsAre out.toList ys → ys.Perm zs → sortedS ys = true → Q (.ref p) z) :
    wpAny (model P w) A (call (.builtin "sorted") [.ref a]) Q E s := by
  obtain ⟨o, es, ep, t, ho, hx, hd, g, pm, nd, hb, hf, hr, hl⟩ := R
  refine Calls.call_function_entry kind_sorted plain_sorted entry_sorted (args_sorted1 _) ?_
  unfold Builtin.«sorted»
  refine wpAny_bind (m := checkCount "sorted" 1 1 _) (wpAny_pure (wpAny_bind (collect_set (A := A.in1) hh ⟨o, ho, hx.1, hd⟩ hf hb hr hl fun z vs k1 hz g1 o1 pv => ?_)))
  have pk : (vs.map fun v => kOf (0, v)).Perm ks := by
    have q := pv.map fun v => kOf (0, v)
    rw [List.map_map] at q
    exact q.trans pm
  obtain ⟨xs, ex⟩ := map_inr (vs.map fun v => kOf (0, v)) zs fun k hk => by
    have hk' := pk.mem_iff.mp hk
    rw [e] at hk'
    obtain ⟨y, hy, rfl⟩ := List.mem_map.mp hk'
    exact ⟨y, rfl, hy⟩
  have px : xs.Perm zs := by
    rw [ex, e] at pk
    have q := pk.map fun k : Key => match k with | .inr z => z | .inl _ => Str.empty
    rw [List.map_map, List.map_map] at q
    have i : ((fun k : Key => match k with | .inr z => z | .inl _ => Str.empty) ∘ Sum.inr) = (id : Str → Str) := rfl
    rw [i, List.map_id, List.map_id] at q
    exact q
  have hS : StrsAre vs xs := strs_of_keys (P := P) (w := w) vs _ xs rfl ex fun v hv => by
    obtain ⟨e0, he0, rfl⟩ := List.mem_map.mp (pv.mem_iff.mp hv)
    exact ⟨_, (g e0 he0).1⟩
  have hvl : vs.length = zs.length := by
    have q := pk.length_eq
    rw [List.length_map, e, List.length_map] at q
    exact q
  refine wpAny_bind (wpAny_newList ?_ (by rw [hvl, sizeLine_eq]; omega))
  have hoL : (z.heap.push (seqObj "list" vs.toArray 0)).get? z.heap.objs.size = some (seqObj "list" vs.toArray 0) := Heap.get?_push_size _ rfl
  refine wpAny_bind (wpAny_holding (wpAny_call_entry slot_list_sort ⟨_, hoL, rfl⟩ entry_list_sort (list_sort_treeK strKind_oneLt hoL hS.keysOf (fun v1 v2 rest q => keyKind_strs (by rw [← q]; exact hS)) (by rw [hvl]; exact h64) fun st hp hs => ⟨_, rfl, ?_⟩) (args_list_sort _)))
  obtain ⟨ys, y1, y2, y3⟩ := sorted_out_str hS hp hs
  obtain ⟨c, hc⟩ := sortedHeap_at (vs := vs) (out := (arrOf st).map (·.2)) hoL
  refine wpAny_pure ⟨_, rfl, hQ _ z.heap.objs.size _ c ys (fun b u q => ?_) g1 o1 hz hc y1 (y2.trans px) y3⟩
  have q1 := k1 b u q
  have lt := Heap.lt_size q1
  show (sortedHeap (z.heap.push (seqObj "list" vs.toArray 0)) z.heap.objs.size vs _).get? b = some u
  rw [sortedHeap_old (Nat.ne_of_lt lt) (by rw [size_push']; exact Nat.lt_succ_of_lt lt)]
  exact Heap.get?_push_of_some _ q1
end
/-! ### over the layer -/
def SetXO (P : Program) (w : World) (a : Addr) (ks : List Key) : HO := .ext fun h => SetX P w h a ks
theorem setXO_new {w : World} {P : Program} {H : Hp} {h : Heap} {a : Addr} {ks : List Key} (R : SetX P w h a ks) : ObjOk P w H h a (SetXO P w a ks) := by
  have ⟨o, _, _, _, ho, _⟩ := R
  exact ⟨R, ⟨o, ho⟩, fun h1 h2 p k => SetX.at p k⟩
section
variable {X : Cx} {pins : List (Addr × Obj)} {σ : L2.St} {H : Hp} {s : Shared}
theorem setXO_get {a : Addr} {ks : List Key} (I : L2.Inv X pins σ H s) (ha : H a = some (SetXO X.prog X.w a ks)) : SetX X.prog X.w s.heap a ks := (I.hok a _ ha).1
def signKeys (z : Str) : List Key := z.cps.toList.map fun c => Sum.inr ⟨#[c]⟩
theorem gives_str (z : Str) (t : Tok) : Gives X.prog X.w s (.str z t) (signKeys z) := by
  intro z2 A' E' Q' hk hQ
  refine wpAny_pyIter_str fun o St hW hst => hQ o _ (SignAt z) St (fun A2 h2 => ?_) (fun b hb => .inl (List.mem_singleton.mp hb)) hst fun i v ⟨c, u, h1, h2⟩ => ⟨Sum.inr ⟨#[c]⟩, ?_, ?_⟩
  · have e : (signKeys z).length = z.cps.size := by simp [signKeys]
    rw [e]
    exact hW A2 h2
  · simp [signKeys, h1]
  · subst h2
    exact keyIs_str _ u
theorem gives_list {l : Addr} {ks : List Key} (I : L2.Inv X pins σ H s) (hl : SqL X.K H l (ks.map kV)) : Gives X.prog X.w s (.ref l) ks := by
  obtain ⟨its, rv, pl, _⟩ := I.list hl
  intro z2 A' E' Q' hk hQ
  obtain ⟨ol, hol, hcl, nl, hdl⟩ := pl.isList
  have lt : l < s.heap.objs.size := Heap.lt_size hol
  have lz : l < z2.heap.objs.size := Heap.lt_size (hk _ _ hol)
  have pl2 : z2.heap.IsList l its.toArray := ⟨ol, hk _ _ hol, hcl, nl, hdl⟩
  have e : its.toArray.size = ks.length := by have := rv.length; simp at this ⊢; omega
  refine wpAny_pyIter_list pl2 (hQ _ [z2.heap.objs.size, l] (fun i v => its.toArray[i]? = some v) _ (fun A2 h2 => e ▸ Walks.list h2 _ l (Nat.ne_of_lt lz) its.toArray) (fun b hb => ?_) ⟨⟨_, Heap.get?_push_size _ rfl, rfl, rfl⟩, pl2.push _⟩ fun i v hv => ?_)
  · rcases List.mem_cons.mp hb with e | hb
    · exact .inl e
    · exact .inr (by rw [List.mem_singleton.mp hb]; exact lt)
  · have hv' : its[i]? = some v := by simpa using hv
    have hi : i < ks.length := by
      have h1 := (List.getElem?_eq_some_iff.mp hv').1
      have h2 := rv.length
      rw [List.length_map] at h2
      omega
    obtain ⟨u, h1, r⟩ := Vals.get (x := kV ks[i]) rv (by rw [List.getElem?_map, List.getElem?_eq_getElem hi]; rfl)
    rw [hv'] at h1
    cases h1
    refine ⟨ks[i], List.getElem?_eq_getElem hi, ?_⟩
    show keyIs ks[i] v = true
    cases e2 : ks[i] with
    | inl n =>
      rw [e2] at r
      obtain ⟨t, rfl⟩ := (show ∃ t, v = Value.int n t from r)
      exact keyIs_int _ _
    | inr z =>
      rw [e2] at r
      obtain ⟨t, rfl⟩ := (show ∃ t, v = Value.str z t from r)
      exact keyIs_str _ _
end
/-- what set(x) takes: a text, or a list of keys -/
def KeysIn (K : PySem.W.Frag) (H : Hp) (x : V) (ks : List Key) : Prop := (∃ z : Str, x = .str z ∧ ks = signKeys z) ∨ ∃ l, x = .ref l ∧ SqL K H l (ks.map kV)
section
variable {X : Cx}
theorem cr_setX (hc : X.calm = true) : CallR X (.type "set") (fun vs H Q => ∃ x ks, vs = [x] ∧ KeysIn X.K H x ks ∧ ks.length ≤ 4000 ∧ ∀ p us, us.Nodup → us.length ≤ ks.length → (∀ j, j ∈ us ↔ j ∈ ks) → H p = none → Q (.ref p) (upd H p (SetXO X.prog X.w p us))) := by
  intro pins s σ H vs us Q I r h
  obtain ⟨x, ks, rfl, hx, hl, q⟩ := h
  obtain ⟨u, rfl, ru⟩ := vals1 r
  have hb : ks.length + 1 < scanBound := by unfold scanBound; omega
  have go : ∀ (h' : Heap) (tk : Nat) (us : List Key), SetX X.prog X.w h' s.heap.objs.size us → us.length ≤ ks.length → (∀ j, j ∈ us ↔ j ∈ ks) → (∀ b o, s.heap.get? b = some o → h'.get? b = some o) → EP X pins σ Q (.ref s.heap.objs.size) { s with heap := h', toks := tk } := fun h' tk us c1 c2 c3 c4 => by
    have nd : us.Nodup := by obtain ⟨_, _, _, _, _, _, _, _, _, nd, _⟩ := c1; exact nd
    exact ⟨.ref _, _, I.laid c4 (Nat.le_refl _) (setXO_new c1), rfl, q _ us nd c2 c3 (I.hok.fresh (Nat.le_refl _))⟩
  rcases hx with ⟨z, rfl, rfl⟩ | ⟨l, rfl, hl2⟩
  · obtain ⟨t, rfl⟩ := (show ∃ t, u = Value.str z t from ru)
    exact set_of_any (signKeys z) (I.ok.hd hc) (fun z2 _ => typeIs_str _ _ _) F.sub_str_set F.sub_str_frozenset (by decide) hb (gives_str z t) go
  · cases (show u = Value.ref l from ru)
    obtain ⟨its, rv, pl, _⟩ := I.list hl2
    obtain ⟨ol, hol, hcl, _⟩ := pl.isList
    exact set_of_any ks (I.ok.hd hc) (fun z2 k => ⟨ol, k _ _ hol, hcl⟩) F.sub_list_set F.sub_list_frozenset (by decide) hb (gives_list I hl2) go
theorem cr_sortedX (hc : X.calm = true) : CallR X (.builtin "sorted") (fun vs H Q => ∃ (a : Addr) (zs : List Str), vs = [.ref a] ∧ H a = some (SetXO X.prog X.w a (zs.map Sum.inr)) ∧ zs.length < 64 ∧ ∀ ys p, ys.Perm zs → sortedS ys = true → H p = none → Q (.ref p) (upd H p (.lst (ys.map V.str)))) := by
  intro pins s σ H vs us Q I r h
  obtain ⟨a, zs, rfl, ha, h64, q⟩ := h
  rw [Vals.ref1 r]
  refine sorted_setX (setXO_get I ha) rfl (I.ok.hd hc) h64 fun z p out c ys k g o hp hg hi hy hs => ?_
  have hlen : (ys.map V.str).length ≤ sizeLine := by rw [List.length_map, hy.length_eq, sizeLine_eq]; omega
  have hn : H p = none := I.hok.fresh hp
  have J : L2.Inv X pins σ (upd H p (.lst (ys.map V.str))) { s with heap := z.heap, gens := z.gens, drawn := z.drawn, toks := z.toks } :=
    I.call (ch := []) (Un.laid k hp hn) (I.hok.laid k hp ⟨hlen, out.toList, c, vals_of_strs hi, hg⟩) (by rw [g]; exact I.bare) (fun _ z => nomatch z)
  have e : z = { s with heap := z.heap, gens := z.gens, drawn := z.drawn, toks := z.toks } := by
    cases z
    cases s
    cases o
    rfl
  rw [e]
  exact ⟨.ref p, _, J, rfl, q ys p hy hs hn⟩
end
/-! ### in, not in by an own __contains__ -/
section
variable {prog : Program} {w : World} {A : Around} {E : Value → Shared → Prop} {s : Shared} {K : PySem.W.Frag} {x C f : Addr} {ox : Obj} {od : Option Obj}
theorem contains_own {y : Value} {Q : Bool → Shared → Prop} (X : K.In s.heap) (I : PySem.W.InstAt s.heap x ox C od) (hs : PySem.W.findIn K (.ref C) "__contains__" = some (some (.ref f))) (hf : PySem.W.isFn K (.ref f) = true)
    (h : wpAny (model prog w) A (call (.ref f) [.ref x, y]) (fun v z => ∃ b, v = .bool b ∧ Q b z) E s) : wpAny (model prog w) A (contains (.ref x) y) Q E s := by
  unfold contains
  refine wpAny_holding ?_
  have hst : stdlibNamesSay? (.ref x) y = none := rfl
  rw [hst]
  dsimp only
  refine wpAny_bind (m := specialOf (.ref x) (Str.ofString "__contains__")) (wpAny_bind (I.type.here ((PySem.W.looks_findIn X hs).here ?_)))
  rw [if_neg (by intro q; cases q)]
  refine wpAny_bind (m := callSpecialUnlessNone? (.ref x) (Str.ofString "__contains__") [y] _) ?_
  unfold callSpecialUnlessNone?
  refine wpAny_bind (m := specialOf (.ref x) (Str.ofString "__contains__")) (wpAny_bind (I.type.here ((PySem.W.looks_findIn X hs).here ?_)))
  refine wpAny_holding (wpAny_bind ((PySem.W.bind_fn X _ (beq_iff_eq.mp hf)).here ?_))
  dsimp only
  rw [if_neg (by intro q; cases q)]
  refine wpAny_bind (wpAny_mono h (fun v z q => wpAny_pure ?_) fun _ _ q => q)
  obtain ⟨b, rfl, q⟩ := q
  exact wpAny_truthy_bool q
end
section
variable {X : Cx} {CX : CXT} {n : Nat} {C g : Addr} {sp : Sp} {E : XK}
def rInOwn (C : Addr) (sp : Sp) (E : XK) (neg : Bool) : V → V → Hp → VK → Prop := fun y x H Q => ∃ a dx vs, x = V.ref a ∧ SlX.Slt H a C dx vs ∧ sp [.ref a, y] H (fun z H' => ∃ b, z = .bl b ∧ Q (.bl (if neg then !b else b)) H') E
theorem op_notInOwn (hs : PySem.W.findIn X.K (.ref C) "__contains__" = some (some (.ref g))) (hf : PySem.W.isFn X.K (.ref g) = true) (F : FnR X.prog X.w X.K X.mg X.base CX n g sp) (hr : Room n X.A) (hx : Passes CX X E) : OpR X (compareOp .NotIn) (rInOwn C sp E true) := by
  intro pins s σ H y x v u Q I ry rx h
  obtain ⟨a, dx, vs, rfl, ha, q⟩ := h
  cases (show u = Value.ref a from rx)
  obtain ⟨sl, od, _, J, _⟩ := SlX.slt_inst I ha
  refine wpAny_bind (m := contains (.ref a) v) (contains_own I.kIn J hs hf (wpAny_mono (wpAny_call (run_fnR (us := [.ref a, v]) (vs := [.ref a, y]) F hr hx I (.cons rfl (.cons ry .nil)) q)) (fun w s' z => ?_) fun _ _ x => x))
  obtain ⟨z', H', I', rz, b, rfl, qz⟩ := z
  cases (show w = Value.bool b from rz)
  exact ⟨b, rfl, wpAny_pure ⟨.bl (!b), H', I', rfl, qz⟩⟩
theorem op_inOwn (hs : PySem.W.findIn X.K (.ref C) "__contains__" = some (some (.ref g))) (hf : PySem.W.isFn X.K (.ref g) = true) (F : FnR X.prog X.w X.K X.mg X.base CX n g sp) (hr : Room n X.A) (hx : Passes CX X E) : OpR X (compareOp .In) (rInOwn C sp E false) := by
  intro pins s σ H y x v u Q I ry rx h
  obtain ⟨a, dx, vs, rfl, ha, q⟩ := h
  cases (show u = Value.ref a from rx)
  obtain ⟨sl, od, _, J, _⟩ := SlX.slt_inst I ha
  refine wpAny_bind (m := contains (.ref a) v) (contains_own I.kIn J hs hf (wpAny_mono (wpAny_call (run_fnR (us := [.ref a, v]) (vs := [.ref a, y]) F hr hx I (.cons rfl (.cons ry .nil)) q)) (fun w s' z => ?_) fun _ _ x => x))
  obtain ⟨z', H', I', rz, b, rfl, qz⟩ := z
  cases (show w = Value.bool b from rz)
  exact ⟨b, rfl, wpAny_pure ⟨.bl b, H', I', rfl, qz⟩⟩
end
end MN
/-! plain law of prices: closed prices (Floyd and Warshall), costs of changes by a table, a cheapest last change -/
namespace MN
abbrev Nd := Option Nat
/-- a node: no sign, or one of L -/
def InL (L : List Nat) (x : Nd) : Prop := ∀ a, x = some a → a ∈ L
theorem InL.no {L : List Nat} : InL L none := fun _ e => nomatch e
theorem InL.of {L : List Nat} {a : Nat} (h : a ∈ L) : InL L (some a) := fun _ e => by cases e; exact h
section
variable {L : List Nat} {r : Nd → Nd → Option Int}
inductive Path (L : List Nat) (r : Nd → Nd → Option Int) : Nd → Nd → Int → Prop
  | one {x y p} : InL L x → InL L y → r x y = some p → Path L r x y p
  | more {x y z t p} : Path L r x y t → InL L z → r y z = some p → Path L r x z (t + p)
theorem Path.cat {x y z : Nd} {s t : Int} (h1 : Path L r x y s) (h2 : Path L r y z t) : Path L r x z (s + t) := by
  induction h2 with
  | one _ hy e => exact h1.more hy e
  | more _ hz e ih => rw [← Int.add_assoc]; exact ih.more hz e
theorem Path.pos (hp : ∀ x y p, r x y = some p → 1 ≤ p) {x y : Nd} {t : Int} (h : Path L r x y t) : 1 ≤ t := by
  induction h with
  | one _ _ e => exact hp _ _ _ e
  | more _ _ e ih => have := hp _ _ _ e; omega
theorem Path.ends {x y : Nd} {t : Int} (h : Path L r x y t) : InL L x ∧ InL L y := by
  induction h with
  | one hx hy _ => exact ⟨hx, hy⟩
  | more _ hz _ ih => exact ⟨ih.1, hz⟩
/-- a table while it is being closed; M: the middles so far -/
structure Tb (L : List Nat) (r : Nd → Nd → Option Int) (M : Nd → Prop) (O : Nd → Nd → Option Int) : Prop where
  dg : ∀ x, O x x = none
  pa : ∀ x y t, O x y = some t → Path L r x y t
  le : ∀ x y p, InL L x → InL L y → r x y = some p → ∃ t, O x y = some t ∧ t ≤ p
  tri : ∀ m x y a b, M m → x ≠ y → O x m = some a → O m y = some b → ∃ t, O x y = some t ∧ t ≤ a + b
/-- one middle -/
def ph (m : Nd) (O : Nd → Nd → Option Int) : Nd → Nd → Option Int := fun x y => if x = y then O x y else match O x m, O m y with
  | some a, some b => some (match O x y with | none => a + b | some t => min (a + b) t)
  | _, _ => O x y
variable {m : Nd} {O : Nd → Nd → Option Int}
theorem ph_one {x y : Nd} {t : Int} (h : O x y = some t) : ∃ t', ph m O x y = some t' ∧ t' ≤ t := by
  unfold ph
  split
  · exact ⟨t, h, Int.le_refl _⟩
  · split
    · rw [h]; exact ⟨_, rfl, Int.min_le_right _ _⟩
    · exact ⟨t, h, Int.le_refl _⟩
theorem ph_two {x y : Nd} {a b : Int} (n : x ≠ y) (h1 : O x m = some a) (h2 : O m y = some b) : ∃ t', ph m O x y = some t' ∧ t' ≤ a + b := by
  unfold ph
  rw [if_neg n, h1, h2]
  cases O x y with
  | none => exact ⟨_, rfl, Int.le_refl _⟩
  | some t => exact ⟨_, rfl, Int.min_le_left _ _⟩
theorem ph_or {x y : Nd} {t : Int} (h : ph m O x y = some t) : O x y = some t ∨ ∃ a b, x ≠ y ∧ O x m = some a ∧ O m y = some b ∧ t = a + b := by
  unfold ph at h
  split at h
  · exact .inl h
  · rename_i n
    split at h
    · rename_i a b e1 e2
      cases e : O x y with
      | none => rw [e] at h; exact .inr ⟨a, b, n, e1, e2, (Option.some.inj h).symm⟩
      | some t0 =>
        rw [e] at h
        have h' : min (a + b) t0 = t := Option.some.inj h
        rcases Int.le_total (a + b) t0 with q | q
        · rw [Int.min_eq_left q] at h'; exact .inr ⟨a, b, n, e1, e2, h'.symm⟩
        · rw [Int.min_eq_right q] at h'; rw [h']; exact .inl rfl
    · exact .inl h
theorem Tb.phase {M : Nd → Prop} (hp : ∀ x y p, r x y = some p → 1 ≤ p) (T : Tb L r M O) : Tb L r (fun z => M z ∨ z = m) (ph m O) := by
  have po : ∀ {x y t}, O x y = some t → 1 ≤ t := fun h => (T.pa _ _ _ h).pos hp
  refine ⟨fun x => ?_, fun x y t h => ?_, fun x y p hx hy h => ?_, fun k x y a b hk n h1 h2 => ?_⟩
  · unfold ph; rw [if_pos rfl]; exact T.dg x
  · rcases ph_or h with h | ⟨a, b, _, h1, h2, rfl⟩
    · exact T.pa _ _ _ h
    · exact (T.pa _ _ _ h1).cat (T.pa _ _ _ h2)
  · obtain ⟨t, e, l⟩ := T.le x y p hx hy h
    obtain ⟨t', e', l'⟩ := ph_one (m := m) e
    exact ⟨t', e', by omega⟩
  · rcases hk with hk | rfl
    · rcases ph_or h1 with h1' | ⟨a1, a2, _, e1, e2, rfl⟩
      · clear h1
        rcases ph_or h2 with h2' | ⟨b1, b2, _, f1, f2, rfl⟩
        · obtain ⟨t, e, l⟩ := T.tri k x y a b hk n h1' h2'
          obtain ⟨t', e', l'⟩ := ph_one (m := m) e
          exact ⟨t', e', by omega⟩
        · by_cases q : x = m
          · subst q
            obtain ⟨t', e', l'⟩ := ph_one (m := x) f2
            have := po h1'; have := po f1
            exact ⟨t', e', by omega⟩
          · obtain ⟨t, e, l⟩ := T.tri k x m a b1 hk q h1' f1
            obtain ⟨t', e', l'⟩ := ph_two (m := m) n e f2
            exact ⟨t', e', by omega⟩
      · rcases ph_or h2 with h2 | ⟨b1, b2, _, f1, f2, rfl⟩
        · by_cases q : m = y
          · subst q
            obtain ⟨t', e', l'⟩ := ph_one (m := m) e1
            have := po h2; have := po e2
            exact ⟨t', e', by omega⟩
          · obtain ⟨t, e, l⟩ := T.tri k m y a2 b hk q e2 h2
            obtain ⟨t', e', l'⟩ := ph_two (m := m) n e1 e
            exact ⟨t', e', by omega⟩
        · obtain ⟨t', e', l'⟩ := ph_two (m := m) n e1 f2
          have := po e2; have := po f1
          exact ⟨t', e', by omega⟩
    · have g1 : O x k = some a := by
        rcases ph_or h1 with h | ⟨_, _, _, _, e, _⟩
        · exact h
        · rw [T.dg k] at e; cases e
      have g2 : O k y = some b := by
        rcases ph_or h2 with h | ⟨_, _, _, e, _⟩
        · exact h
        · rw [T.dg k] at e; cases e
      exact ph_two n g1 g2
/-- closed prices -/
structure Clo (L : List Nat) (r : Nd → Nd → Option Int) (c : Nd → Nd → Int) : Prop where
  z : ∀ x, c x x = 0
  pos : ∀ x y, InL L x → InL L y → x ≠ y → 1 ≤ c x y
  tri : ∀ x y z, InL L x → InL L y → InL L z → c x z ≤ c x y + c y z
  le : ∀ x y p, InL L x → InL L y → r x y = some p → c x y ≤ p
  last : ∀ x y, InL L x → InL L y → x ≠ y → ∃ z p, InL L z ∧ z ≠ y ∧ r z y = some p ∧ c x y = c x z + p
def cOf (O : Nd → Nd → Option Int) : Nd → Nd → Int := fun x y => (O x y).getD 0
theorem Tb.clo (hp : ∀ x y p, r x y = some p → 1 ≤ p) (hr : ∀ a ∈ L, (∃ p, r none (some a) = some p) ∧ ∃ p, r (some a) none = some p) (T : Tb L r (InL L) O) : Clo L r (cOf O) ∧ ∀ x y, InL L x → InL L y → x ≠ y → ∃ t, O x y = some t := by
  have tot : ∀ x y, InL L x → InL L y → x ≠ y → ∃ t, O x y = some t := fun x y hx hy n => by
    cases x with
    | none =>
      cases y with
      | none => exact absurd rfl n
      | some b =>
        obtain ⟨p, e⟩ := (hr b (hy b rfl)).1
        obtain ⟨t, h, _⟩ := T.le _ _ p hx hy e
        exact ⟨t, h⟩
    | some a =>
      obtain ⟨p, e⟩ := (hr a (hx a rfl)).2
      obtain ⟨t, h, _⟩ := T.le _ _ p hx InL.no e
      cases y with
      | none => exact ⟨t, h⟩
      | some b =>
        obtain ⟨q, f⟩ := (hr b (hy b rfl)).1
        obtain ⟨u, g, _⟩ := T.le _ _ q InL.no hy f
        obtain ⟨v, k, _⟩ := T.tri none _ _ t u InL.no n h g
        exact ⟨v, k⟩
  have c0 : ∀ x, cOf O x x = 0 := fun x => by unfold cOf; rw [T.dg x]; rfl
  have cv : ∀ {x y t}, O x y = some t → cOf O x y = t := fun e => by unfold cOf; rw [e]; rfl
  have tri : ∀ x y z, InL L x → InL L y → InL L z → cOf O x z ≤ cOf O x y + cOf O y z := fun x y z hx hy hz => by
    by_cases h1 : x = y
    · subst h1; rw [c0 x]; omega
    · by_cases h2 : y = z
      · subst h2; rw [c0 y]; omega
      · obtain ⟨a, ea⟩ := tot x y hx hy h1
        obtain ⟨b, eb⟩ := tot y z hy hz h2
        have pa := (T.pa _ _ _ ea).pos hp
        have pb := (T.pa _ _ _ eb).pos hp
        rw [cv ea, cv eb]
        by_cases h3 : x = z
        · subst h3; rw [c0 x]; omega
        · obtain ⟨t, et, lt⟩ := T.tri y x z a b hy h3 ea eb
          rw [cv et]; exact lt
  have le : ∀ x y p, InL L x → InL L y → r x y = some p → cOf O x y ≤ p := fun x y p hx hy e => by
    obtain ⟨t, et, lt⟩ := T.le x y p hx hy e
    rw [cv et]; exact lt
  refine ⟨⟨c0, fun x y hx hy n => ?_, tri, le, fun x y hx hy n => ?_⟩, tot⟩
  · obtain ⟨t, e⟩ := tot x y hx hy n
    rw [cv e]
    exact (T.pa _ _ _ e).pos hp
  · obtain ⟨t, e⟩ := tot x y hx hy n
    have lt : ∀ {z u}, Path L r x z u → cOf O x z ≤ u := fun h => by
      induction h with
      | one hx hy e => exact le _ _ _ hx hy e
      | more hh hz e ih =>
        have h1 := tri _ _ _ hx hh.ends.2 hz
        have h2 := le _ _ _ hh.ends.2 hz e
        omega
    have rn : ∀ {z q}, r z y = some q → InL L z → z ≠ y := fun {z q} e hz q' => by
      subst q'
      obtain ⟨t, et, _⟩ := T.le _ _ _ hz hz e
      rw [T.dg] at et; cases et
    rw [cv e]
    cases T.pa _ _ _ e with
    | one _ _ e' => exact ⟨x, t, hx, n, e', by rw [c0 x]; omega⟩
    | more hh hz2 e' =>
      rename_i z s p
      have h1 := lt hh
      have h2 := tri x z y hx hh.ends.2 hy
      have h3 := le z y p hh.ends.2 hy e'
      rw [cv e] at h2
      exact ⟨z, p, hh.ends.2, rn e' hh.ends.2, e', by omega⟩
/-- closed prices are closed -/
theorem Clo.same {c c' : Nd → Nd → Int} (C : Clo L r c) (C' : Clo L (fun x y => if x = y then none else some (c x y)) c') : ∀ x y, InL L x → InL L y → c' x y = c x y := by
  have key : ∀ (n : Nat) (x y : Nd), InL L x → InL L y → c' x y ≤ n → c x y ≤ c' x y := by
    intro n
    induction n with
    | zero =>
      intro x y hx hy h
      by_cases e : x = y
      · subst e; rw [C.z, C'.z]; exact Int.le_refl _
      · have := C'.pos x y hx hy e; omega
    | succ n ih =>
      intro x y hx hy h
      by_cases e : x = y
      · subst e; rw [C.z, C'.z]; exact Int.le_refl _
      · obtain ⟨z, p, hz, nz, er, ec⟩ := C'.last x y hx hy e
        have er' : (if z = y then none else some (c z y)) = some p := er
        rw [if_neg nz] at er'
        have ep : c z y = p := Option.some.inj er'
        have p1 := C.pos z y hz hy nz
        have h1 := ih x z hx hz (by omega)
        have h2 := C.tri x z y hx hz hy
        omega
  intro x y hx hy
  by_cases e : x = y
  · subst e; rw [C.z, C'.z]
  · have h1 : c' x y ≤ c x y := C'.le x y _ hx hy (by show (if x = y then none else some (c x y)) = _; rw [if_neg e])
    have h2 := key (c' x y).toNat x y hx hy (by have := C'.pos x y hx hy e; omega)
    omega
end
/-! ### costs -/
def Dc (c : Nd → Nd → Int) : List Nat → List Nat → Int
  | [], [] => 0
  | [], y :: v => Dc c [] v + c none (some y)
  | x :: u, [] => Dc c u [] + c (some x) none
  | x :: u, y :: v => min (min (Dc c u v + c (some x) (some y)) (Dc c u (y :: v) + c (some x) none)) (Dc c (x :: u) v + c none (some y))
section
variable {L : List Nat} {r : Nd → Nd → Option Int} {c : Nd → Nd → Int}
theorem Dc_put (C : Clo L r c) (y : Nat) (u v : List Nat) : Dc c u (y :: v) ≤ Dc c u v + c none (some y) := by
  cases u with
  | nil => simp [Dc]
  | cons x u => simp only [Dc]; omega
theorem Dc_out (C : Clo L r c) (x : Nat) (u v : List Nat) : Dc c (x :: u) v ≤ Dc c u v + c (some x) none := by
  cases v with
  | nil => simp [Dc]
  | cons y v => simp only [Dc]; omega
theorem Dc_sub (C : Clo L r c) (x y : Nat) (u v : List Nat) : Dc c (x :: u) (y :: v) ≤ Dc c u v + c (some x) (some y) := by simp only [Dc]; omega
theorem Dc_or {x y : Nat} {u v : List Nat} : Dc c (x :: u) (y :: v) = Dc c u v + c (some x) (some y) ∨ Dc c (x :: u) (y :: v) = Dc c u (y :: v) + c (some x) none ∨ Dc c (x :: u) (y :: v) = Dc c (x :: u) v + c none (some y) := by
  simp only [Dc]; omega
theorem Dc_self (C : Clo L r c) : ∀ u, Dc c u u ≤ 0
  | [] => by simp [Dc]
  | x :: u => by have := Dc_sub C x x u u; have := Dc_self C u; rw [C.z] at *; omega
theorem Dc_nn (C : Clo L r c) : ∀ u v, (∀ a ∈ u, a ∈ L) → (∀ a ∈ v, a ∈ L) → 0 ≤ Dc c u v ∧ (Dc c u v = 0 → u = v)
  | [], [], _, _ => ⟨by simp [Dc], fun _ => rfl⟩
  | [], y :: v, hu, hv => by
    have h1 := (Dc_nn C [] v hu fun a h => hv a (List.mem_cons_of_mem _ h)).1
    have h2 := C.pos none (some y) InL.no (InL.of (hv y List.mem_cons_self)) (fun e => nomatch e)
    simp only [Dc]
    exact ⟨by omega, fun e => by omega⟩
  | x :: u, [], hu, hv => by
    have h1 := (Dc_nn C u [] (fun a h => hu a (List.mem_cons_of_mem _ h)) hv).1
    have h2 := C.pos (some x) none (InL.of (hu x List.mem_cons_self)) InL.no (fun e => nomatch e)
    simp only [Dc]
    exact ⟨by omega, fun e => by omega⟩
  | x :: u, y :: v, hu, hv => by
    have hu' : ∀ a ∈ u, a ∈ L := fun a h => hu a (List.mem_cons_of_mem _ h)
    have hv' : ∀ a ∈ v, a ∈ L := fun a h => hv a (List.mem_cons_of_mem _ h)
    have hx := InL.of (hu x List.mem_cons_self)
    have hy := InL.of (hv y List.mem_cons_self)
    have h1 := Dc_nn C u v hu' hv'
    have h2 := (Dc_nn C u (y :: v) hu' hv).1
    have h3 := (Dc_nn C (x :: u) v hu hv').1
    have p2 := C.pos (some x) none hx InL.no (fun e => nomatch e)
    have p3 := C.pos none (some y) InL.no hy (fun e => nomatch e)
    by_cases e : x = y
    · subst e
      rcases Dc_or (c := c) (x := x) (y := x) (u := u) (v := v) with q | q | q
      · rw [q, C.z]
        exact ⟨by omega, fun e => by rw [h1.2 (by omega)]⟩
      · rw [q]; exact ⟨by omega, fun e => by omega⟩
      · rw [q]; exact ⟨by omega, fun e => by omega⟩
    · have p1 := C.pos (some x) (some y) hx hy (fun q => e (Option.some.inj q))
      rcases Dc_or (c := c) (x := x) (y := y) (u := u) (v := v) with q | q | q
      · rw [q]; exact ⟨by omega, fun e => by omega⟩
      · rw [q]; exact ⟨by omega, fun e => by omega⟩
      · rw [q]; exact ⟨by omega, fun e => by omega⟩
/-- one change at some place, by the prices f -/
inductive Chg (L : List Nat) (f : Nd → Nd → Option Int) : List Nat → List Nat → Int → Prop
  | put {y v s} : y ∈ L → f none (some y) = some s → Chg L f v (y :: v) s
  | out {y v s} : y ∈ L → f (some y) none = some s → Chg L f (y :: v) v s
  | swp {y z v s} : y ∈ L → z ∈ L → f (some y) (some z) = some s → Chg L f (y :: v) (z :: v) s
  | cons {y v w s} : Chg L f v w s → Chg L f (y :: v) (y :: w) s
theorem Dc_end (C : Clo L r c) {y z : Nd} {s : Int} (hy : InL L y) (hz : InL L z) (h : c y z ≤ s) : ∀ u v, (∀ a ∈ u, a ∈ L) → Dc c u (z.toList ++ v) ≤ Dc c u (y.toList ++ v) + s := by
  have h0 : 0 ≤ c y z := by
    by_cases e : y = z
    · subst e; rw [C.z]; exact Int.le_refl _
    · have := C.pos y z hy hz e; omega
  cases y with
  | none =>
    cases z with
    | none => intro u v _; simp; omega
    | some z =>
      intro u v _
      have := Dc_put C z u v
      simp at this ⊢; omega
  | some y =>
    intro u
    induction u with
    | nil =>
      intro v _
      cases z with
      | none =>
        show Dc c [] v ≤ Dc c [] (y :: v) + s
        have := C.pos none (some y) InL.no hy (fun e => nomatch e)
        simp only [Dc]; omega
      | some z =>
        show Dc c [] (z :: v) ≤ Dc c [] (y :: v) + s
        have := C.tri none (some y) (some z) InL.no hy hz
        simp only [Dc]; omega
    | cons x u ih =>
      intro v hu
      have hx := InL.of (hu x List.mem_cons_self)
      have hu' : ∀ a ∈ u, a ∈ L := fun a h => hu a (List.mem_cons_of_mem _ h)
      have i1 := ih v hu'
      cases z with
      | none =>
        show Dc c (x :: u) v ≤ Dc c (x :: u) (y :: v) + s
        have i1' : Dc c u v ≤ Dc c u (y :: v) + s := i1
        have o1 := Dc_out C x u v
        rcases Dc_or (c := c) (x := x) (y := y) (u := u) (v := v) with q | q | q
        · have := C.tri (some x) (some y) none hx hy InL.no; omega
        · omega
        · have := C.pos none (some y) InL.no hy (fun e => nomatch e); omega
      | some z =>
        show Dc c (x :: u) (z :: v) ≤ Dc c (x :: u) (y :: v) + s
        have i1' : Dc c u (z :: v) ≤ Dc c u (y :: v) + s := i1
        have o1 := Dc_out C x u (z :: v)
        have o2 := Dc_sub C x z u v
        have o3 := Dc_put C z (x :: u) v
        rcases Dc_or (c := c) (x := x) (y := y) (u := u) (v := v) with q | q | q
        · have := C.tri (some x) (some y) (some z) hx hy hz; omega
        · omega
        · have := C.tri none (some y) (some z) InL.no hy hz; omega
theorem Dc_in {v w : List Nat} {s : Int} (C : Clo L r c) (y : Nat) (hs : ∀ u, (∀ a ∈ u, a ∈ L) → Dc c u w ≤ Dc c u v + s) : ∀ u, (∀ a ∈ u, a ∈ L) → Dc c u (y :: w) ≤ Dc c u (y :: v) + s := by
  intro u
  induction u with
  | nil => intro hu; have := hs [] hu; simp only [Dc]; omega
  | cons x u ih =>
    intro hu
    have hu' : ∀ a ∈ u, a ∈ L := fun a h => hu a (List.mem_cons_of_mem _ h)
    have h1 := hs u hu'
    have h2 := hs (x :: u) hu
    have h3 := ih hu'
    have o1 := Dc_out C x u (y :: w)
    have o2 := Dc_sub C x y u w
    have o3 := Dc_put C y (x :: u) w
    rcases Dc_or (c := c) (x := x) (y := y) (u := u) (v := v) with q | q | q <;> omega
/-- a change changes a cost by at most its price -/
theorem Dc_lip (C : Clo L r c) {v w : List Nat} {s : Int} (h : Chg L r v w s) : ∀ u, (∀ a ∈ u, a ∈ L) → Dc c u w ≤ Dc c u v + s := by
  induction h with
  | @put y v s hy e => exact fun u hu => Dc_end C InL.no (InL.of hy) (C.le _ _ _ InL.no (InL.of hy) e) u v hu
  | @out y v s hy e => exact fun u hu => Dc_end C (InL.of hy) InL.no (C.le _ _ _ (InL.of hy) InL.no e) u v hu
  | @swp y z v s hy hz e => exact fun u hu => Dc_end C (InL.of hy) (InL.of hz) (C.le _ _ _ (InL.of hy) (InL.of hz) e) u v hu
  | @cons y v w s _ ih => exact Dc_in C y ih
/-- a cheapest way has a last change -/
theorem Dc_pre (C : Clo L r c) : ∀ u v, (∀ a ∈ u, a ∈ L) → (∀ a ∈ v, a ∈ L) → u ≠ v → ∃ w s, Chg L r w v s ∧ (∀ a ∈ w, a ∈ L) ∧ Dc c u w + s ≤ Dc c u v ∧ (w.length ≤ v.length ∨ (w.length = v.length + 1 ∧ v.length < u.length)) := by
  have putw : ∀ (u v : List Nat) (y : Nat), y ∈ L → (∀ a ∈ v, a ∈ L) → ∃ w s, Chg L r w (y :: v) s ∧ (∀ a ∈ w, a ∈ L) ∧ Dc c u w + s ≤ Dc c u v + c none (some y) ∧ w.length ≤ (y :: v).length := fun u v y hy hv => by
    obtain ⟨z, p, hz, nz, er, ec⟩ := C.last none (some y) InL.no (InL.of hy) (fun e => nomatch e)
    cases z with
    | none => exact ⟨v, p, .put hy er, hv, by rw [C.z] at ec; omega, Nat.le_succ _⟩
    | some z =>
      refine ⟨z :: v, p, .swp (hz z rfl) hy er, fun a ha => ?_, ?_, Nat.le_refl _⟩
      · rcases List.mem_cons.mp ha with rfl | ha
        · exact hz _ rfl
        · exact hv a ha
      · have := Dc_put C z u v; omega
  intro u
  induction u with
  | nil =>
    intro v hu hv n
    cases v with
    | nil => exact absurd rfl n
    | cons y v =>
      obtain ⟨w, s, h1, h2, h3, h4⟩ := putw [] v y (hv y List.mem_cons_self) fun a h => hv a (List.mem_cons_of_mem _ h)
      exact ⟨w, s, h1, h2, by simp only [Dc]; exact h3, .inl h4⟩
  | cons x u ih =>
    intro v
    induction v with
    | nil =>
      intro hu hv _
      have hx := hu x List.mem_cons_self
      have hu' : ∀ a ∈ u, a ∈ L := fun a h => hu a (List.mem_cons_of_mem _ h)
      by_cases e : u = []
      · subst e
        obtain ⟨z, p, hz, nz, er, ec⟩ := C.last (some x) none (InL.of hx) InL.no (fun e => nomatch e)
        cases z with
        | none => exact absurd rfl nz
        | some z =>
          refine ⟨[z], p, .out (hz z rfl) er, fun a ha => ?_, ?_, .inr ⟨rfl, Nat.zero_lt_succ _⟩⟩
          · rcases List.mem_cons.mp ha with rfl | ha
            · exact hz _ rfl
            · cases ha
          · have := Dc_sub C x z [] []; simp only [Dc] at this ⊢; omega
      · obtain ⟨w, s, h1, h2, h3, h4⟩ := ih [] hu' hv e
        refine ⟨w, s, h1, h2, ?_, h4.imp id fun q => ⟨q.1, by simp⟩⟩
        have := Dc_out C x u w; simp only [Dc]; omega
    | cons y v ihv =>
      intro hu hv n
      have hx := hu x List.mem_cons_self
      have hy := hv y List.mem_cons_self
      have hu' : ∀ a ∈ u, a ∈ L := fun a h => hu a (List.mem_cons_of_mem _ h)
      have hv' : ∀ a ∈ v, a ∈ L := fun a h => hv a (List.mem_cons_of_mem _ h)
      rcases Dc_or (c := c) (x := x) (y := y) (u := u) (v := v) with q | q | q
      · by_cases e : x = y
        · subst e
          have n' : u ≠ v := fun e => n (by rw [e])
          obtain ⟨w, s, h1, h2, h3, h4⟩ := ih v hu' hv' n'
          refine ⟨x :: w, s, .cons h1, fun a ha => ?_, ?_, h4.imp Nat.succ_le_succ fun q => ⟨by simp [q.1], by simp [q.2]⟩⟩
          · rcases List.mem_cons.mp ha with rfl | ha
            · exact hx
            · exact h2 a ha
          · have := Dc_sub C x x u w; rw [C.z] at *; omega
        · obtain ⟨z, p, hz, nz, er, ec⟩ := C.last (some x) (some y) (InL.of hx) (InL.of hy) (fun q => e (Option.some.inj q))
          cases z with
          | none =>
            refine ⟨v, p, .put hy er, hv', ?_, .inl (Nat.le_succ _)⟩
            have := Dc_out C x u v; omega
          | some z =>
            refine ⟨z :: v, p, .swp (hz z rfl) hy er, fun a ha => ?_, ?_, .inl (Nat.le_refl _)⟩
            · rcases List.mem_cons.mp ha with rfl | ha
              · exact hz _ rfl
              · exact hv' a ha
            · have := Dc_sub C x z u v; omega
      · by_cases e : u = y :: v
        · subst e
          obtain ⟨z, p, hz, nz, er, ec⟩ := C.last (some x) none (InL.of hx) InL.no (fun e => nomatch e)
          cases z with
          | none => exact absurd rfl nz
          | some z =>
            refine ⟨z :: y :: v, p, .out (hz z rfl) er, fun a ha => ?_, ?_, .inr ⟨rfl, by simp⟩⟩
            · rcases List.mem_cons.mp ha with rfl | ha
              · exact hz _ rfl
              · exact hv a ha
            · have := Dc_sub C x z (y :: v) (y :: v); omega
        · obtain ⟨w, s, h1, h2, h3, h4⟩ := ih (y :: v) hu' hv e
          refine ⟨w, s, h1, h2, ?_, h4.imp id fun q => ⟨q.1, by have := q.2; simp at this ⊢; omega⟩⟩
          have := Dc_out C x u w; omega
      · obtain ⟨w, s, h1, h2, h3, h4⟩ := putw (x :: u) v y hy hv'
        exact ⟨w, s, h1, h2, by omega, .inl h4⟩
end
end MN
/-! the draws of the laws k05 .. k09: _law_toss, _law_cup -/
namespace MN
open PySem PySem.Spec PyProof.Rows L2
section
variable {P : Program} {w : World} {K : PySem.W.Frag} {mg : Str → Option Value} {base : Heap}
abbrev N_law_toss : List Str := ["_law_cup_here", "_law_total", "_law_found", "_law_one", "_law_two", "_law_three"]
theorem sc_law_toss : FnScope N_law_toss ["_law_cup_here", "_law_total"] (defScope (top 33)) := ⟨rfl, rfl, rfl, by decide +kernel, rfl, by decide +kernel, by decide +kernel⟩
theorem c_law_toss (A : At K mg "_law_toss" (top 33)) (B : Blt mg) : Cal P w K mg base 1 "_law_toss" spDip := by
  refine cal_of A sc_law_toss (fun _ _ _ _ _ _ us hl => match us, hl with | [_, _], _ => rfl) (fun vs H Q E h => ?_) (fun _ cdv A outer s H vs Q E hr h => ?_)
  · obtain ⟨_, _, _, _, _, rfl, _⟩ := h; rfl
  · obtain ⟨p, n, a, b, c, rfl, hp, h0, h1, hQ⟩ := h
    refine ⟨_, (pss_cons (ps_if (pt_cmpR op_gt (pe_ix ix_list (pv 0) pe_int (fun _ _ => rfl)) pe_int (nomark _))
      (pss_cons (ps_set (i := 2) sc_law_toss.nd rfl (Or.inl rfl) (pe_op op_mod (pe_callTy call_int1 (by rfl) B.int (by decide +kernel) (pa_cons (pe_ix ix_list (pv 0) pe_int (fun _ _ => rfl)) pa_nil)) (pv 1)))
      (pss_cons (ps_asg (pe_op op_fdiv (pe_ix ix_list (pv 0) pe_int (fun _ _ => rfl)) (pv 1)) (pg_sub (pv 0) pe_int set_list))
      (pss_one (ps_ret (pv 2)))))
      pss_nil)
      (pss_cons (ps_asg (pe_op op_add (pe_ix ix_list (pv 0) pe_int (fun _ _ => rfl)) pe_int) (pg_sub (pv 0) pe_int set_list))
      (pss_cons (ps_set (i := 3) sc_law_toss.nd rfl (Or.inl rfl) (pe_op op_mod (pe_callTy call_int1 (by rfl) B.int (by decide +kernel) (pa_cons (pe_op op_add (pe_ix ix_list (pv 0) pe_int (fun _ _ => rfl)) (pe_op op_mul pe_int (pe_ix ix_list (pv 0) pe_int (fun _ _ => rfl)))) pa_nil)) pe_int))
      (pss_cons (ps_set (i := 4) sc_law_toss.nd rfl (Or.inl rfl) (pe_op op_mod (pe_callTy call_int1 (by rfl) B.int (by decide +kernel) (pa_cons (pe_op op_add (pe_op op_add (pe_op op_mul (pv 3) (pv 3)) (pe_op op_fdiv (pe_ix ix_list (pv 0) pe_int (fun _ _ => rfl)) pe_int)) (pe_op op_mul pe_int (pe_ix ix_list (pv 0) pe_int (fun _ _ => rfl)))) pa_nil)) pe_int))
      (pss_cons (ps_set (i := 5) sc_law_toss.nd rfl (Or.inl rfl) (pe_op op_mod (pe_callTy call_int1 (by rfl) B.int (by decide +kernel) (pa_cons (pe_op op_add (pe_op op_mul (pv 4) (pv 4)) (pv 3)) pa_nil)) pe_int))
      (pss_one (ps_ret (pe_op op_mod (pe_callTy call_int1 (by rfl) B.int (by decide +kernel) (pa_cons (pe_op op_fdiv (pv 5) pe_int) pa_nil)) (pv 1))))))))), ?_⟩
    refine ⟨_, rfl, p, _, _, _, rfl, rfl, SqL.of hp, rfl, _, _, rfl, rfl, _, rfl, ?_⟩
    refine ite2 (fun _ => ?_) (fun _ => ?_)
    · refine ⟨_, rfl, p, _, _, _, rfl, rfl, SqL.of hp, rfl, .inl ⟨_, rfl, _, rfl, _, _, rfl, rfl, h0, ?_⟩⟩
      refine ⟨_, rfl, p, _, _, _, rfl, rfl, SqL.of hp, rfl, _, rfl, _, _, rfl, rfl, ⟨h0, by omega⟩, _, rfl, p, _, _, 0, rfl, rfl, hp, rfl, ?_⟩
      exact ⟨_, rfl, hQ _ _ _ _ (Int.emod_nonneg _ (by omega)) (Int.emod_lt_of_pos _ h0)⟩
    · refine ⟨_, rfl, p, _, _, _, rfl, rfl, SqL.of hp, rfl, _, _, rfl, rfl, _, rfl, p, _, _, 2, rfl, rfl, hp, rfl, ?_⟩
      have hp1 : upd H p (.lst (List.set [V.int a, V.int b, V.int c] 2 (.int (c + 1)))) p = some (potO a b (c + 1)) := upd_same
      have hb : ∀ x : Int, -(2 ^ 64) < x % 1000000007 ∧ x % 1000000007 < 2 ^ 64 := fun x => by omega
      have hb2 : ∀ x : Int, -(2 ^ 64) < x % 998244353 ∧ x % 998244353 < 2 ^ 64 := fun x => by omega
      refine ⟨_, rfl, p, _, _, _, rfl, rfl, SqL.of hp1, rfl, _, rfl, p, _, _, _, rfl, rfl, SqL.of hp1, rfl, _, _, rfl, rfl, .inl ⟨by decide, by decide⟩, _, _, rfl, rfl, .inl ⟨_, rfl, _, _, rfl, rfl, (show (0 : Int) < 1000000007 by decide), ?_⟩⟩
      refine ⟨_, rfl, _, rfl, _, _, rfl, rfl, .inl (hb _), _, rfl, p, _, _, _, rfl, rfl, SqL.of hp1, rfl, _, _, rfl, rfl, ⟨by decide, by decide⟩, _, _, rfl, rfl, _, rfl, p, _, _, _, rfl, rfl, SqL.of hp1, rfl, _, _, rfl, rfl, .inl ⟨by decide, by decide⟩, _, _, rfl, rfl, .inl ⟨_, rfl, _, _, rfl, rfl, (show (0 : Int) < 998244353 by decide), ?_⟩⟩
      refine ⟨_, rfl, _, rfl, _, _, rfl, rfl, .inl (hb2 _), _, rfl, _, _, rfl, rfl, .inl ⟨_, rfl, _, _, rfl, rfl, (show (0 : Int) < 2147483629 by decide), ?_⟩⟩
      refine ⟨_, rfl, _, _, rfl, rfl, ⟨by decide, by decide⟩, .inl ⟨_, rfl, _, rfl, _, _, rfl, rfl, h0, ?_⟩⟩
      exact hQ _ a b (c + 1) (Int.emod_nonneg _ (by omega)) (Int.emod_lt_of_pos _ h0)
abbrev N_law_cup : List Str := ["_law_script", "_law_at", "_law_cell", "_law_great", "_law_seed"]
theorem sc_law_cup : FnScope N_law_cup ["_law_script", "_law_at"] (defScope (top 32)) := ⟨rfl, rfl, rfl, by decide +kernel, rfl, by decide +kernel, by decide +kernel⟩
theorem c_law_cup (A : At K mg "_law_cup" (top 32)) (B : Blt mg) : Cal P w K mg base 1 "_law_cup" (spFilled K) := by
  refine cal_of A sc_law_cup (fun _ _ _ _ _ _ us hl => match us, hl with | [_, _], _ => rfl) (fun vs H Q E h => ?_) (fun _ cdv A outer s H vs Q E hr h => ?_)
  · obtain ⟨_, _, _, rfl, _⟩ := h; rfl
  · obtain ⟨a, i, ns, rfl, ha, h0, h1, hQ⟩ := h
    refine ⟨_, (pss_cons (ps_set (i := 2) sc_law_cup.nd rfl (Or.inl rfl) (pe_ifExp (pt_cmpR op_lt (pv 1) (pe_callB call_len_seq (by rfl) B.len (by decide +kernel) (pa_cons (pv 0) pa_nil)) (nomark _)) (pe_ix ix_list (pv 0) (pv 1) (fun _ _ => rfl)) (pe_op op_add (pe_op op_mul pe_int (pv 1)) pe_int)))
      (pss_cons (ps_set (i := 3) sc_law_cup.nd rfl (Or.inl rfl) (pe_op op_mod (pe_callTy call_int1 (by rfl) B.int (by decide +kernel) (pa_cons (pe_callB call_abs (by rfl) B.abs (by decide +kernel) (pa_cons (pv 2) pa_nil)) pa_nil)) (pe_op op_powB (pe_op op_powB pe_int pe_int) pe_int)))
      (pss_cons (ps_set (i := 4) sc_law_cup.nd rfl (Or.inl rfl) (pe_op op_mod (pe_callTy call_int1 (by rfl) B.int (by decide +kernel) (pa_cons (pe_op op_add (pe_op op_add (pe_op op_add (pv 3) (pe_op op_mul pe_int (pv 1))) (pe_op op_mul pe_int (pe_callTy call_int1 (by rfl) B.int (by decide +kernel) (pa_cons (pe_cmpR op_lt (pv 2) pe_int (nomark _)) pa_nil)))) pe_int) pa_nil)) (pe_op op_add (pe_op op_powB pe_int pe_int) pe_int)))
      (pss_one (ps_ret (pe_lst (pa_cons (pe_ifExp (pt_cmpR op_gt (pv 3) (pe_op op_powB pe_int pe_int) (nomark _)) (pe_op op_sub (pv 3) (pe_op op_powB pe_int pe_int)) pe_int) (pa_cons (pv 4) (pa_cons pe_int pa_nil))))))))), ?_⟩
    have rest : ∀ cell : Int, True := fun _ => trivial
    refine ⟨_, rfl, _, rfl, a, _, rfl, .inl ha, _, _, rfl, rfl, _, rfl, ?_⟩
    refine ite2 (fun hc => ?_) (fun hc => ?_)
    · obtain ⟨x, hx⟩ := atI_int h0 (of_decide_eq_true hc)
      refine ⟨_, rfl, _, rfl, a, _, _, _, rfl, rfl, ha, hx, ?_⟩
      refine ⟨_, rfl, _, rfl, .inl ⟨_, rfl, _, _, rfl, rfl, ⟨by decide, by decide +kernel⟩, _, _, rfl, rfl, ⟨by decide, by decide +kernel⟩, _, _, rfl, rfl, ?_, ?_⟩⟩
      · show (0 : Int) < (10 ^ 60) ^ 8
        decide
      refine ⟨_, rfl, _, rfl, _, _, rfl, rfl, .inl ⟨by decide, by decide⟩, _, _, rfl, rfl, _, rfl, _, _, rfl, rfl, .inr ⟨_, rfl, _, _, rfl, rfl, .inl ⟨by decide, by decide⟩, _, _, rfl, rfl, _, _, rfl, rfl, .inl ⟨_, rfl, _, _, rfl, rfl, ⟨by decide, by decide +kernel⟩, _, _, rfl, rfl, _, _, rfl, rfl, ?_, ?_⟩⟩⟩
      · show (0 : Int) < 10 ^ 18 + 9
        decide
      refine ⟨_, rfl, _, _, rfl, rfl, ⟨by decide, by decide +kernel⟩, _, _, rfl, rfl, _, rfl, ?_⟩
      refine ite2 (fun _ => ?_) (fun _ => ?_)
      · refine ⟨_, rfl, _, _, rfl, rfl, ⟨by decide, by decide +kernel⟩, _, _, rfl, rfl, _, rfl, (by show 3 ≤ sizeLine; decide), fun q hq => ?_⟩
        exact hQ q _ hq (same_new hq) ⟨_, _, _, upd_same⟩
      · refine ⟨_, rfl, (by show 3 ≤ sizeLine; decide), fun q hq => ?_⟩
        exact hQ q _ hq (same_new hq) ⟨_, _, _, upd_same⟩
    · refine ⟨_, rfl, _, _, rfl, rfl, .inl ⟨by decide, by decide⟩, _, _, rfl, rfl, ?_⟩
      refine ⟨_, rfl, _, rfl, .inl ⟨_, rfl, _, _, rfl, rfl, ⟨by decide, by decide +kernel⟩, _, _, rfl, rfl, ⟨by decide, by decide +kernel⟩, _, _, rfl, rfl, ?_, ?_⟩⟩
      · show (0 : Int) < (10 ^ 60) ^ 8
        decide
      refine ⟨_, rfl, _, rfl, _, _, rfl, rfl, .inl ⟨by decide, by decide⟩, _, _, rfl, rfl, _, rfl, _, _, rfl, rfl, .inr ⟨_, rfl, _, _, rfl, rfl, .inl ⟨by decide, by decide⟩, _, _, rfl, rfl, _, _, rfl, rfl, .inl ⟨_, rfl, _, _, rfl, rfl, ⟨by decide, by decide +kernel⟩, _, _, rfl, rfl, _, _, rfl, rfl, ?_, ?_⟩⟩⟩
      · show (0 : Int) < 10 ^ 18 + 9
        decide
      refine ⟨_, rfl, _, _, rfl, rfl, ⟨by decide, by decide +kernel⟩, _, _, rfl, rfl, _, rfl, ?_⟩
      refine ite2 (fun _ => ?_) (fun _ => ?_)
      · refine ⟨_, rfl, _, _, rfl, rfl, ⟨by decide, by decide +kernel⟩, _, _, rfl, rfl, _, rfl, (by show 3 ≤ sizeLine; decide), fun q hq => ?_⟩
        exact hQ q _ hq (same_new hq) ⟨_, _, _, upd_same⟩
      · refine ⟨_, rfl, (by show 3 ≤ sizeLine; decide), fun q hq => ?_⟩
        exact hQ q _ hq (same_new hq) ⟨_, _, _, upd_same⟩
end
end MN
/-! the draws of the laws k05 .. k09: choices, alphabet, choice, rates -/
namespace MN
open PySem PySem.Spec PyProof.Rows L2
theorem mergeK_nodup {more : List (Key × V)} : ∀ (kvs : List (Key × V)), ((kvs ++ more).map (·.1)).Nodup → mergeK kvs more = kvs ++ more := by
  induction more with
  | nil => intro kvs _; rw [List.append_nil]; rfl
  | cons p more ih =>
    intro kvs hn
    have hnew : p.1 ∉ kvs.map (·.1) := fun hm => by
      rw [List.map_append, List.map_cons] at hn
      exact (List.nodup_append.mp hn).2.2 p.1 hm p.1 List.mem_cons_self rfl
    have hp : putK kvs p.1 p.2 = kvs ++ [(p.1, p.2)] := by
      unfold putK
      rw [if_neg]
      intro q
      obtain ⟨kv, h1, h2⟩ := List.any_eq_true.mp q
      exact hnew (List.mem_map.mpr ⟨kv, h1, of_decide_eq_true h2⟩)
    show mergeK (putK kvs p.1 p.2) more = _
    rw [hp]
    have e : kvs ++ p :: more = (kvs ++ [(p.1, p.2)]) ++ more := by simp
    rw [ih _ (by rw [← e]; exact hn), e]
/-- prices by signs, in the signs' order -/
def dkF (zs : List Str) (g : Str → Int) : List (Key × V) := zs.map fun z => (Sum.inr z, V.int (g z))
theorem dkF_keys (zs : List Str) (g : Str → Int) : (dkF zs g).map (·.1) = zs.map Sum.inr := by
  unfold dkF; rw [List.map_map]; rfl
theorem SgnOk.nodup {zs : List Str} (h : SgnOk zs) : zs.Nodup := h.asc.imp fun {a b} hab e => by rw [e] at hab; exact List.lt_irrefl _ hab
theorem nodup_map {α β : Type} {f : α → β} (hf : ∀ a b, f a = f b → a = b) : ∀ {l : List α}, l.Nodup → (l.map f).Nodup := by
  intro l h
  rw [List.Nodup, List.pairwise_map]
  exact h.imp fun {a b} hab e => hab (hf a b e)
theorem dkF_nodup {zs : List Str} (h : zs.Nodup) (g : Str → Int) : ((dkF zs g).map (·.1)).Nodup := by
  rw [dkF_keys]
  exact nodup_map (fun a b e => Sum.inr.inj e) h
/-- swap prices: pairs of signs, in some order -/
def dtF (ps : List ((Str × Str) × Int)) : List (List Key × V) := ps.map fun x => ([Sum.inr x.1.1, Sum.inr x.1.2], V.int x.2)
theorem dtF_nodup {ps : List ((Str × Str) × Int)} (h : (ps.map Prod.fst).Nodup) : ((dtF ps).map (·.1)).Nodup := by
  unfold dtF
  rw [List.map_map]
  have e : ps.map ((fun x : List Key × V => x.1) ∘ fun x : (Str × Str) × Int => ([Sum.inr x.1.1, Sum.inr x.1.2], V.int x.2)) = (ps.map Prod.fst).map fun q => ([Sum.inr q.1, Sum.inr q.2] : List Key) := by
    rw [List.map_map]; rfl
  rw [e]
  refine nodup_map (fun a b hab => ?_) h
  injection hab with h1 h2
  injection h2 with h2 _
  exact Prod.ext (Sum.inr.inj h1) (Sum.inr.inj h2)
/-- the pairs of two signs, row by row -/
def pairsOf (zs : List Str) : List (Str × Str) := zs.flatMap fun a => (zs.filter fun b => decide (a ≠ b)).map fun b => (a, b)
section
variable {P : Program} {w : World} {K : PySem.W.Frag} {mg : Str → Option Value} {base : Heap}
/-! ### _law_choices -/
def spChoices (K : PySem.W.Frag) : Sp := fun vs H Q _ => ∃ p x xs m, vs = [.ref p, x, .int m] ∧ Pot H p ∧ Items K H p x xs ∧ xs.length < 100000 ∧ 0 ≤ m ∧ m < 100000 ∧
  ∀ ys rest q H', (ys ++ rest).Perm xs → (ys.length : Int) = min m xs.length → H q = none → Ex p H H' → H' q = some (.lst ys) → Q (.ref q) H'
abbrev N_law_choices : List Str := ["_law_cup_here", "_law_items", "_law_many", "_law_left", "_law_found", "_law_turn"]
theorem sc_law_choices : FnScope N_law_choices ["_law_cup_here", "_law_items", "_law_many"] (defScope (top 34)) := ⟨rfl, rfl, rfl, by decide +kernel, rfl, by decide +kernel, by decide +kernel⟩
theorem c_law_choices (A : At K mg "_law_choices" (top 34)) (B : Blt mg) (c_law_toss : Cal P w K mg base 1 "_law_toss" spDip) : Cal P w K mg base 2 "_law_choices" (spChoices K) := by
  refine cal_of A sc_law_choices (fun _ _ _ _ _ _ us hl => match us, hl with | [_, _, _], _ => rfl) (fun vs H Q E h => ?_) (fun _ cdv A outer s H vs Q E hr h => ?_)
  · obtain ⟨_, _, _, _, rfl, _⟩ := h; rfl
  · obtain ⟨p, x, xs, m, rfl, hp, hl, hlen, hm0, hm1, hQ⟩ := h
    refine ⟨_, (pss_cons (ps_par (i := 3) (j := 4) (by rfl) sc_law_choices.nd rfl rfl (by decide) rfl rfl (pa_cons (pe_callTy (call_listI rfl) (by rfl) B.list (by decide +kernel) (pa_cons (pv 1) pa_nil)) (pa_cons (pe_lst pa_nil) pa_nil)) (by rfl))
      (pss_cons (ps_for PassesOwn.never rfl (pi_range1 (by rfl) B.range (pa_cons (pe_callB (call_min2 rfl) (by rfl) B.min (by decide +kernel) (pa_cons (pv 2) (pa_cons (pe_callB call_len (by rfl) B.len (by decide +kernel) (pa_cons (pv 1) pa_nil)) pa_nil))) pa_nil)) (pg_name (i := 5) sc_law_choices.nd rfl (Or.inl rfl))
        (pss_one (ps_expr (pe_append K rfl (pv 4) (pe_popAt K rfl (pv 3) (pe_c c_law_toss hr (by decide) (by rfl) (pa_cons (pv 0) (pa_cons (pe_callB call_len_seq (by rfl) B.len (by decide +kernel) (pa_cons (pv 3) pa_nil)) pa_nil))))))))
      (pss_one (ps_ret (pv 4))))), ?_⟩
    have hl' : ItemsL K H x xs := by
      rcases hl with ⟨l, rfl, hne, hl⟩ | ⟨z, rfl, rfl⟩
      · exact .inl ⟨l, rfl, hl⟩
      · refine .inr ⟨z, rfl, ?_, rfl⟩
        rw [signs_len] at hlen
        omega
    refine ⟨_, rfl, x, xs, rfl, hl', fun L hL => ?_⟩
    refine ⟨by decide, fun F hF => ?_⟩
    obtain ⟨a0, b0, c0, hp0⟩ := id hp
    have hLp : L ≠ p := (ne_of_none hp0 hL).symm
    have hFL : F ≠ L := fun z => by rw [z, upd_same] at hF; cases hF
    have hF0 : H F = none := by rw [upd_ne hFL] at hF; exact hF
    have hFp : F ≠ p := (ne_of_none hp0 hF0).symm
    have lenx : LenV K x (upd (upd H L (.lst xs)) F (.lst [])) xs.length := by
      rcases hl with ⟨l, rfl, hne, hl⟩ | ⟨z, rfl, rfl⟩
      · exact .inl ⟨xs, seqL_upd (seqL_upd hl hL) hF, rfl⟩
      · refine ⟨?_, signs_len z⟩
        rw [signs_len] at hlen
        exact Nat.le_trans (Nat.le_of_lt hlen) (by decide)
    refine ⟨_, _, rfl, ?_⟩
    refine ⟨_, rfl, _, rfl, _, xs.length, rfl, lenx, _, _, rfl, _, rfl, ?_, ?_, for_it (walk_range (lo := 0)) (fun i σ H' => Ex p H H' ∧ ∃ made left : List V, (made ++ left).Perm xs ∧ made.length = i ∧ H' F = some (.lst made) ∧ H' L = some (.lst left) ∧ ∃ o, σ = [some (.ref p), some x, some (.int m), some (.ref L), some (.ref F), o]) ?_ (fun _ _ _ _ _ => trivial) (fun i y σ H1 H2 hi e yy => ?_) (fun σ H1 e => ?_)⟩
    · split <;> omega
    · split <;> omega
    · refine ⟨((Ex.refl hp).put hL hLp).put hF0 hFp, [], xs, List.Perm.refl _, rfl, upd_same, by rw [upd_ne hFL.symm, upd_same], _, rfl⟩
    · obtain ⟨rfl, rfl⟩ := yy
      obtain ⟨ex, made, left, hperm, hml, hF1, hL1, o, rfl⟩ := e
      have hil : i < xs.length := by
        have h1 : i < (if (xs.length : Int) < m then (xs.length : Int) else m).toNat := hi
        split at h1 <;> omega
      have hpl := hperm.length_eq
      rw [List.length_append] at hpl
      obtain ⟨a, b, c, hp1⟩ := ex.pot
      refine ⟨_, rfl, .inl ⟨rfl, _, SqL.of hF1⟩, _, rfl, .inl ⟨rfl, _, SqL.of hL1⟩, _, rfl, _, rfl, L, left, rfl, .inl (SqL.of hL1), p, _, a, b, c, rfl, hp1, by omega, by omega, fun r a' b' c' r0 r1 => ?_⟩
      obtain ⟨y, hy, hy2, _⟩ := atI_some (xs := left) r0 r1
      have ex2 : Ex p H (upd _ p (potO a' b' c')) := ex.trans Ex.turn
      refine ⟨L, left, r, r.toNat, y, rfl, rfl, by rw [upd_ne hLp]; exact hL1, by omega, by omega, seqIx r0 r1, hy2, F, made, y, rfl, rfl, ?_, ?_, ?_⟩
      · rw [upd_ne hFL, upd_ne hFp]; exact hF1
      · have : 100000 < sizeLine := by decide
        omega
      · refine ⟨(ex2.put hL hLp).put hF0 hFp, made ++ [y], left.eraseIdx r.toNat, ?_, by rw [List.length_append, List.length_singleton, hml], upd_same, by rw [upd_ne hFL.symm, upd_same], _, rfl⟩
        rw [List.append_assoc]
        exact (List.Perm.append_left made (perm_erase hy2)).trans hperm
    · obtain ⟨ex, made, left, hperm, hml, hF1, hL1, o, rfl⟩ := e
      refine ⟨_, rfl, hQ made left F H1 hperm ?_ hF0 ex hF1⟩
      have hml' : made.length = (if (xs.length : Int) < m then (xs.length : Int) else m).toNat := hml
      split at hml' <;> omega
/-! ### _law_alphabet -/
def spAlpha : Sp := fun vs H Q _ => ∃ p m, vs = [.ref p, .int m] ∧ Pot H p ∧ 0 < m ∧ m < 1000 ∧ ∀ zs q H', SgnOk zs → (zs.length : Int) ≤ m → H q = none → Ex p H H' → H' q = some (.lst (strsV zs)) → Q (.ref q) H'
abbrev N_law_alphabet : List Str := ["_law_cup_here", "_law_most"]
theorem sc_law_alphabet : FnScope N_law_alphabet ["_law_cup_here", "_law_most"] (defScope (top 35)) := ⟨rfl, rfl, rfl, by decide +kernel, rfl, by decide +kernel, by decide +kernel⟩
theorem c_law_alphabet (A : At K mg "_law_alphabet" (top 35)) (B : Blt mg) (c_law_toss : Cal P w K mg base 1 "_law_toss" spDip) (c_law_choices : Cal P w K mg base 2 "_law_choices" (spChoices K)) : Cal P w K mg base 3 "_law_alphabet" spAlpha := by
  refine cal_of A sc_law_alphabet (fun _ _ _ _ _ _ us hl => match us, hl with | [_, _], _ => rfl) (fun vs H Q E h => ?_) (fun _ cdv A outer s H vs Q E hr h => ?_)
  · obtain ⟨_, _, rfl, _⟩ := h; rfl
  · obtain ⟨p, m, rfl, ⟨a, b, c, hp⟩, hm0, hm1, hQ⟩ := h
    refine ⟨_, (pss_one (ps_ret (pe_callB cr_sortedS (by rfl) B.sorted (by decide +kernel) (pa_cons (pe_c c_law_choices hr (by decide) (by rfl) (pa_cons (pv 0) (pa_cons pe_str (pa_cons (pe_op op_add pe_int (pe_c c_law_toss hr (by decide) (by rfl) (pa_cons (pv 0) (pa_cons (pv 1) pa_nil)))) pa_nil)))) pa_nil)))), ?_⟩
    refine ⟨_, rfl, _, rfl, _, rfl, p, m, a, b, c, rfl, hp, by omega, by omega, fun r a' b' c' r0 r1 => ?_⟩
    have ex1 : Ex p H (upd H p (potO a' b' c')) := Ex.turn
    have fr : ∀ q, upd H p (potO a' b' c') q = none → H q = none := fun q hq => ex1.free ⟨a, b, c, hp⟩ hq
    generalize upd H p (potO a' b' c') = H1 at ex1 fr ⊢
    refine ⟨_, _, rfl, rfl, p, _, _, _, rfl, ex1.pot, .inr ⟨_, rfl, rfl⟩, by decide, by omega, by omega, fun ys rest q H2 hperm hyl hq ex2 h2 => ?_⟩
    rw [signsOf_one] at hperm
    obtain ⟨ws, e, hws⟩ := perm_strsP hperm
    have hl5 : ws.length = 5 := hws.length_eq
    obtain ⟨ys', rest', rfl, rfl, rfl⟩ : ∃ ys' rest' : List Str, ws = ys' ++ rest' ∧ ys = strsV ys' ∧ rest = strsV rest' := by
      refine ⟨ws.take ys.length, ws.drop ys.length, (List.take_append_drop _ _).symm, ?_, ?_⟩
      · rw [strsV, List.map_take, ← strsV, ← e]; simp
      · rw [strsV, List.map_drop, ← strsV, ← e]; simp
    have hq0 := fr q hq
    have ylen : (ys'.length : Int) = min (1 + r) 5 := by
      have := hyl
      rw [List.length_map] at this
      rw [this]
      rfl
    refine ⟨q, ys', rfl, SqL.of h2, by omega, fun zs S hzp hzs hS => ?_⟩
    have hne : S ≠ p := by obtain ⟨_, _, _, e⟩ := ex2.pot; exact (ne_of_none e hS).symm
    have ok : SgnOk zs := sgn_drawn (k := ys'.length) hws (by omega) (by rw [List.take_left']; exact hzp; rfl) hzs
    refine hQ zs S _ ok (by rw [hzp.length_eq]; omega) ?_ ((ex1.trans ex2).new hS) upd_same
    exact (ex1.trans ex2).free ⟨a, b, c, hp⟩ hS
/-! ### _law_choice of a list -/
def spPick (K : PySem.W.Frag) : Sp := fun vs H Q _ => ∃ p l xs, vs = [.ref p, .ref l] ∧ Pot H p ∧ l ≠ p ∧ SqL K H l xs ∧ 0 < xs.length ∧ xs.length < 100000 ∧ ∀ v a' b' c', v ∈ xs → Q v (upd H p (potO a' b' c'))
abbrev N_law_choice : List Str := ["_law_cup_here", "_law_items"]
theorem sc_law_choice : FnScope N_law_choice ["_law_cup_here", "_law_items"] (defScope (top 36)) := ⟨rfl, rfl, rfl, by decide +kernel, rfl, by decide +kernel, by decide +kernel⟩
theorem c_law_choice (A : At K mg "_law_choice" (top 36)) (B : Blt mg) (c_law_toss : Cal P w K mg base 1 "_law_toss" spDip) : Cal P w K mg base 2 "_law_choice" (spPick K) := by
  refine cal_of A sc_law_choice (fun _ _ _ _ _ _ us hl => match us, hl with | [_, _], _ => rfl) (fun vs H Q E h => ?_) (fun _ cdv A outer s H vs Q E hr h => ?_)
  · obtain ⟨_, _, _, rfl, _⟩ := h; rfl
  · obtain ⟨p, l, xs, rfl, ⟨a, b, c, hp⟩, hne, hl, h0, h1, hQ⟩ := h
    refine ⟨_, (pss_one (ps_ret (pe_ix ix_list (pv 1) (pe_c c_law_toss hr (by decide) (by rfl) (pa_cons (pv 0) (pa_cons (pe_callB call_len_seq (by rfl) B.len (by decide +kernel) (pa_cons (pv 1) pa_nil)) pa_nil))) (fun _ _ => rfl)))), ?_⟩
    refine ⟨_, rfl, _, rfl, _, rfl, l, xs, rfl, .inl hl, p, _, a, b, c, rfl, hp, by omega, by omega, fun r a' b' c' r0 r1 => ?_⟩
    obtain ⟨v, hv, _, hat⟩ := atI_some (xs := xs) r0 r1
    exact ⟨l, xs, r, v, rfl, rfl, (Ex.turn (H := H) (p := p)).seqL hl hne, hat, hQ v a' b' c' hv⟩
end
end MN
/-! prices: what they hold; is_pair, are_prices -/
namespace MN
open PySem PySem.Spec PyProof.Rows L2
/-- good prices: put and out by signs, swaps by pairs -/
structure PrN (zs zs2 : List Str) (g o : Str → Int) (ps : List ((Str × Str) × Int)) : Prop where
  sg : ∀ z ∈ zs, ∃ c ∈ ("abcde" : Str).cps.toList, z = ⟨#[c]⟩
  nd : zs.Nodup
  pos : 0 < zs.length
  le : zs.length ≤ 5
  pm : zs2.Perm zs
  pg : ∀ z ∈ zs, 1 ≤ g z ∧ g z ≤ 9
  po : ∀ z ∈ zs, 1 ≤ o z ∧ o z ≤ 9
  sn : (ps.map Prod.fst).Nodup
  sp : ∀ x ∈ ps, x.1.1 ∈ zs ∧ x.1.2 ∈ zs ∧ x.1.1 ≠ x.1.2 ∧ 1 ≤ x.2 ∧ x.2 ≤ 18
  sl : ps.length ≤ 100
theorem isSign_one {z : Str} (h : ∃ c ∈ ("abcde" : Str).cps.toList, z = ⟨#[c]⟩) : isSign (.str z) = true := by
  obtain ⟨c, hc, rfl⟩ := h
  simp only [isSign, isWordS, Bool.and_eq_true, decide_eq_true_eq]
  refine ⟨rfl, ?_⟩
  simp only [List.all_cons, List.all_nil, Bool.and_true, sgn, decide_eq_true_eq]
  exact hc
theorem len_one {z : Str} (h : ∃ c ∈ ("abcde" : Str).cps.toList, z = ⟨#[c]⟩) : z.length = 1 := by
  obtain ⟨c, hc, rfl⟩ := h
  rfl
theorem valV_of {α : Type} [DecidableEq α] {kvs : List (α × V)} (nd : (kvs.map (·.1)).Nodup) {k : α} {v : V} (h : (k, v) ∈ kvs) : valV kvs k = some v := by
  induction kvs with
  | nil => cases h
  | cons a kvs ih =>
    rw [List.map_cons, List.nodup_cons] at nd
    unfold valV
    by_cases e : a.1 = k
    · rcases List.mem_cons.mp h with q | q
      · rw [← q]; simp
      · exact absurd (List.mem_map.mpr ⟨_, q, rfl⟩) (by rw [← e]; exact nd.1)
    · rcases List.mem_cons.mp h with q | q
      · rw [← q] at e; exact absurd rfl e
      · have := ih nd.2 q
        unfold valV at this
        simpa [List.find?_cons, e] using this
theorem valV_no {α : Type} [DecidableEq α] {kvs : List (α × V)} {k : α} (h : k ∉ kvs.map (·.1)) : valV kvs k = none := by
  unfold valV
  rw [Option.map_eq_none_iff, List.find?_eq_none]
  intro x hx q
  exact h (List.mem_map.mpr ⟨x, hx, by simpa using q⟩)
theorem dkF_val {zs : List Str} (nd : zs.Nodup) (g : Str → Int) {z : Str} (h : z ∈ zs) : valV (dkF zs g) (.inr z) = some (.int (g z)) :=
  valV_of (dkF_nodup nd g) (List.mem_map.mpr ⟨z, h, rfl⟩)
theorem dtF_val {ps : List ((Str × Str) × Int)} (nd : (ps.map Prod.fst).Nodup) {x y : Str} {p : Int} (h : ((x, y), p) ∈ ps) : valV (dtF ps) [.inr x, .inr y] = some (.int p) :=
  valV_of (dtF_nodup nd) (List.mem_map.mpr ⟨_, h, rfl⟩)
theorem dtF_no {ps : List ((Str × Str) × Int)} {x y : Str} (h : (x, y) ∉ ps.map Prod.fst) : valV (dtF ps) [.inr x, .inr y] = none := by
  refine valV_no fun q => h ?_
  unfold dtF at q
  rw [List.map_map] at q
  obtain ⟨a, ha, e⟩ := List.mem_map.mp q
  have e' : ([Sum.inr a.1.1, Sum.inr a.1.2] : List Key) = [.inr x, .inr y] := e
  injection e' with e1 e2
  injection e2 with e2 _
  exact List.mem_map.mpr ⟨a, ha, Prod.ext (Sum.inr.inj e1) (Sum.inr.inj e2)⟩
section
variable {P : Program} {w : World} {K : PySem.W.Frag} {mg : Str → Option Value} {base : Heap}
/-! ### is_pair -/
def spIsPair (K : PySem.W.Frag) : Sp := fun vs H Q _ => ∃ t d x y kvs, vs = [.ref t, .ref d] ∧ SqT K H t [.str x, .str y] ∧ H d = some (.dK kvs) ∧ isSign (.str x) = true ∧ isSign (.str y) = true ∧ (∃ v, valV kvs (.inr x) = some v) ∧ (∃ v, valV kvs (.inr y) = some v) ∧ x ≠ y ∧ ∀ H', Same H H' → Q (.bl true) H'
abbrev N_is_pair : List Str := ["value", "signs", "sign"]
theorem sc_is_pair : FnScope N_is_pair ["value", "signs"] (defScope (top 19)) := ⟨rfl, rfl, rfl, by decide +kernel, rfl, by decide +kernel, by decide +kernel⟩
theorem c_is_pair (A : At K mg "is_pair" (top 19)) (B : Blt mg) (c_is_sign : Cal P w K mg base 1 "is_sign" (spIsSign K)) : Cal P w K mg base 2 "is_pair" (spIsPair K) := by
  refine cal_of A sc_is_pair (fun _ _ _ _ _ _ us hl => match us, hl with | [_, _], _ => rfl) (fun vs H Q E h => ?_) (fun f cdv A outer s H vs Q E hr h => ?_)
  · obtain ⟨_, _, _, _, _, rfl, _⟩ := h; rfl
  · obtain ⟨t, d, x, y, kvs, rfl, ht, hd, sx, sy, ⟨v1, g1⟩, ⟨v2, g2⟩, ne, hQ⟩ := h
    refine ⟨_, (pss_cons (ps_if (PW.pt (pw_or (pt_not (pt_val (pe_callB call_isS (by rfl) B.isinstance (by decide +kernel) (pa_cons (pv 0) (pa_cons (pe_bltn (v := .ty "tuple") (by rfl) B.tuple (by decide +kernel) rfl) pa_nil))))) (pw_or (pt_cmpR op_ne (pe_callB call_len_seq (by rfl) B.len (by decide +kernel) (pa_cons (pv 0) pa_nil)) pe_int (nomark _)) (pw_or1 (pt_not (pt_val (pe_callB (cr_all rfl) (by rfl) B.all (by decide +kernel) (pa_cons (pe_lc (own := [("sign", 2)]) (g := gName 2) (tt := tYes) (by rfl) sc_is_pair.nd (pi_tup (pv 0)) (blkOk_by (own := [("sign", 2)]) (N := N_is_pair) (sc := defScope (top 19)) (by decide +kernel)) (fun _ _ _ _ _ => (pg_name (i := 2) sc_is_pair.nd rfl (Or.inl rfl))) (fun _ _ _ _ _ => pts_nil) (fun _ _ _ _ _ => (pe_c c_is_sign hr (by decide) (by rfl) (pa_cons (pv 2) pa_nil)))) pa_nil))))))))
      (pss_one (ps_ret pe_bl))
      pss_nil)
      (pss_one (ps_ret (pe_and (pe_cmp (pc_din (hu_of hr) (pe_ix ix_tup (pv 0) pe_int (fun _ _ => rfl)) (pv 1)) rfl) (pe_and (pe_cmp (pc_din (hu_of hr) (pe_ix ix_tup (pv 0) pe_int (fun _ _ => rfl)) (pv 1)) rfl) (pe_one (pe_cmpR op_ne (pe_ix ix_tup (pv 0) pe_int (fun _ _ => rfl)) (pe_ix ix_tup (pv 0) pe_int (fun _ _ => rfl)) (nomark _)))))))), ?_⟩
    refine ⟨_, rfl, .ref t, "tuple", true, rfl, .ty (tyT ht) (by decide +kernel), _, rfl, iteF ?_⟩
    refine ⟨_, rfl, t, _, rfl, .inr ht, rfl, _, rfl, iteF ?_⟩
    refine ⟨_, rfl, t, rfl, ⟨_, ht⟩, fun D hD => ?_⟩
    refine lc_tplE ht hD (show 2 ≤ 1000000 by decide) (fun _ => true) (fun x => .bl true) (fun x _ => rfl) (fun x _ H2 e2 Q q => q _ (Same.refl _)) (fun v hv _ H2 e2 Q q => ?_) (fun H2 e2 h2 => ?_)
    · have hv' : v = .str x ∨ v = .str y := by simpa using hv
      rcases hv' with rfl | rfl
      · refine ⟨_, rfl, _, rfl, .str (by rw [(show x.length = 1 by simp [isSign] at sx; exact sx.1)]; decide), ?_⟩
        rw [sx]; exact q _ (Same.refl _)
      · refine ⟨_, rfl, _, rfl, .str (by rw [(show y.length = 1 by simp [isSign] at sy; exact sy.1)]; decide), ?_⟩
        rw [sy]; exact q _ (Same.refl _)
    refine ⟨D, [true, true], rfl, .inl (.inl h2), _, rfl, iteF ?_⟩
    have ht2 := Same.seqT e2 ht
    have hd2 := e2 _ _ hd
    refine ⟨_, rfl, t, _, _, _, rfl, rfl, ht2, rfl, _, rfl, d, some v1, rfl, .inl ⟨kvs, .inr x, .inl hd2, rfl, g1.symm⟩, _, rfl, iteT ?_⟩
    refine ⟨_, rfl, t, _, _, _, rfl, rfl, ht2, rfl, _, rfl, d, some v2, rfl, .inl ⟨kvs, .inr y, .inl hd2, rfl, g2.symm⟩, _, rfl, iteT ?_⟩
    refine ⟨_, rfl, t, _, _, _, rfl, rfl, ht2, rfl, _, rfl, t, _, _, _, rfl, rfl, ht2, rfl, rfl, ?_⟩
    have e : (!decide (V.str x = V.str y)) = true := by simp [ne]
    rw [e]
    exact hQ _ e2
/-! ### are_prices -/
def spAreP : Sp := fun vs H Q _ => ∃ a b c zs zs2 g o ps, vs = [.ref a, .ref b, .ref c] ∧ H a = some (.dK (dkF zs g)) ∧ H b = some (.dK (dkF zs2 o)) ∧ H c = some (.dT (dtF ps)) ∧ a ≠ b ∧ PrN zs zs2 g o ps ∧ ∀ H', Same H H' → Q (.bl true) H'
abbrev N_are_prices : List Str := ["put", "out", "swap", "table", "sign", "price", "pair"]
theorem sc_are_prices : FnScope N_are_prices ["put", "out", "swap"] (defScope (top 20)) := ⟨rfl, rfl, rfl, by decide +kernel, rfl, by decide +kernel, by decide +kernel⟩
theorem c_are_prices (A : At K mg "are_prices" (top 20)) (B : Blt mg) (G1 : GlC mg "MAX_PRICE" (.int 9)) (G2 : GlC mg "MAX_SWAP" (.int 18)) (c_is_sign : Cal P w K mg base 1 "is_sign" (spIsSign K)) (c_is_price : Cal P w K mg base 2 "is_price" (spIsPrice K)) (c_is_pair : Cal P w K mg base 2 "is_pair" (spIsPair K)) : Cal P w K mg base 3 "are_prices" spAreP := by
  refine cal_of A sc_are_prices (fun _ _ _ _ _ _ us hl => match us, hl with | [_, _, _], _ => rfl) (fun vs H Q E h => ?_) (fun f cdv A outer s H vs Q E hr h => ?_)
  · obtain ⟨_, _, _, _, _, _, _, _, rfl, _⟩ := h; rfl
  · obtain ⟨a, b, c, zs, zs2, g, o, ps, rfl, ha, hb, hc, nab, N, hQ⟩ := h
    refine ⟨_, (pss_cons (ps_if (PW.pt (pw_or (pt_not (pt_val (pe_callB (cr_all rfl) (by rfl) B.all (by decide +kernel) (pa_cons (pe_lc (own := [("table", 3)]) (g := gName 3) (tt := tYes) (by rfl) sc_are_prices.nd (pi_tup (pe_tup (pa_cons (pv 0) (pa_cons (pv 1) (pa_cons (pv 2) pa_nil))))) (blkOk_by (own := [("table", 3)]) (N := N_are_prices) (sc := defScope (top 20)) (by decide +kernel)) (fun _ _ _ _ _ => (pg_name (i := 3) sc_are_prices.nd rfl (Or.inl rfl))) (fun _ _ _ _ _ => pts_nil) (fun _ _ _ _ _ => (pe_callB (isSK (K := K) rfl) (by rfl) B.isinstance (by decide +kernel) (pa_cons (pv 3) (pa_cons (pe_bltn (v := .ty "dict") (by rfl) B.dict (by decide +kernel) rfl) pa_nil))))) pa_nil)))) (pw_or1 (pt_cmpR op_eq (pe_callB call_lenD (by rfl) B.len (by decide +kernel) (pa_cons (pv 0) pa_nil)) pe_int (nomark _)))))
      (pss_one (ps_ret pe_bl))
      pss_nil)
      (pss_cons (ps_if (PW.pt (pw_or (pt_not (pt_val (pe_callB (cr_all rfl) (by rfl) B.all (by decide +kernel) (pa_cons (pe_lock (pe_lc (own := [("sign", 4)]) (g := gName 4) (tt := tYes) (by rfl) sc_are_prices.nd (pi_keys (pv 0)) (blkOk_by (own := [("sign", 4)]) (N := N_are_prices) (sc := defScope (top 20)) (by decide +kernel)) (fun _ _ _ _ _ => (pg_name (i := 4) sc_are_prices.nd rfl (Or.inl rfl))) (fun _ _ _ _ _ => pts_nil) (fun _ _ _ _ _ => (pe_c c_is_sign hr (by decide) (by rfl) (pa_cons (pv 4) pa_nil))))) pa_nil)))) (pw_or (pt_cmpR op_ne (pe_callB call_lenD (by rfl) B.len (by decide +kernel) (pa_cons (pv 0) pa_nil)) (pe_callB call_lenD (by rfl) B.len (by decide +kernel) (pa_cons (pv 1) pa_nil)) (nomark _)) (pw_or1 (pt_not (pt_val (pe_callB (cr_all rfl) (by rfl) B.all (by decide +kernel) (pa_cons (pe_lock (pe_lc (own := [("sign", 4)]) (g := gName 4) (tt := tYes) (by rfl) sc_are_prices.nd (pi_keys (pv 0)) (blkOk_by (own := [("sign", 4)]) (N := N_are_prices) (sc := defScope (top 20)) (by decide +kernel)) (fun _ _ _ _ _ => (pg_name (i := 4) sc_are_prices.nd rfl (Or.inl rfl))) (fun _ _ _ _ _ => pts_nil) (fun _ _ _ _ _ => (pe_cmp (pc_din (hu_of hr) (pv 4) (pv 1)))))) pa_nil))))))))
        (pss_one (ps_ret pe_bl))
        pss_nil)
      (pss_cons (ps_if (pt_not (pt_val (pe_callB (cr_all rfl) (by rfl) B.all (by decide +kernel) (pa_cons (pe_lc (own := [("price", 5)]) (g := gName 5) (tt := tYes) (by rfl) sc_are_prices.nd (pi_list (pe_op op_cat (pe_listVals rfl (pv 0) (by rfl) B.list) (pe_listVals rfl (pv 1) (by rfl) B.list))) (blkOk_by (own := [("price", 5)]) (N := N_are_prices) (sc := defScope (top 20)) (by decide +kernel)) (fun _ _ _ _ _ => (pg_name (i := 5) sc_are_prices.nd rfl (Or.inl rfl))) (fun _ _ _ _ _ => pts_nil) (fun _ _ _ _ _ => (pe_c c_is_price hr (by decide) (by rfl) (pa_cons (pv 5) (pa_cons (pe_gl (by rfl) G1) pa_nil))))) pa_nil))))
        (pss_one (ps_ret pe_bl))
        pss_nil)
      (pss_one (ps_ret (pe_callB (cr_all rfl) (by rfl) B.all (by decide +kernel) (pa_cons (pe_lock (pe_lc (own := [("pair", 6), ("price", 5)]) (tt := tYes) (by rfl) sc_are_prices.nd (pi_itemsT (pv 2)) (blkOk_by (own := [("pair", 6), ("price", 5)]) (N := N_are_prices) (sc := defScope (top 20)) (by decide +kernel)) (fun _ _ _ _ _ => (pg_tupK (K := K) (n := 2) rfl rfl (pgs_cons (pg_name (i := 6) sc_are_prices.nd rfl (Or.inl rfl)) (pgs_cons (pg_name (i := 5) sc_are_prices.nd rfl (Or.inl rfl)) pgs_nil)))) (fun _ _ _ _ _ => pts_nil) (fun _ _ _ _ _ => pe_and (pe_c c_is_pair hr (by decide) (by rfl) (pa_cons (pv 6) (pa_cons (pv 0) pa_nil))) (pe_one (pe_c c_is_price hr (by decide) (by rfl) (pa_cons (pv 5) (pa_cons (pe_gl (by rfl) G2) pa_nil))))))) pa_nil))))))), ?_⟩
    have lz : (dkF zs g).length = zs.length := by simp [dkF]
    have lz2 : (dkF zs2 o).length = zs.length := by simp [dkF, N.pm.length_eq]
    -- all are dicts
    refine ⟨_, rfl, _, rfl, _, rfl, (show 3 ≤ sizeLine by decide), fun p hp => ⟨p, rfl, ⟨_, .inl (.inl upd_same)⟩, fun D hD => ?_⟩⟩
    have e1 : Same H (upd H p (.tup [.ref a, .ref b, .ref c])) := same_new hp
    refine lc_tplE (.inl (.inl upd_same)) hD (show 3 ≤ 1000000 by decide) (fun _ => true) (fun x => .bl true) (fun x _ => rfl) (fun x _ H2 e2 Q q => q _ (Same.refl _)) (fun x hx _ H2 e2 Q q => ?_) (fun H2 e2 h2 => ?_)
    · refine ⟨_, rfl, x, "dict", true, rfl, ?_, q _ (Same.refl _)⟩
      have ea := e2 _ _ (e1 _ _ ha)
      have eb := e2 _ _ (e1 _ _ hb)
      have ec := e2 _ _ (e1 _ _ hc)
      have hx' : x = .ref a ∨ x = .ref b ∨ x = .ref c := by simpa using hx
      rcases hx' with rfl | rfl | rfl
      · exact .ty (.base (.dK ea)) (by decide +kernel)
      · exact .ty (.base (.dK eb)) (by decide +kernel)
      · exact .ty (.base (.dT ec)) (by decide +kernel)
    refine ⟨D, [true, true, true], rfl, .inl (.inl h2), _, rfl, iteF ?_⟩
    have e2 := e1.trans e2
    refine ⟨_, rfl, a, _, rfl, e2 _ _ ha, rfl, _, rfl, ?_⟩
    rw [show decide (V.int ((dkF zs g).length : Nat) = V.int 0) = false from decide_eq_false fun z => by have := N.pos; injection z with z; omega]
    refine iteF ?_
    have ks : ∀ x ∈ (dkF zs g).map (fun kv => kV kv.1), ∃ z ∈ zs, x = .str z := fun x hx => by
      unfold dkF at hx
      rw [List.map_map] at hx
      obtain ⟨z, hz, rfl⟩ := List.mem_map.mp hx
      exact ⟨z, hz, rfl⟩
    have kl : (dkF zs g).length ≤ 1000000 := by have := N.le; omega
    have bs : ((((dkF zs g).map fun kv => kV kv.1).filter fun _ => true).map fun _ => V.bl true) = (List.replicate zs.length true).map V.bl := by
      unfold dkF
      rw [filter_all, List.map_map, List.map_map, List.map_replicate]
      exact List.map_const' ..
    have ball : ∀ n, (List.replicate n true).all id = true := fun n => by simp
    -- all keys are signs
    refine ⟨a, _, e2 _ _ ha, trivial, fun od => ⟨_, rfl, a, od, rfl, .inl ⟨_, upd_same, fun D2 hD2 => ?_⟩⟩⟩
    refine lc_keysL (e2 _ _ ha) hD2 kl (fun _ => true) (fun x => .bl true) (fun x _ => rfl) (fun x _ H3 _ _ Q q => q) (fun x hx _ H3 f3 _ Q q => ?_) (fun H3 f3 e3 h3 => ⟨f3, ?_⟩)
    · obtain ⟨z, hz, rfl⟩ := ks x hx
      refine ⟨_, rfl, _, rfl, .str (by rw [len_one (N.sg z hz)]; decide), ?_⟩
      rw [isSign_one (N.sg z hz)]
      exact q
    generalize upd H3 a (.dK (dkF zs g)) = H3' at *
    rw [bs] at h3
    refine ⟨D2, _, rfl, .inl (.inl h3), _, rfl, ?_⟩
    rw [ball]
    refine iteF ?_
    have e3 := e2.trans e3
    refine ⟨_, rfl, a, _, rfl, e3 _ _ ha, _, rfl, b, _, rfl, e3 _ _ hb, rfl, _, rfl, ?_⟩
    rw [lz, lz2, show (!decide (V.int (zs.length : Nat) = V.int (zs.length : Nat))) = false by simp]
    refine iteF ?_
    -- all keys in out
    refine ⟨a, _, e3 _ _ ha, trivial, fun od => ⟨_, rfl, a, od, rfl, .inl ⟨_, upd_same, fun D3 hD3 => ?_⟩⟩⟩
    refine lc_keysL (e3 _ _ ha) hD3 kl (fun _ => true) (fun x => .bl true) (fun x _ => rfl) (fun x _ H3 _ _ Q q => q) (fun x hx _ H3 f3 k3 Q q => ?_) (fun H4 f4 e4 h4 => ⟨f4, ?_⟩)
    · obtain ⟨z, hz, rfl⟩ := ks x hx
      refine ⟨_, rfl, _, rfl, b, some (.int (o z)), rfl, .inl ⟨_, .inr z, .inl (k3 b _ nab.symm (e3 _ _ hb)), rfl, ?_⟩, q⟩
      exact (dkF_val (N.pm.nodup_iff.mpr N.nd) o (N.pm.mem_iff.mpr hz)).symm
    generalize upd H4 a (.dK (dkF zs g)) = H4' at *
    rw [bs] at h4
    refine ⟨D3, _, rfl, .inl (.inl h4), _, rfl, ?_⟩
    rw [ball]
    refine iteF ?_
    have e4 := e3.trans e4
    -- prices
    refine ⟨_, rfl, a, _, rfl, e4 _ _ ha, fun p1 hp1 => ?_⟩
    have e5 := e4.trans (same_new (o := .lst ((dkF zs g).map (·.2))) hp1)
    refine ⟨_, rfl, b, _, rfl, e5 _ _ hb, fun p2 hp2 => ⟨p1, p2, (dkF zs g).map (·.2), (dkF zs2 o).map (·.2), rfl, rfl, ?_, upd_same, ?_, fun p3 hp3 => ?_⟩⟩
    · rw [upd_ne (ne_of_none upd_same hp2), upd_same]
    · have := N.le
      have : 1000 ≤ sizeLine := by decide
      simp only [List.length_map, lz, lz2]
      omega
    have e6 := e5.trans (same_new (o := .lst ((dkF zs2 o).map (·.2))) hp2)
    have e7 := e6.trans (same_new (o := .lst ((dkF zs g).map (·.2) ++ (dkF zs2 o).map (·.2))) hp3)
    refine ⟨p3, rfl, ⟨_, .inl (.inl upd_same)⟩, fun D4 hD4 => ?_⟩
    refine lc_lstE (.inl (.inl upd_same)) hD4 (by have := N.le; simp only [List.length_append, List.length_map, lz, lz2]; omega) (fun _ => true) (fun x => .bl true) (fun x _ => rfl) (fun x _ H2 e2 Q q => q _ (Same.refl _)) (fun x hx _ H2 e2 Q q => ?_) (fun H8 e8 h8 => ?_)
    · have hx' : ∃ n, x = .int n ∧ 1 ≤ n ∧ n ≤ 9 := by
        rcases List.mem_append.mp hx with hx | hx
        · unfold dkF at hx
          rw [List.map_map] at hx
          obtain ⟨z, hz, rfl⟩ := List.mem_map.mp hx
          exact ⟨_, rfl, N.pg z hz⟩
        · unfold dkF at hx
          rw [List.map_map] at hx
          obtain ⟨z, hz, rfl⟩ := List.mem_map.mp hx
          exact ⟨_, rfl, N.po z (N.pm.mem_iff.mp hz)⟩
      obtain ⟨n, rfl, n1, n2⟩ := hx'
      refine ⟨_, rfl, .int n, 9, rfl, .inl ⟨n, rfl, ?_⟩⟩
      rw [isInt_of (by omega) (by omega), decide_eq_true n1, decide_eq_true n2]
      exact q _ (Same.refl _)
    have b8 : (((((dkF zs g).map (·.2) ++ (dkF zs2 o).map (·.2)).filter fun _ => true).map fun _ => V.bl true)) = (List.replicate (zs.length + zs.length) true).map V.bl := by
      rw [filter_all]
      simp only [List.map_const', List.length_append, List.length_map, lz, lz2, List.map_replicate]
    rw [b8] at h8
    refine ⟨D4, _, rfl, .inl (.inl h8), _, rfl, ?_⟩
    rw [ball]
    refine iteF ?_
    have e8 := e7.trans e8
    -- swaps
    refine ⟨c, _, e8 _ _ hc, trivial, fun od => ⟨_, rfl, c, od, _, rfl, upd_same, fun D5 hD5 => ?_⟩⟩
    have nDc : D5 ≠ c := fun z => by rw [z, upd_same] at hD5; cases hD5
    have hD5' : H8 D5 = none := by rw [upd_ne nDc] at hD5; exact hD5
    have nca : c ≠ a := fun z => by rw [z, ha] at hc; cases hc
    refine lc_it walk_itemsT (fun i H' => Same H8 (upd H' c (.dT (dtF ps))) ∧ H' c = some (.frz od (.dT (dtF ps))) ∧ H' D5 = some (.lst ((List.replicate i true).map V.bl))) ⟨?_, by rw [upd_ne nDc.symm, upd_same], upd_same⟩ (fun i H' _ e => e.2.1) (fun i x H1 H2 hi e y => ?_) (fun H9 e => ?_)
    · exact (same_lock (e8 _ _ hc) hD5).1
    · obtain ⟨e9, f9, h9⟩ := e
      obtain ⟨T, k, v, q, hkv, rfl, hT, hq, rfl⟩ := y
      have nT : T ≠ c := fun z => by rw [z, f9] at hT; cases hT
      have nTD : T ≠ D5 := fun z => by rw [z, h9] at hT; cases hT
      unfold dtF at hkv
      rw [List.getElem?_map] at hkv
      obtain ⟨⟨⟨z1, z2⟩, n⟩, hx, ekv⟩ := Option.map_eq_some_iff.mp hkv
      cases ekv
      obtain ⟨i1, i2, ne, n1, n2⟩ := N.sp _ (List.mem_of_getElem? hx)
      refine ⟨T, [.ref q, .int n], rfl, .inl (.inl upd_same), rfl, _, _, rfl, _, _, rfl, rfl, rfl, yes_q (iteT ?_)⟩
      have hq2 : upd H1 T (.tup [.ref q, .int n]) q = some (.tup [.str z1, .str z2]) := by rw [upd_ne (ne_of_none hq hT)]; exact hq
      have ha2 : upd H1 T (.tup [.ref q, .int n]) a = some (.dK (dkF zs g)) := by
        have z := e9 _ _ (e8 _ _ ha)
        rw [upd_ne nca.symm] at z
        rw [upd_ne (ne_of_none z hT)]
        exact z
      refine ⟨_, rfl, _, rfl, q, a, z1, z2, _, rfl, .inl (.inl hq2), ha2, isSign_one (N.sg _ i1), isSign_one (N.sg _ i2), ⟨_, dkF_val N.nd g i1⟩, ⟨_, dkF_val N.nd g i2⟩, ne, fun H3 e3 => ⟨_, rfl, iteT ?_⟩⟩
      refine ⟨_, rfl, .int n, 18, rfl, .inl ⟨n, rfl, ?_⟩⟩
      rw [isInt_of (by omega) (by omega), decide_eq_true n1, decide_eq_true n2]
      have D3 : H3 D5 = some (.lst ((List.replicate i true).map V.bl)) := e3 _ _ (by rw [upd_ne nTD.symm]; exact h9)
      refine ⟨_, D3, ?_, ?_, ?_, ?_⟩
      · have : 1000 ≤ sizeLine := by decide
        have := N.sl
        have hi' : i < (dtF ps).length := hi
        simp [dtF] at hi' ⊢
        omega
      · intro y u hu
        have hu2 := e9 _ _ hu
        by_cases yc : y = c
        · subst yc; rw [upd_same] at hu2 ⊢; exact hu2
        · rw [upd_ne yc] at hu2 ⊢
          have yD : y ≠ D5 := fun z => by rw [z, hD5'] at hu; cases hu
          rw [upd_ne yD]
          exact e3 _ _ (by rw [upd_ne (ne_of_none hu2 hT)]; exact hu2)
      · rw [upd_ne nDc.symm]
        exact e3 _ _ (by rw [upd_ne nT.symm]; exact f9)
      · rw [upd_same, List.replicate_succ', List.map_append]
        rfl
    · obtain ⟨e9, f9, h9⟩ := e
      refine ⟨f9, D5, _, rfl, .inl (.inl (show upd H9 c (.dT (dtF ps)) D5 = some (.lst ((List.replicate (dtF ps).length true).map V.bl)) by rw [upd_ne nDc]; exact h9)), ?_⟩
      rw [ball]
      exact hQ _ (e8.trans e9)
end
end MN
/-! dict comprehensions over signs and pairs; Prices.__init__ -/
namespace MN
open PySem PySem.Spec PyProof.Rows L2
theorem putK_new {α : Type} [DecidableEq α] {kvs : List (α × V)} {k : α} {v : V} (h : k ∉ kvs.map (·.1)) : putK kvs k v = kvs ++ [(k, v)] := by
  unfold putK
  rw [if_neg]
  intro q
  obtain ⟨kv, h1, h2⟩ := List.any_eq_true.mp q
  exact h (List.mem_map.mpr ⟨kv, h1, of_decide_eq_true h2⟩)
theorem take_nodup {α : Type} {l : List α} (nd : l.Nodup) {i : Nat} {a : α} (h : l[i]? = some a) : a ∉ l.take i := fun q => by
  obtain ⟨j, hj⟩ := List.mem_iff_getElem?.mp q
  rw [List.getElem?_take] at hj
  split at hj
  · rename_i hji
    have h1 := (List.getElem?_eq_some_iff.mp hj)
    have h2 := (List.getElem?_eq_some_iff.mp h)
    have := (List.getElem_inj (h₀ := h1.1) (h₁ := h2.1) nd).mp (h1.2.trans h2.2.symm)
    omega
  · cases hj
theorem dkF_put {zs : List Str} (g : Str → Int) (nd : zs.Nodup) {i : Nat} {z : Str} (h : zs[i]? = some z) : putK (dkF (zs.take i) g) (.inr z) (.int (g z)) = dkF (zs.take (i + 1)) g := by
  rw [putK_new]
  · rw [List.take_add_one, h]
    simp [dkF]
  · rw [dkF_keys]
    intro q
    obtain ⟨y, hy, e⟩ := List.mem_map.mp q
    cases e
    exact take_nodup nd h hy
theorem dtF_put {ps : List ((Str × Str) × Int)} (nd : (ps.map Prod.fst).Nodup) {i : Nat} {x y : Str} {n : Int} (h : ps[i]? = some ((x, y), n)) : putK (dtF (ps.take i)) [.inr x, .inr y] (.int n) = dtF (ps.take (i + 1)) := by
  rw [putK_new]
  · rw [List.take_add_one, h]
    simp [dtF]
  · intro q
    unfold dtF at q
    rw [List.map_map] at q
    obtain ⟨a, ha, e⟩ := List.mem_map.mp q
    have e' : ([Sum.inr a.1.1, Sum.inr a.1.2] : List Key) = [.inr x, .inr y] := e
    injection e' with e1 e2
    injection e2 with e2 _
    have ea : a.1 = (x, y) := Prod.ext (Sum.inr.inj e1) (Sum.inr.inj e2)
    have hi : (ps.map Prod.fst)[i]? = some (x, y) := by rw [List.getElem?_map, h]; rfl
    refine take_nodup nd hi ?_
    rw [← ea, ← List.map_take]
    exact List.mem_map.mpr ⟨a, ha, rfl⟩
theorem perm_map_ex {α β : Type} {f : α → β} : ∀ {l : List β} {F : List α}, l.Perm (F.map f) → ∃ F' : List α, F'.Perm F ∧ l = F'.map f
  | [], F, h => by
    have := h.length_eq
    cases F with
    | nil => exact ⟨[], .refl _, rfl⟩
    | cons => simp at this
  | a :: l, F, h => by
    obtain ⟨x, hx, rfl⟩ := List.mem_map.mp (h.mem_iff.mp List.mem_cons_self)
    obtain ⟨s, t, rfl⟩ := List.append_of_mem hx
    have p : (s ++ x :: t).Perm (x :: (s ++ t)) := List.perm_middle
    have h2 := h.trans (p.map f)
    rw [List.map_cons] at h2
    obtain ⟨F', q, e⟩ := perm_map_ex (h2.cons_inv)
    exact ⟨x :: F', (q.cons x).trans p.symm, by rw [e]; rfl⟩
section
variable {K : PySem.W.Frag} {a D : Addr} {H1 : Hp} {σ : L2.St} {vs : List Nat} {tk tv : TE} {j : Nat} {Qd : Hp → Prop}
def DcGoal (o0 : HO) (J : It) (g : TG) (tt : TT) (tk tv : TE) (vs : List Nat) (σ : L2.St) (H1 : Hp) (D : Addr) (Qd : Hp → Prop) : Prop := ∃ W : Nat → Nat → Hp → Prop, (∃ m, W 0 m (upd H1 D o0)) ∧ ∀ i m H, W i m H →
  (J.stop i H ∧ Qd H) ∨ (J.go i H ∧ ∃ Nx : Hp → Prop, (∀ H', Nx H' → ∃ m', m' < m ∧ W (i + 1) m' H') ∧ ∀ x H', J.yld i H x H' → g x (wipe σ vs) H' fun σ2 H2 => wipe σ2 vs = wipe σ vs ∧ tt σ2 H2 fun b H3 =>
    if b = true then tk σ2 H3 fun y H4 => tv σ2 H4 fun z H5 => ∃ H6, DPut H5 D y z H6 ∧ Nx H6 else Nx H3)
/-- {y: g(y) for y in signs} -/
theorem dp_signs {ys : List Str} (hs : SqL K H1 a (ys.map V.str)) (nd : ys.Nodup) (hz : ys.length ≤ 1000) (hD : H1 D = none) (g : Str → Int) (hw : ∀ y ∈ ys, wipe ((wipe σ vs).set j (some (.str y))) vs = wipe σ vs)
    (hk : ∀ y ∈ ys, ∀ H2, Same H1 H2 → ∀ Q : VK, Q (.str y) H2 → tk ((wipe σ vs).set j (some (.str y))) H2 Q) (hv : ∀ y ∈ ys, ∀ H2, Same H1 H2 → ∀ Q : VK, (∀ H3, Same H2 H3 → Q (.int (g y)) H3) → tv ((wipe σ vs).set j (some (.str y))) H2 Q)
    (hd : ∀ H', Same H1 H' → H' D = some (.dK (dkF ys g)) → Qd H') : DcGoal (.dK []) (Itl K a) (gName j) tYes tk tv vs σ H1 D Qd := by
  refine dp_it walk_list (fun i H' => Same H1 H' ∧ H' D = some (.dK (dkF (ys.take i) g))) ⟨same_new hD, by rw [List.take_zero]; exact upd_same⟩ (fun i H' _ e => Same.seq e.1 hs) (fun i x H H' hi e y => ?_) (fun H' e => ?_)
  · obtain ⟨rfl, hx⟩ := y
    obtain ⟨e1, e2⟩ := e
    rw [List.getElem?_map] at hx
    obtain ⟨y, hy, rfl⟩ := Option.map_eq_some_iff.mp hx
    have hm := List.mem_of_getElem? hy
    refine ⟨hw y hm, yes_q (iteT (hk y hm _ e1 _ (hv y hm _ e1 _ fun H3 e3 => ⟨_, .inl ⟨_, .inr y, e3 _ _ e2, rfl, ?_, rfl⟩, fun b o q => ?_, ?_⟩)))⟩
    · have : 100000 < sizeLine := by decide
      simp [dkF]
      omega
    · rw [upd_ne (ne_of_none q hD)]; exact e3 _ _ (e1 _ _ q)
    · rw [upd_same, dkF_put g nd hy]
  · obtain ⟨e1, e2⟩ := e
    refine hd H' e1 ?_
    rw [List.length_map, List.take_length] at e2
    exact e2
/-- {pair: price for pair in a list of pairs} -/
theorem dp_pairs {F : List (((Str × Str) × Int) × Addr)} (hs : SqL K H1 a (F.map fun e => V.ref e.2)) (nd : ((F.map Prod.fst).map Prod.fst).Nodup) (hz : F.length ≤ 1000) (hF : ∀ e ∈ F, H1 e.2 = some (.tup [.str e.1.1.1, .str e.1.1.2])) (hD : H1 D = none) (hw : ∀ e ∈ F, wipe ((wipe σ vs).set j (some (.ref e.2))) vs = wipe σ vs)
    (hk : ∀ e ∈ F, ∀ H2, Same H1 H2 → ∀ Q : VK, Q (.ref e.2) H2 → tk ((wipe σ vs).set j (some (.ref e.2))) H2 Q) (hv : ∀ e ∈ F, ∀ H2, Same H1 H2 → ∀ Q : VK, (∀ H3, Same H2 H3 → Q (.int e.1.2) H3) → tv ((wipe σ vs).set j (some (.ref e.2))) H2 Q)
    (hd : ∀ H', Same H1 H' → H' D = some (.dT (dtF (F.map Prod.fst))) → Qd H') : DcGoal (.dT []) (Itl K a) (gName j) tYes tk tv vs σ H1 D Qd := by
  refine dp_it walk_list (fun i H' => Same H1 H' ∧ H' D = some (.dT (dtF ((F.map Prod.fst).take i)))) ⟨same_new hD, by rw [List.take_zero]; exact upd_same⟩ (fun i H' _ e => Same.seq e.1 hs) (fun i x H H' hi e y => ?_) (fun H' e => ?_)
  · obtain ⟨rfl, hx⟩ := y
    obtain ⟨e1, e2⟩ := e
    rw [List.getElem?_map] at hx
    obtain ⟨f, hf, rfl⟩ := Option.map_eq_some_iff.mp hx
    have hm := List.mem_of_getElem? hf
    have hi2 : (F.map Prod.fst)[i]? = some ((f.1.1.1, f.1.1.2), f.1.2) := by rw [List.getElem?_map, hf]; rfl
    refine ⟨hw f hm, yes_q (iteT (hk f hm _ e1 _ (hv f hm _ e1 _ fun H3 e3 => ⟨_, .inr ⟨_, [.inr f.1.1.1, .inr f.1.1.2], f.2, e3 _ _ e2, rfl, e3 _ _ (e1 _ _ (hF f hm)), ?_, rfl⟩, fun b o q => ?_, ?_⟩)))⟩
    · have : 100000 < sizeLine := by decide
      simp [dtF]
      omega
    · rw [upd_ne (ne_of_none q hD)]; exact e3 _ _ (e1 _ _ q)
    · rw [upd_same, dtF_put nd hi2]
  · obtain ⟨e1, e2⟩ := e
    refine hd H' e1 ?_
    rw [List.length_map, ← List.length_map (f := Prod.fst), List.take_length] at e2
    exact e2
end
/-- an instance with put, out and swap prices (Prices, Closed) -/
def PrAt (C : Addr) (H : Hp) (x dx : Addr) (ys ys2 : List Str) (g o : Str → Int) (qs : List ((Str × Str) × Int)) : Prop :=
  ∃ A B S ws, Sl2 H x C dx ws ∧ ws[1]? = some (some (.ref A)) ∧ ws[0]? = some (some (.ref B)) ∧ ws[2]? = some (some (.ref S)) ∧ A ≠ B ∧ H A = some (.dK (dkF ys g)) ∧ H B = some (.dK (dkF ys2 o)) ∧ H S = some (.dT (dtF qs))
theorem PrAt.same {C : Addr} {H H' : Hp} {x dx : Addr} {ys ys2 : List Str} {g o : Str → Int} {qs : List ((Str × Str) × Int)} (h : PrAt C H x dx ys ys2 g o qs) (e : Same H H') : PrAt C H' x dx ys ys2 g o qs := by
  obtain ⟨A, B, S, ws, h1, h2, h3, h4, h5, h6, h7, h8⟩ := h
  exact ⟨A, B, S, ws, ⟨e _ _ h1.1, e _ _ h1.2⟩, h2, h3, h4, h5, e _ _ h6, e _ _ h7, e _ _ h8⟩
/-- a class with these slots -/
structure SlotC (K : PySem.W.Frag) (C : Addr) : Prop where
  sc : SlX.SCls K C
  s0 : ∃ p, SlX.Slot1 K C "own_out" p 0
  s1 : ∃ p, SlX.Slot1 K C "own_put" p 1
  s2 : ∃ p, SlX.Slot1 K C "own_swap" p 2
theorem Sl2.slt {H : Hp} {a C dx : Addr} {ws : List (Option V)} (h : Sl2 H a C dx ws) : SlX.Slt H a C dx ws := .inr h
theorem PrN.perm {zs zs2 ys ys2 : List Str} {g o : Str → Int} {ps qs : List ((Str × Str) × Int)} (N : PrN zs zs2 g o ps) (h1 : ys.Perm zs) (h2 : ys2.Perm zs) (h3 : qs.Perm ps) : PrN ys ys2 g o qs := by
  refine ⟨fun z h => N.sg z (h1.mem_iff.mp h), h1.nodup_iff.mpr N.nd, by rw [h1.length_eq]; exact N.pos, by rw [h1.length_eq]; exact N.le, h2.trans h1.symm, fun z h => N.pg z (h1.mem_iff.mp h), fun z h => N.po z (h1.mem_iff.mp h), (h3.map _).nodup_iff.mpr N.sn, fun x h => ?_, by rw [h3.length_eq]; exact N.sl⟩
  obtain ⟨a, b, c⟩ := N.sp x (h3.mem_iff.mp h)
  exact ⟨h1.mem_iff.mpr a, h1.mem_iff.mpr b, c⟩
/-- the pairs of a dict and their tuples' places -/
theorem keys_zip {H : Hp} {ps : List ((Str × Str) × Int)} {bs : List Addr} (h : IsKeys H (dtF ps) bs) : ∃ F : List (((Str × Str) × Int) × Addr), F.map Prod.fst = ps ∧ F.map Prod.snd = bs ∧ ∀ e ∈ F, H e.2 = some (.tup [.str e.1.1.1, .str e.1.1.2]) := by
  induction ps generalizing bs with
  | nil => cases h; exact ⟨[], rfl, rfl, fun _ h => nomatch h⟩
  | cons p ps ih =>
    cases h with
    | cons h1 h2 =>
      rename_i b bs
      obtain ⟨F, e1, e2, e3⟩ := ih h2
      refine ⟨(p, b) :: F, by rw [List.map_cons, e1], by rw [List.map_cons, e2], fun e he => ?_⟩
      rcases List.mem_cons.mp he with rfl | he
      · exact h1
      · exact e3 e he
section
variable {P : Program} {w : World} {K : PySem.W.Frag} {mg : Str → Option Value} {base : Heap}
def spPInit (C : Addr) : Sp := fun vs H Q _ => ∃ x dx a b c zs zs2 g o ps, vs = [.ref x, .ref a, .ref b, .ref c] ∧ H x = some (.ins C dx []) ∧ H dx = some (.own x) ∧ dx ≠ x ∧
  H a = some (.dK (dkF zs g)) ∧ H b = some (.dK (dkF zs2 o)) ∧ H c = some (.dT (dtF ps)) ∧ a ≠ b ∧ PrN zs zs2 g o ps ∧
  ∀ H' ys ys2 qs, Kp x dx H H' → PrAt C H' x dx ys ys2 g o qs → PrN ys ys2 g o qs → ys.Perm zs → sortedS ys = true → qs.Perm ps → Q .non H'
abbrev N_pinit : List Str := ["self", "put", "out", "swap", "sign", "pair"]
theorem sc_pinit : FnScope N_pinit ["self", "put", "out", "swap"] (defScope (inClass (top 23) 1)) := ⟨rfl, rfl, rfl, by decide +kernel, rfl, by decide +kernel, by decide +kernel⟩
theorem f_pinit {C f : Addr} {fd : FuncData} (PC : SlotC K C) (F : FunAt K "__init__" "Prices.__init__" (inClass (top 23) 1) [] f fd) (B : Blt mg) (c_are_prices : Cal P w K mg base 3 "are_prices" spAreP) : FnOk P w K mg base CX0 4 f fd ["self", "put", "out", "swap"] (spPInit C) := by
  refine fnok_of F sc_pinit (fun vs H Q E h => ?_) (fun cdv A outer s H vs Q E hr h => ?_)
  · obtain ⟨_, _, _, _, _, _, _, _, _, _, rfl, _⟩ := h; rfl
  · obtain ⟨x, dx, a, b, c, zs, zs2, g, o, ps, rfl, hx, hdx, dxx, ha, hb, hc, nab, N, hQ⟩ := h
    obtain ⟨p0, s0⟩ := PC.s0
    obtain ⟨p1, s1⟩ := PC.s1
    obtain ⟨p2, s2⟩ := PC.s2
    refine ⟨_, pss_cons (ps_if (pt_not (pt_val (pe_c c_are_prices hr (by decide) (by rfl) (pa_cons (pv 1) (pa_cons (pv 2) (pa_cons (pv 3) pa_nil)))))) (pss_one ps_never) pss_nil)
      (pss_cons (SlX.ps_sl (pv 0) (pe_dp1 (own := [("sign", 4)]) (o0 := .dK []) (g := gName 4) (tt := tYes) rfl (hu_of hr) sc_pinit.nd (pi_list (pe_callB cr_sortedS (by rfl) B.sorted (by decide +kernel) (pa_cons (pe_callTy (call_list_dK rfl) (by rfl) B.list (by decide +kernel) (pa_cons (pv 1) pa_nil)) pa_nil)))
        (blkOk_by (own := [("sign", 4)]) (N := N_pinit) (sc := defScope (inClass (top 23) 1)) (by decide +kernel)) (fun _ _ _ _ _ => (pg_name (i := 4) sc_pinit.nd rfl (Or.inl rfl))) (fun _ _ _ _ _ => pts_nil) (fun _ _ _ _ _ => pv 4) (fun _ _ _ _ _ => pe_dget (hu_of hr) (pv 1) (pv 4) (fun _ _ => rfl)) (.inl rfl)))
      (pss_cons (SlX.ps_sl (pv 0) (pe_dp1 (own := [("sign", 4)]) (o0 := .dK []) (g := gName 4) (tt := tYes) rfl (hu_of hr) sc_pinit.nd (pi_list (pe_callB cr_sortedS (by rfl) B.sorted (by decide +kernel) (pa_cons (pe_callTy (call_list_dK rfl) (by rfl) B.list (by decide +kernel) (pa_cons (pv 1) pa_nil)) pa_nil)))
        (blkOk_by (own := [("sign", 4)]) (N := N_pinit) (sc := defScope (inClass (top 23) 1)) (by decide +kernel)) (fun _ _ _ _ _ => (pg_name (i := 4) sc_pinit.nd rfl (Or.inl rfl))) (fun _ _ _ _ _ => pts_nil) (fun _ _ _ _ _ => pv 4) (fun _ _ _ _ _ => pe_dget (hu_of hr) (pv 2) (pv 4) (fun _ _ => rfl)) (.inl rfl)))
      (pss_one (SlX.ps_sl (pv 0) (pe_dp1 (own := [("pair", 5)]) (o0 := .dT []) (g := gName 5) (tt := tYes) rfl (hu_of hr) sc_pinit.nd (pi_list (pe_callB (cr_sortedD hr.units) (by rfl) B.sorted (by decide +kernel) (pa_cons (pe_callTy (call_list_dT rfl) (by rfl) B.list (by decide +kernel) (pa_cons (pv 3) pa_nil)) pa_nil)))
        (blkOk_by (own := [("pair", 5)]) (N := N_pinit) (sc := defScope (inClass (top 23) 1)) (by decide +kernel)) (fun _ _ _ _ _ => (pg_name (i := 5) sc_pinit.nd rfl (Or.inl rfl))) (fun _ _ _ _ _ => pts_nil) (fun _ _ _ _ _ => pv 5) (fun _ _ _ _ _ => pe_dget (hu_of hr) (pv 3) (pv 5) (fun _ _ => rfl)) (.inr rfl)))))), ?_⟩
    refine ⟨_, rfl, _, rfl, _, rfl, a, b, c, zs, zs2, g, o, ps, rfl, ha, hb, hc, nab, N, fun H1 e1 => ⟨_, rfl, iteF ?_⟩⟩
    have keyz : ∀ f : Str → Int, (dkF zs f).map (fun kv => kV kv.1) = zs.map V.str := fun f => by unfold dkF; rw [List.map_map]; rfl
    have l64 : zs.length < 64 := by have := N.le; omega
    have apart : ∀ {t : Addr} {kvs : List (Key × V)}, H t = some (.dK kvs) → t ≠ x ∧ t ≠ dx := fun h => ⟨fun z => (by rw [z, hx] at h; cases h), fun z => (by rw [z, hdx] at h; cases h)⟩
    have cx : c ≠ x := fun z => by rw [z, hx] at hc; cases hc
    have cd : c ≠ dx := fun z => by rw [z, hdx] at hc; cases hc
    obtain ⟨ax, ad⟩ := apart ha
    obtain ⟨bx, bd⟩ := apart hb
    have k1 : Kp x dx H H1 := fun b o _ _ q => e1 _ _ q
    -- own_put
    refine ⟨_, rfl, a, _, rfl, k1 _ _ ax ad ha, fun q hq => ⟨q, zs, rfl, .inl (.inl (by rw [keyz]; exact upd_same)), l64, fun ys p hys hso hp => ?_⟩⟩
    refine ⟨p, rfl, ⟨_, .inl (.inl upd_same)⟩, fun D hD => ?_⟩
    have e2 : Same H1 (upd (upd H1 q (.lst ((dkF zs g).map fun kv => kV kv.1))) p (.lst (ys.map V.str))) := (same_new hq).trans (same_new hp)
    refine dp_signs (.inl (.inl upd_same)) (hys.nodup_iff.mpr N.nd) (by have := hys.length_eq; omega) hD g (fun _ _ => rfl) (fun y _ H2 _ Q q => ⟨_, rfl, q⟩) (fun y hy H2 e Q q => ⟨_, rfl, _, rfl, a, .int (g y), rfl, .inl ⟨_, .inr y, .inl (e _ _ (e2 _ _ (k1 _ _ ax ad ha))), rfl, (dkF_val N.nd g (hys.mem_iff.mp hy)).symm⟩, q _ (Same.refl _)⟩) (fun H2 e3 hD2 => ?_)
    have e4 := e2.trans e3
    refine ⟨_, rfl, x, C, dx, p1, [], 1, rfl, .inl ⟨e4 _ _ (e1 _ _ hx), rfl⟩, PC.sc, s1, ?_⟩
    have fD : H1 D = none := e2.free hD
    have Dx : D ≠ x := (ne_of_none (e1 _ _ hx) fD).symm
    have Dd : D ≠ dx := (ne_of_none (e1 _ _ hdx) fD).symm
    have k3 : Kp x dx H (SlX.slH H2 x C dx (SlX.putS 1 (.ref D) [])) := (k1.same e4).sl
    have z3 : Sl2 (SlX.slH H2 x C dx (SlX.putS 1 (.ref D) [])) x C dx (SlX.putS 1 (.ref D) []) := slH_sl2 dxx
    have w3 : (SlX.putS 1 (.ref D) [])[1]? = some (some (.ref D)) := SlX.putS_get _ _ _
    have hD3 : SlX.slH H2 x C dx (SlX.putS 1 (.ref D) []) D = some (.dK (dkF ys g)) := by rw [SlX.slH_ne Dx Dd]; exact hD2
    generalize SlX.putS 1 (.ref D) [] = v3 at *
    generalize SlX.slH H2 x C dx v3 = H3 at *
    clear hD hD2 fD hp hq e2 e3 e4 k1 e1
    -- own_out
    refine ⟨_, rfl, a, _, rfl, k3 _ _ ax ad ha, fun q hq => ⟨q, zs, rfl, .inl (.inl (by rw [keyz]; exact upd_same)), l64, fun ys2 p hys2 _ hp => ?_⟩⟩
    refine ⟨p, rfl, ⟨_, .inl (.inl upd_same)⟩, fun D5 hD5 => ?_⟩
    have e2 : Same H3 (upd (upd H3 q (.lst ((dkF zs g).map fun kv => kV kv.1))) p (.lst (ys2.map V.str))) := (same_new hq).trans (same_new hp)
    refine dp_signs (.inl (.inl upd_same)) (hys2.nodup_iff.mpr N.nd) (by have := hys2.length_eq; omega) hD5 o (fun _ _ => rfl) (fun y _ H2 _ Q q => ⟨_, rfl, q⟩) (fun y hy H2 e Q q => ⟨_, rfl, _, rfl, b, .int (o y), rfl, .inl ⟨_, .inr y, .inl (e _ _ (e2 _ _ (k3 _ _ bx bd hb))), rfl, (dkF_val (N.pm.nodup_iff.mpr N.nd) o (N.pm.mem_iff.mpr (hys2.mem_iff.mp hy))).symm⟩, q _ (Same.refl _)⟩) (fun H4 e3 hD6 => ?_)
    have e4 := e2.trans e3
    refine ⟨_, rfl, x, C, dx, p0, v3, 0, rfl, slt_same e4 (.inr z3), PC.sc, s0, ?_⟩
    have fD : H3 D5 = none := e2.free hD5
    have D5x : D5 ≠ x := (ne_of_none z3.1 fD).symm
    have D5d : D5 ≠ dx := (ne_of_none z3.2 fD).symm
    have n5 : D ≠ D5 := ne_of_none hD3 fD
    have k5 : Kp x dx H (SlX.slH H4 x C dx (SlX.putS 0 (.ref D5) v3)) := (k3.same e4).sl
    have z5 : Sl2 (SlX.slH H4 x C dx (SlX.putS 0 (.ref D5) v3)) x C dx (SlX.putS 0 (.ref D5) v3) := slH_sl2 dxx
    have w5 : (SlX.putS 0 (.ref D5) v3)[0]? = some (some (.ref D5)) := SlX.putS_get _ _ _
    have w5' : (SlX.putS 0 (.ref D5) v3)[1]? = some (some (.ref D)) := (SlX.putS_ne (by decide)).mpr w3
    have hD7 : SlX.slH H4 x C dx (SlX.putS 0 (.ref D5) v3) D5 = some (.dK (dkF ys2 o)) := by rw [SlX.slH_ne D5x D5d]; exact hD6
    have hD8 : SlX.slH H4 x C dx (SlX.putS 0 (.ref D5) v3) D = some (.dK (dkF ys g)) := by rw [SlX.slH_ne Dx Dd]; exact e4 _ _ hD3
    generalize SlX.putS 0 (.ref D5) v3 = v5 at *
    generalize SlX.slH H4 x C dx v5 = H5 at *
    clear hD5 hD6 fD hp hq e2 e3 e4 k3 z3 w3 hD3
    -- own_swap
    refine ⟨_, rfl, c, _, rfl, .inl (k5 _ _ cx cd hc), fun q bs hq hbs => ?_⟩
    obtain ⟨F0, f1, f2, f3⟩ := keys_zip hbs
    have up1 := same_new (o := .lst (bs.map V.ref)) hq
    refine ⟨q, F0.map fun e => (V.ref e.2, PyData.tuple [.str e.1.1.1, .str e.1.1.2]), rfl, .inl (.inl ?_), fun y hy => ?_, fun d1 h1 d2 h2 => ?_, .inl fun d hd => ?_, fun y hy => ?_, fun p hp => ?_⟩
    · rw [upd_same, List.map_map, ← f2, List.map_map]; rfl
    · obtain ⟨e, he, rfl⟩ := List.mem_map.mp hy
      exact dpT (zs := [e.1.1.1, e.1.1.2]) (.inl (.inl (up1 _ _ (f3 e he))))
    · rw [List.map_map] at h1 h2
      obtain ⟨e1, _, rfl⟩ := List.mem_map.mp h1
      obtain ⟨e2, _, rfl⟩ := List.mem_map.mp h2
      rfl
    · rw [List.map_map] at hd
      obtain ⟨e1, _, rfl⟩ := List.mem_map.mp hd
      exact ⟨_, _, rfl⟩
    · obtain ⟨e, he, rfl⟩ := List.mem_map.mp hy
      show PyData.depth _ ≤ 8
      simp [PyData.depth, PyData.depthAll]
    obtain ⟨F', pF, eF⟩ := perm_map_ex (List.mergeSort_perm (F0.map fun e => (V.ref e.2, PyData.tuple [.str e.1.1.1, .str e.1.1.2])) (PySem.W.dataLe false Prod.snd))
    rw [eF, List.map_map] at *
    have pq : (F'.map Prod.fst).Perm ps := by rw [← f1]; exact pF.map _
    have up2 := up1.trans (same_new (o := .lst (F'.map (Prod.fst ∘ fun e : ((Str × Str) × Int) × Addr => (V.ref e.2, PyData.tuple [.str e.1.1.1, .str e.1.1.2])))) hp)
    refine ⟨p, rfl, ⟨_, .inl (.inl upd_same)⟩, fun D9 hD9 => ?_⟩
    refine dp_pairs (F := F') (.inl (.inl upd_same)) ((pq.map _).nodup_iff.mpr N.sn) ?_ (fun e he => up2 _ _ (f3 e (pF.mem_iff.mp he))) hD9 (fun _ _ => rfl) (fun y _ H2 _ Q q => ⟨_, rfl, q⟩) (fun y hy H2 e Q q => ⟨_, rfl, _, rfl, c, .int y.1.2, rfl, .inr ⟨_, [.inr y.1.1.1, .inr y.1.1.2], y.2, .inl (e _ _ (up2 _ _ (k5 _ _ cx cd hc))), rfl, e _ _ (up2 _ _ (f3 y (pF.mem_iff.mp hy))), (dtF_val N.sn (pq.mem_iff.mp (List.mem_map.mpr ⟨y, hy, rfl⟩))).symm⟩, q _ (Same.refl _)⟩) (fun H6 e6 hD6 => ?_)
    · have := N.sl
      have := pq.length_eq
      rw [List.length_map] at this
      omega
    have e7 := up2.trans e6
    have z7 := z5
    refine ⟨_, rfl, x, C, dx, p2, v5, 2, rfl, slt_same e7 (.inr z5), PC.sc, s2, ?_⟩
    have fD : H5 D9 = none := up2.free hD9
    have D9x : D9 ≠ x := (ne_of_none z5.1 fD).symm
    have D9d : D9 ≠ dx := (ne_of_none z5.2 fD).symm
    refine hQ _ ys ys2 (F'.map Prod.fst) (k5.same e7).sl ⟨D, D5, D9, _, slH_sl2 dxx, (SlX.putS_ne (by decide)).mpr w5', (SlX.putS_ne (by decide)).mpr w5, SlX.putS_get _ _ _, n5, ?_, ?_, ?_⟩ (N.perm hys hys2 pq) hys hso pq
    · rw [SlX.slH_ne Dx Dd]; exact e7 _ _ hD8
    · rw [SlX.slH_ne D5x D5d]; exact e7 _ _ hD7
    · rw [SlX.slH_ne D9x D9d]; exact hD6
end
end MN
/-! nodes and signs; tables of prices by pairs of nodes -/
namespace MN
open PySem PySem.Spec PyProof.Rows L2
def sgS (c : Nat) : Str := ⟨#[c]⟩
def nS : Nd → Str
  | none => ""
  | some c => sgS c
theorem nS_inj : ∀ {x y : Nd}, nS x = nS y → x = y
  | none, none, _ => rfl
  | none, some c, h => by
    have h' : (("" : Str)).length = (sgS c).length := by rw [show ("" : Str) = sgS c from h]
    cases h'
  | some c, none, h => by
    have h' : (("" : Str)).length = (sgS c).length := by rw [show sgS c = ("" : Str) from h]
    cases h'
  | some c, some d, h => by
    have h' : sgS c = sgS d := h
    simp [sgS] at h'
    rw [h']
/-- the codes of signs -/
def codesOf (zs : List Str) : List Nat := zs.map fun z => z.cps.toList.headD 0
theorem codes_sg {zs : List Str} (h : ∀ z ∈ zs, ∃ c ∈ ("abcde" : Str).cps.toList, z = ⟨#[c]⟩) : (codesOf zs).map sgS = zs := by
  unfold codesOf
  rw [List.map_map]
  conv => rhs; rw [← List.map_id zs]
  refine List.map_congr_left fun z hz => ?_
  obtain ⟨c, _, rfl⟩ := h z hz
  rfl
theorem mem_codes {zs : List Str} (h : ∀ z ∈ zs, ∃ c ∈ ("abcde" : Str).cps.toList, z = ⟨#[c]⟩) {c : Nat} : c ∈ codesOf zs ↔ sgS c ∈ zs := by
  constructor
  · intro hc
    rw [← codes_sg h]
    exact List.mem_map.mpr ⟨c, hc, rfl⟩
  · intro hc
    rw [← codes_sg h] at hc
    obtain ⟨d, hd, e⟩ := List.mem_map.mp hc
    have := nS_inj (x := some d) (y := some c) e
    cases this
    exact hd
theorem codes_nodup {zs : List Str} (h : ∀ z ∈ zs, ∃ c ∈ ("abcde" : Str).cps.toList, z = ⟨#[c]⟩) (nd : zs.Nodup) : (codesOf zs).Nodup := by
  rw [← codes_sg h, List.Nodup, List.pairwise_map] at nd
  exact nd.imp fun {a b} hab e => hab (by rw [e])
/-- the nodes -/
def ndOf (L : List Nat) : List Nd := none :: L.map some
theorem mem_nd {L : List Nat} {x : Nd} : x ∈ ndOf L ↔ InL L x := by
  unfold ndOf
  cases x with
  | none => simp [InL]
  | some a => simp [InL]
theorem nd_nodup {L : List Nat} (h : L.Nodup) : (ndOf L).Nodup := by
  unfold ndOf
  rw [List.nodup_cons]
  refine ⟨by simp, ?_⟩
  rw [List.Nodup, List.pairwise_map]
  exact h.imp fun {a b} hab e => hab (Option.some.inj e)
def findP (qs : List ((Str × Str) × Int)) (x y : Str) : Option Int := (qs.find? fun q => decide (q.1 = (x, y))).map (·.2)
theorem findP_some {qs : List ((Str × Str) × Int)} (nd : (qs.map Prod.fst).Nodup) {x y : Str} {p : Int} : findP qs x y = some p ↔ ((x, y), p) ∈ qs := by
  unfold findP
  constructor
  · intro h
    obtain ⟨q, hq, rfl⟩ := Option.map_eq_some_iff.mp h
    have h1 := List.mem_of_find?_eq_some hq
    have h2 : q.1 = (x, y) := by simpa using List.find?_some hq
    rw [← h2]
    exact h1
  · intro h
    induction qs with
    | nil => cases h
    | cons q qs ih =>
      rw [List.map_cons, List.nodup_cons] at nd
      rw [List.find?_cons]
      rcases List.mem_cons.mp h with rfl | h
      · simp
      · have : q.1 ≠ (x, y) := fun e => nd.1 (by rw [e]; exact List.mem_map.mpr ⟨_, h, rfl⟩)
        simp only [this, decide_false]
        exact ih nd.2 h
theorem findP_perm {qs qs' : List ((Str × Str) × Int)} (nd : (qs.map Prod.fst).Nodup) (h : qs'.Perm qs) (x y : Str) : findP qs' x y = findP qs x y := by
  have nd' : (qs'.map Prod.fst).Nodup := (h.map _).nodup_iff.mpr nd
  cases e : findP qs x y with
  | some p => exact (findP_some nd').mpr (h.mem_iff.mpr ((findP_some nd).mp e))
  | none =>
    cases e' : findP qs' x y with
    | none => rfl
    | some p =>
      have := (findP_some nd).mpr (h.mem_iff.mp ((findP_some nd').mp e'))
      rw [e] at this
      cases this
/-- the prices, by nodes -/
def rOf (L : List Nat) (g o : Str → Int) (qs : List ((Str × Str) × Int)) : Nd → Nd → Option Int
  | none, none => none
  | none, some b => if b ∈ L then some (g (sgS b)) else none
  | some a, none => if a ∈ L then some (o (sgS a)) else none
  | some a, some b => findP qs (sgS a) (sgS b)
theorem rOf_pos {zs zs2 : List Str} {g o : Str → Int} {ps : List ((Str × Str) × Int)} (N : PrN zs zs2 g o ps) : ∀ x y p, rOf (codesOf zs) g o ps x y = some p → 1 ≤ p := by
  intro x y p h
  cases x with
  | none =>
    cases y with
    | none => cases h
    | some b =>
      change (if b ∈ codesOf zs then some (g (sgS b)) else none) = some p at h
      split at h
      · rename_i hb
        cases h
        exact (N.pg _ ((mem_codes N.sg).mp hb)).1
      · cases h
  | some a =>
    cases y with
    | none =>
      change (if a ∈ codesOf zs then some (o (sgS a)) else none) = some p at h
      split at h
      · rename_i hb
        cases h
        exact (N.po _ ((mem_codes N.sg).mp hb)).1
      · cases h
    | some b =>
      have := N.sp _ ((findP_some N.sn).mp h)
      exact this.2.2.2.1
theorem rOf_all {L : List Nat} {g o : Str → Int} {ps : List ((Str × Str) × Int)} : ∀ a ∈ L, (∃ p, rOf L g o ps none (some a) = some p) ∧ ∃ p, rOf L g o ps (some a) none = some p := fun a h => ⟨⟨_, if_pos h⟩, ⟨_, if_pos h⟩⟩
theorem rOf_in {zs zs2 : List Str} {g o : Str → Int} {ps : List ((Str × Str) × Int)} (N : PrN zs zs2 g o ps) {x y : Nd} {p : Int} (h : rOf (codesOf zs) g o ps x y = some p) : InL (codesOf zs) x ∧ InL (codesOf zs) y ∧ x ≠ y := by
  cases x with
  | none =>
    cases y with
    | none => cases h
    | some b =>
      change (if b ∈ codesOf zs then some (g (sgS b)) else none) = some p at h
      split at h
      · rename_i hb
        exact ⟨InL.no, InL.of hb, fun e => nomatch e⟩
      · cases h
  | some a =>
    cases y with
    | none =>
      change (if a ∈ codesOf zs then some (o (sgS a)) else none) = some p at h
      split at h
      · rename_i hb
        exact ⟨InL.of hb, InL.no, fun e => nomatch e⟩
      · cases h
    | some b =>
      have := N.sp _ ((findP_some N.sn).mp h)
      exact ⟨InL.of ((mem_codes N.sg).mpr this.1), InL.of ((mem_codes N.sg).mpr this.2.1), fun e => this.2.2.1 (by cases e; rfl)⟩
/-- what Clo says hangs on the prices of the nodes alone -/
theorem Clo.congr {L : List Nat} {r r' : Nd → Nd → Option Int} {c : Nd → Nd → Int} (C : Clo L r c) (h : ∀ x y, InL L x → InL L y → r' x y = r x y) : Clo L r' c := by
  refine ⟨C.z, C.pos, C.tri, fun x y p hx hy e => C.le x y p hx hy (by rw [← h x y hx hy]; exact e), fun x y hx hy n => ?_⟩
  obtain ⟨z, p, hz, nz, e, q⟩ := C.last x y hx hy n
  exact ⟨z, p, hz, nz, by rw [h z y hz hy]; exact e, q⟩
theorem Clo.perm {L L' : List Nat} {r : Nd → Nd → Option Int} {c : Nd → Nd → Int} (C : Clo L r c) (h : ∀ a, a ∈ L' ↔ a ∈ L) : Clo L' r c := by
  have k : ∀ x, InL L' x → InL L x := fun x hx a e => (h a).mp (hx a e)
  have k' : ∀ x, InL L x → InL L' x := fun x hx a e => (h a).mpr (hx a e)
  refine ⟨C.z, fun x y hx hy n => C.pos x y (k x hx) (k y hy) n, fun x y z hx hy hz => C.tri x y z (k x hx) (k y hy) (k z hz), fun x y p hx hy e => C.le x y p (k x hx) (k y hy) e, fun x y hx hy n => ?_⟩
  obtain ⟨z, p, hz, nz, e, q⟩ := C.last x y (k x hx) (k y hy) n
  exact ⟨z, p, k' z hz, nz, e, q⟩
theorem Clo.uniq {L : List Nat} {r : Nd → Nd → Option Int} {c c' : Nd → Nd → Int} (C : Clo L r c) (C' : Clo L r c') : ∀ x y, InL L x → InL L y → c x y = c' x y := by
  have key : ∀ {c c' : Nd → Nd → Int}, Clo L r c → Clo L r c' → ∀ (n : Nat) (x y : Nd), InL L x → InL L y → c' x y ≤ n → c x y ≤ c' x y := by
    intro c c' C C' n
    induction n with
    | zero =>
      intro x y hx hy h
      by_cases e : x = y
      · subst e; rw [C.z, C'.z]; exact Int.le_refl _
      · have := C'.pos x y hx hy e; omega
    | succ n ih =>
      intro x y hx hy h
      by_cases e : x = y
      · subst e; rw [C.z, C'.z]; exact Int.le_refl _
      · obtain ⟨z, p, hz, nz, er, ec⟩ := C'.last x y hx hy e
        have p0 := C'.le z y p hz hy er
        have p1 := C'.pos z y hz hy nz
        have h1 := ih x z hx hz (by omega)
        have h2 := C.tri x z y hx hz hy
        have h3 := C.le z y p hz hy er
        omega
  intro x y hx hy
  have n1 : 0 ≤ c' x y := by
    by_cases e : x = y
    · subst e; rw [C'.z]; exact Int.le_refl _
    · have := C'.pos x y hx hy e; omega
  have n2 : 0 ≤ c x y := by
    by_cases e : x = y
    · subst e; rw [C.z]; exact Int.le_refl _
    · have := C.pos x y hx hy e; omega
  have h1 := key C C' (c' x y).toNat x y hx hy (by omega)
  have h2 := key C' C (c x y).toNat x y hx hy (by omega)
  omega
theorem Dc_congr {L : List Nat} {c c' : Nd → Nd → Int} (h : ∀ x y, InL L x → InL L y → c x y = c' x y) : ∀ u v : List Nat, (∀ a ∈ u, a ∈ L) → (∀ a ∈ v, a ∈ L) → Dc c u v = Dc c' u v
  | [], [], _, _ => by simp only [Dc]
  | [], y :: v, hu, hv => by
    simp only [Dc]
    rw [Dc_congr h [] v hu fun a q => hv a (List.mem_cons_of_mem _ q), h _ _ InL.no (InL.of (hv y List.mem_cons_self))]
  | x :: u, [], hu, hv => by
    simp only [Dc]
    rw [Dc_congr h u [] (fun a q => hu a (List.mem_cons_of_mem _ q)) hv, h _ _ (InL.of (hu x List.mem_cons_self)) InL.no]
  | x :: u, y :: v, hu, hv => by
    have hu' : ∀ a ∈ u, a ∈ L := fun a q => hu a (List.mem_cons_of_mem _ q)
    have hv' : ∀ a ∈ v, a ∈ L := fun a q => hv a (List.mem_cons_of_mem _ q)
    have hx := InL.of (hu x List.mem_cons_self)
    have hy := InL.of (hv y List.mem_cons_self)
    simp only [Dc]
    rw [Dc_congr h u v hu' hv', Dc_congr h u (y :: v) hu' hv, Dc_congr h (x :: u) v hu hv', h _ _ hx hy, h _ _ hx InL.no, h _ _ InL.no hy]
/-! ### a table as a dict -/
abbrev kN (x y : Nd) : List Key := [.inr (nS x), .inr (nS y)]
theorem kN_inj {x y a b : Nd} (h : kN x y = kN a b) : x = a ∧ y = b := by
  injection h with h1 h2
  injection h2 with h2 _
  exact ⟨nS_inj (Sum.inr.inj h1), nS_inj (Sum.inr.inj h2)⟩
structure TabAt (L : List Nat) (kvs : List (List Key × V)) (O : Nd → Nd → Option Int) : Prop where
  nd : (kvs.map (·.1)).Nodup
  ks : ∀ k ∈ kvs.map (·.1), ∃ x ∈ ndOf L, ∃ y ∈ ndOf L, k = kN x y
  vl : ∀ x y, valV kvs (kN x y) = (O x y).map V.int
def putO (O : Nd → Nd → Option Int) (x y : Nd) (n : Int) : Nd → Nd → Option Int := fun a b => if a = x ∧ b = y then some n else O a b
theorem putK_keys {α : Type} [DecidableEq α] (kvs : List (α × V)) (k : α) (v : V) : (putK kvs k v).map (·.1) = if k ∈ kvs.map (·.1) then kvs.map (·.1) else kvs.map (·.1) ++ [k] := by
  unfold putK
  by_cases h : k ∈ kvs.map (·.1)
  · rw [if_pos h, if_pos]
    · rw [List.map_map]
      refine List.map_congr_left fun kv _ => ?_
      show (if kv.1 = k then (kv.1, v) else kv).1 = kv.1
      split <;> rfl
    · obtain ⟨kv, h1, rfl⟩ := List.mem_map.mp h
      exact List.any_eq_true.mpr ⟨kv, h1, by simp⟩
  · rw [if_neg h, if_neg]
    · simp
    · intro q
      obtain ⟨kv, h1, h2⟩ := List.any_eq_true.mp q
      exact h (List.mem_map.mpr ⟨kv, h1, of_decide_eq_true h2⟩)
theorem TabAt.put {L : List Nat} {kvs : List (List Key × V)} {O : Nd → Nd → Option Int} (T : TabAt L kvs O) {x y : Nd} (hx : x ∈ ndOf L) (hy : y ∈ ndOf L) (n : Int) : TabAt L (putK kvs (kN x y) (.int n)) (putO O x y n) := by
  refine ⟨?_, ?_, fun a b => ?_⟩
  · rw [putK_keys]
    split
    · exact T.nd
    · rename_i h
      rw [List.nodup_append]
      refine ⟨T.nd, by simp, fun a ha b hb => ?_⟩
      rw [List.mem_singleton.mp hb]
      exact fun e => h (by rw [← e]; exact ha)
  · intro k hk
    rw [putK_keys] at hk
    split at hk
    · exact T.ks k hk
    · rcases List.mem_append.mp hk with hk | hk
      · exact T.ks k hk
      · exact ⟨x, hx, y, hy, List.mem_singleton.mp hk⟩
  · rw [valV_put]
    unfold putO
    by_cases e : kN a b = kN x y
    · rw [if_pos e, if_pos (kN_inj e)]; rfl
    · rw [if_neg e, if_neg fun q => e (by rw [q.1, q.2])]
      exact T.vl a b
theorem len_sub {α : Type} [DecidableEq α] : ∀ {l m : List α}, l.Nodup → (∀ a ∈ l, a ∈ m) → l.length ≤ m.length
  | [], _, _, _ => Nat.zero_le _
  | a :: l, m, nd, h => by
    rw [List.nodup_cons] at nd
    have ih := len_sub (l := l) (m := m.erase a) nd.2 fun b hb => by
      rw [List.mem_erase_of_ne (fun e => nd.1 (by rw [← e]; exact hb))]
      exact h b (List.mem_cons_of_mem _ hb)
    have hm := h a List.mem_cons_self
    rw [List.length_erase_of_mem hm] at ih
    have : 0 < m.length := List.length_pos_of_mem hm
    simp only [List.length_cons]
    omega
theorem TabAt.len {L : List Nat} {kvs : List (List Key × V)} {O : Nd → Nd → Option Int} (T : TabAt L kvs O) : kvs.length ≤ (L.length + 1) * (L.length + 1) := by
  have h := len_sub (m := (ndOf L).flatMap fun x => (ndOf L).map fun y => kN x y) T.nd fun k hk => by
    obtain ⟨x, hx, y, hy, rfl⟩ := T.ks k hk
    exact List.mem_flatMap.mpr ⟨x, hx, List.mem_map.mpr ⟨y, hy, rfl⟩⟩
  rw [List.length_map] at h
  have e : ∀ (l m : List Nd), (l.flatMap fun x => m.map fun y => kN x y).length = l.length * m.length := by
    intro l m
    induction l with
    | nil => simp
    | cons a l ih => rw [List.flatMap_cons, List.length_append, ih, List.length_map, List.length_cons, Nat.succ_mul]; omega
  rw [e] at h
  simpa [ndOf] using h
end MN
/-! Closed.__init__ -/
namespace MN
open PySem PySem.Spec PyProof.Rows L2
def codeOf (z : Str) : Nat := z.cps.toList.headD 0
theorem piListK {X : Cx} {K : PySem.W.Frag} (hK : X.K = K) {tg l : Expr} {tl : TE} (hl : PE X l tl) : PI X tg l (iList K tl) := hK ▸ pi_list hl
theorem peSlK {X : Cx} {K : PySem.W.Frag} (hK : X.K = K) {e : Expr} {ta : TE} {f : Str} {pos : Pos} (he : PE X e ta) (hb : attributeBase e f X.env (eval e X.env) = eval e X.env := by rfl) : PE X (.Attribute e f pos) (SlX.tSl K ta f) := hK ▸ SlX.pe_sl he hb
/-- the swap prices of all pairs of some signs -/
structure AllP (ys : List Str) (h : Str → Str → Int) (qs : List ((Str × Str) × Int)) : Prop where
  nd : (qs.map Prod.fst).Nodup
  iff : ∀ e, e ∈ qs ↔ e.1.1 ∈ ys ∧ e.1.2 ∈ ys ∧ e.1.1 ≠ e.1.2 ∧ e.2 = h e.1.1 e.1.2
theorem pairs_len {ys : List Str} {l : List (Str × Str)} (nd : l.Nodup) (h : ∀ e ∈ l, e.1 ∈ ys ∧ e.2 ∈ ys) : l.length ≤ ys.length * ys.length := by
  have h1 := len_sub (m := ys.flatMap fun x => ys.map fun y => (x, y)) nd fun e he => List.mem_flatMap.mpr ⟨e.1, (h e he).1, List.mem_map.mpr ⟨e.2, (h e he).2, rfl⟩⟩
  have e : ∀ (l m : List Str), (l.flatMap fun x => m.map fun y => (x, y)).length = l.length * m.length := by
    intro l m
    induction l with
    | nil => simp
    | cons a l ih => rw [List.flatMap_cons, List.length_append, ih, List.length_map, List.length_cons, Nat.succ_mul]; omega
  rw [e] at h1
  exact h1
theorem AllP.len {ys : List Str} {h : Str → Str → Int} {qs : List ((Str × Str) × Int)} (A : AllP ys h qs) : qs.length ≤ ys.length * ys.length := by
  have := pairs_len (ys := ys) A.nd fun e he => by
    obtain ⟨x, hx, rfl⟩ := List.mem_map.mp he
    exact ⟨((A.iff x).mp hx).1, ((A.iff x).mp hx).2.1⟩
  rwa [List.length_map] at this
theorem AllP.find {ys : List Str} {h : Str → Str → Int} {qs : List ((Str × Str) × Int)} (A : AllP ys h qs) {x y : Str} (hx : x ∈ ys) (hy : y ∈ ys) (n : x ≠ y) : findP qs x y = some (h x y) :=
  (findP_some A.nd).mpr ((A.iff _).mpr ⟨hx, hy, n, rfl⟩)
/-- the pairs put so far -/
def PreP (ys : List Str) (h : Str → Str → Int) (i j : Nat) (qs : List ((Str × Str) × Int)) : Prop := (qs.map Prod.fst).Nodup ∧ ∀ e, e ∈ qs ↔ ((e.1.1 ∈ ys.take i ∧ e.1.2 ∈ ys) ∨ (ys[i]? = some e.1.1 ∧ e.1.2 ∈ ys.take j)) ∧ e.1.1 ≠ e.1.2 ∧ e.2 = h e.1.1 e.1.2
theorem PreP.row {ys : List Str} {h : Str → Str → Int} {i : Nat} {qs : List ((Str × Str) × Int)} (P : PreP ys h i ys.length qs) (hi : i < ys.length) : PreP ys h (i + 1) 0 qs := by
  refine ⟨P.1, fun e => ?_⟩
  rw [P.2 e, List.take_length, List.take_add_one, List.getElem?_eq_getElem hi]
  simp only [Option.toList_some, List.mem_append, List.mem_singleton, Option.some.injEq, List.take_zero, List.not_mem_nil, and_false, or_false]
  constructor
  · rintro ⟨a | ⟨a, b⟩, c⟩
    · exact ⟨⟨.inl a.1, a.2⟩, c⟩
    · exact ⟨⟨.inr a.symm, b⟩, c⟩
  · rintro ⟨⟨a | a, b⟩, c⟩
    · exact ⟨.inl ⟨a, b⟩, c⟩
    · exact ⟨.inr ⟨a.symm, b⟩, c⟩
theorem PreP.skip {ys : List Str} {h : Str → Str → Int} {i j : Nat} {y : Str} {qs : List ((Str × Str) × Int)} (P : PreP ys h i j qs) (hi : ys[i]? = some y) (hj : ys[j]? = some y) : PreP ys h i (j + 1) qs := by
  refine ⟨P.1, fun e => ?_⟩
  rw [P.2 e, List.take_add_one, hj, hi]
  simp only [Option.toList_some, List.mem_append, List.mem_singleton, Option.some.injEq]
  constructor
  · rintro ⟨a | ⟨a, b⟩, c⟩
    · exact ⟨.inl a, c⟩
    · exact ⟨.inr ⟨a, .inl b⟩, c⟩
  · rintro ⟨a | ⟨a, b | b⟩, c⟩
    · exact ⟨.inl a, c⟩
    · exact ⟨.inr ⟨a, b⟩, c⟩
    · exact absurd (a.symm.trans b.symm) c.1
theorem PreP.new {ys : List Str} {h : Str → Str → Int} {i j : Nat} {x y : Str} {qs : List ((Str × Str) × Int)} (P : PreP ys h i j qs) (nd : ys.Nodup) (hi : ys[i]? = some x) (hj : ys[j]? = some y) (n : x ≠ y) : PreP ys h i (j + 1) (qs ++ [((x, y), h x y)]) ∧ (x, y) ∉ qs.map Prod.fst := by
  have nw : (x, y) ∉ qs.map Prod.fst := fun q => by
    obtain ⟨e, he, q⟩ := List.mem_map.mp q
    obtain ⟨a | a, _⟩ := (P.2 e).mp he
    · rw [q] at a; exact take_nodup nd hi a.1
    · rw [q] at a; exact take_nodup nd hj a.2
  refine ⟨⟨?_, fun e => ?_⟩, nw⟩
  · rw [List.map_append, List.nodup_append]
    refine ⟨P.1, by simp, fun a ha b hb => ?_⟩
    rw [show b = (x, y) by simpa using hb]
    exact fun z => nw (by rw [← z]; exact ha)
  · rw [List.mem_append, P.2 e, List.mem_singleton, List.take_add_one, hj, hi]
    simp only [Option.toList_some, List.mem_append, List.mem_singleton, Option.some.injEq]
    constructor
    · rintro (⟨a | ⟨a, b⟩, c⟩ | rfl)
      · exact ⟨.inl a, c⟩
      · exact ⟨.inr ⟨a, .inl b⟩, c⟩
      · exact ⟨.inr ⟨rfl, .inr rfl⟩, n, rfl⟩
    · rintro ⟨a | ⟨a, b | b⟩, c⟩
      · exact .inl ⟨.inl a, c⟩
      · exact .inl ⟨.inr ⟨a, b⟩, c⟩
      · refine .inr ?_
        obtain ⟨⟨e1, e2⟩, e3⟩ := e
        have a' : x = e1 := a
        have b' : e2 = y := b
        subst a'
        subst b'
        have c' : e3 = h x e2 := c.2
        rw [c']
theorem PreP.len {ys : List Str} {h : Str → Str → Int} {i j : Nat} {qs : List ((Str × Str) × Int)} (P : PreP ys h i j qs) : qs.length ≤ ys.length * ys.length := by
  have := pairs_len (ys := ys) P.1 fun e he => by
    obtain ⟨x, hx, rfl⟩ := List.mem_map.mp he
    obtain ⟨a | a, _⟩ := (P.2 x).mp hx
    · exact ⟨List.mem_of_mem_take a.1, a.2⟩
    · exact ⟨List.mem_of_getElem? a.1, List.mem_of_mem_take a.2⟩
  rwa [List.length_map] at this
theorem PreP.all {ys : List Str} {h : Str → Str → Int} {qs : List ((Str × Str) × Int)} (P : PreP ys h ys.length 0 qs) : AllP ys h qs := by
  refine ⟨P.1, fun e => ?_⟩
  rw [P.2 e, List.take_length]
  simp [and_assoc]
/-- all but T stays -/
def But (T : Addr) (H H' : Hp) : Prop := ∀ b o, b ≠ T → H b = some o → H' b = some o
theorem But.refl {T : Addr} {H : Hp} : But T H H := fun _ _ _ e => e
theorem But.same {T : Addr} {H H1 H2 : Hp} (h : But T H H1) (e : Same H1 H2) : But T H H2 := fun b o n q => e _ _ (h b o n q)
theorem But.put {T : Addr} {H H1 : Hp} {o : HO} (h : But T H H1) : But T H (upd H1 T o) := fun b o n q => by rw [upd_ne n]; exact h b o n q
theorem But.trans {T : Addr} {H H1 H2 : Hp} (h : But T H H1) (e : But T H1 H2) : But T H H2 := fun b o n q => e b o n (h b o n q)
theorem But.same0 {T : Addr} {H H1 : Hp} (h : But T H H1) (n : H T = none) : Same H H1 := fun b o q => h b o (fun z => by rw [z, n] at q; cases q) q
theorem But.seqL {K : PySem.W.Frag} {T : Addr} {H H' : Hp} {a : Addr} {xs : List V} (e : But T H H') (h : SqL K H a xs) (hne : a ≠ T) : SqL K H' a xs := by
  rcases h with (h | ⟨o, h⟩) | h
  · exact .inl (.inl (e _ _ hne h))
  · exact .inl (.inr ⟨o, e _ _ hne h⟩)
  · exact .inr h
theorem dtF_new {qs : List ((Str × Str) × Int)} {x y : Str} {n : Int} (h : (x, y) ∉ qs.map Prod.fst) : putK (dtF qs) [.inr x, .inr y] (.int n) = dtF (qs ++ [((x, y), n)]) := by
  rw [putK_new]
  · simp [dtF]
  · intro q
    unfold dtF at q
    rw [List.map_map] at q
    obtain ⟨a, ha, e⟩ := List.mem_map.mp q
    have e' : ([Sum.inr a.1.1, Sum.inr a.1.2] : List Key) = [.inr x, .inr y] := e
    injection e' with e1 e2
    injection e2 with e2 _
    exact h (List.mem_map.mpr ⟨a, ha, Prod.ext (Sum.inr.inj e1) (Sum.inr.inj e2)⟩)
section
variable {P : Program} {w : World} {K : PySem.W.Frag} {mg : Str → Option Value} {base : Heap}
/-- closed prices: their instance -/
def ClAt (C : Addr) (H : Hp) (x dx : Addr) (ys : List Str) (c : Nd → Nd → Int) : Prop := ∃ qs, AllP ys (fun a b => c (some (codeOf a)) (some (codeOf b))) qs ∧ PrAt C H x dx ys ys (fun z => c none (some (codeOf z))) (fun z => c (some (codeOf z)) none) qs
theorem ClAt.same {C : Addr} {H H' : Hp} {x dx : Addr} {ys : List Str} {c : Nd → Nd → Int} (h : ClAt C H x dx ys c) (e : Same H H') : ClAt C H' x dx ys c := by
  obtain ⟨qs, h1, h2⟩ := h
  exact ⟨qs, h1, h2.same e⟩
theorem nS_code {z : Str} (h : ∃ c ∈ ("abcde" : Str).cps.toList, z = ⟨#[c]⟩) : nS (some (codeOf z)) = z := by
  obtain ⟨c, _, rfl⟩ := h
  rfl
theorem code_mem {zs : List Str} (h : ∀ z ∈ zs, ∃ c ∈ ("abcde" : Str).cps.toList, z = ⟨#[c]⟩) {z : Str} (hz : z ∈ zs) : codeOf z ∈ codesOf zs := List.mem_map.mpr ⟨z, hz, rfl⟩
def spCInit (K : PySem.W.Frag) (C : Addr) : Sp := fun vs H Q _ => ∃ x dx T a ys kvs O, vs = [.ref x, .ref T, .ref a] ∧ H x = some (.ins C dx []) ∧ H dx = some (.own x) ∧ dx ≠ x ∧ H T = some (.dT kvs) ∧ H a = some (.lst (ys.map V.str)) ∧ ys.length ≤ 5 ∧ ys.Nodup ∧ (∀ z ∈ ys, ∃ c ∈ ("abcde" : Str).cps.toList, z = ⟨#[c]⟩) ∧
  TabAt (codesOf ys) kvs O ∧ (∀ x y, InL (codesOf ys) x → InL (codesOf ys) y → x ≠ y → ∃ t, O x y = some t) ∧ ∀ H', Kp x dx H H' → ClAt C H' x dx ys (cOf O) → Q .non H'
abbrev N_cinit : List Str := ["self", "table", "signs", "sign", "one", "other"]
theorem sc_cinit : FnScope N_cinit ["self", "table", "signs"] (defScope (inClass (top 21) 1)) := ⟨rfl, rfl, rfl, by decide +kernel, rfl, by decide +kernel, by decide +kernel⟩
theorem f_cinit {C f : Addr} {fd : FuncData} (PC : SlotC K C) (F : FunAt K "__init__" "Closed.__init__" (inClass (top 21) 1) [] f fd) (B : Blt mg) : FnOk P w K mg base CX0 1 f fd ["self", "table", "signs"] (spCInit K C) := by
  refine fnok_of F sc_cinit (fun vs H Q E h => ?_) (fun cdv A outer s H vs Q E hr h => ?_)
  · obtain ⟨_, _, _, _, _, _, _, rfl, _⟩ := h; rfl
  · obtain ⟨x, dx, T, a, ys, kvs, O, rfl, hx, hdx, dxx, hT, ha, l5, nd, sg, TA, tot, hQ⟩ := h
    obtain ⟨p0, s0⟩ := PC.s0
    obtain ⟨p1, s1⟩ := PC.s1
    obtain ⟨p2, s2⟩ := PC.s2
    refine ⟨_, pss_cons (SlX.ps_sl (pv 0) (pe_dp1 (own := [("sign", 3)]) (o0 := .dK []) (g := gName 3) (tt := tYes) rfl (hu_of hr) sc_cinit.nd (pi_list (pv 2))
        (blkOk_by (own := [("sign", 3)]) (N := N_cinit) (sc := defScope (inClass (top 21) 1)) (by decide +kernel)) (fun _ _ _ _ _ => (pg_name (i := 3) sc_cinit.nd rfl (Or.inl rfl))) (fun _ _ _ _ _ => pts_nil) (fun _ _ _ _ _ => pv 3) (fun _ _ _ _ _ => pe_dget (hu_of hr) (pv 1) (pe_tup (pa_cons pe_str (pa_cons (pv 3) pa_nil))) (fun _ _ => rfl)) (.inl rfl)))
      (pss_cons (SlX.ps_sl (pv 0) (pe_dp1 (own := [("sign", 3)]) (o0 := .dK []) (g := gName 3) (tt := tYes) rfl (hu_of hr) sc_cinit.nd (pi_list (pv 2))
        (blkOk_by (own := [("sign", 3)]) (N := N_cinit) (sc := defScope (inClass (top 21) 1)) (by decide +kernel)) (fun _ _ _ _ _ => (pg_name (i := 3) sc_cinit.nd rfl (Or.inl rfl))) (fun _ _ _ _ _ => pts_nil) (fun _ _ _ _ _ => pv 3) (fun _ _ _ _ _ => pe_dget (hu_of hr) (pv 1) (pe_tup (pa_cons (pv 3) (pa_cons pe_str pa_nil))) (fun _ _ => rfl)) (.inl rfl)))
      (pss_one (SlX.ps_sl (pv 0) (pe_dp2 (own := [("one", 4), ("other", 5)]) (vs1 := [5]) (o0 := .dT []) (g := gName 4) (tt := tYes) (g1 := gName 5) rfl (hu_of hr) sc_cinit.nd (pi_list (pv 2))
        (blkOk_by (own := [("one", 4), ("other", 5)]) (N := N_cinit) (sc := defScope (inClass (top 21) 1)) (by decide +kernel)) (by decide) (fun _ _ _ _ _ => (pg_name (i := 4) sc_cinit.nd rfl (Or.inl rfl))) (fun _ _ _ _ _ => pts_nil)
        (fun _ _ _ _ _ => piListK (K := K) rfl (pv 2)) (fun _ _ _ _ _ => (pg_name (i := 5) sc_cinit.nd rfl (Or.inl rfl))) (fun _ _ _ _ _ => pts_one (pt_cmpR op_ne (pv 4) (pv 5) (nomark _))) (fun _ _ _ _ _ => pe_tup (pa_cons (pv 4) (pa_cons (pv 5) pa_nil))) (fun _ _ _ _ _ => pe_dget (hu_of hr) (pv 1) (pe_tup (pa_cons (pv 4) (pa_cons (pv 5) pa_nil))) (fun _ _ => rfl)) (.inr rfl))))), ?_⟩
    have ax : a ≠ x := fun z => by rw [z, hx] at ha; cases ha
    have ad : a ≠ dx := fun z => by rw [z, hdx] at ha; cases ha
    have Tx : T ≠ x := fun z => by rw [z, hx] at hT; cases hT
    have Td : T ≠ dx := fun z => by rw [z, hdx] at hT; cases hT
    have val : ∀ {u v : Nd}, InL (codesOf ys) u → InL (codesOf ys) v → u ≠ v → valV kvs (kN u v) = some (.int (cOf O u v)) := fun {u v} hu hv n => by
      obtain ⟨t, e⟩ := tot u v hu hv n
      rw [TA.vl, cOf, e]; rfl
    have inl : ∀ {z : Str}, z ∈ ys → InL (codesOf ys) (some (codeOf z)) := fun hz => InL.of (code_mem sg hz)
    have two : 2 ≤ sizeLine := by decide
    -- own_put
    refine ⟨_, rfl, a, rfl, ⟨_, SqL.of ha⟩, fun D hD => ?_⟩
    refine dp_signs (SqL.of ha) nd (by omega) hD (fun z => cOf O none (some (codeOf z))) (fun _ _ => rfl) (fun y _ H2 _ Q q => ⟨_, rfl, q⟩) (fun y hy H2 e Q q => ⟨_, rfl, _, rfl, two, fun p hp => ⟨T, _, rfl, .inr ⟨kvs, kN none (some (codeOf y)), p, .inl (by rw [upd_ne (ne_of_none (e _ _ hT) hp)]; exact e _ _ hT), rfl, by rw [upd_same]; show _ = some (HO.tup [.str (nS none), .str (nS (some (codeOf y)))]); rw [nS_code (sg y hy)]; rfl, (val InL.no (inl hy) (fun e => nomatch e)).symm⟩, q _ (same_new hp)⟩⟩) (fun H2 e3 hD2 => ?_)
    refine ⟨_, rfl, x, C, dx, p1, [], 1, rfl, .inl ⟨e3 _ _ hx, rfl⟩, PC.sc, s1, ?_⟩
    have Dx : D ≠ x := (ne_of_none hx hD).symm
    have Dd : D ≠ dx := (ne_of_none hdx hD).symm
    have k3 : Kp x dx H (SlX.slH H2 x C dx (SlX.putS 1 (.ref D) [])) := Kp.sl fun b o _ _ q => e3 _ _ q
    have z3 : Sl2 (SlX.slH H2 x C dx (SlX.putS 1 (.ref D) [])) x C dx (SlX.putS 1 (.ref D) []) := slH_sl2 dxx
    have w3 : (SlX.putS 1 (.ref D) [])[1]? = some (some (.ref D)) := SlX.putS_get _ _ _
    have hD3 : SlX.slH H2 x C dx (SlX.putS 1 (.ref D) []) D = some (.dK (dkF ys fun z => cOf O none (some (codeOf z)))) := by rw [SlX.slH_ne Dx Dd]; exact hD2
    generalize SlX.putS 1 (.ref D) [] = v3 at *
    generalize SlX.slH H2 x C dx v3 = H3 at *
    clear hD hD2 e3
    -- own_out
    have ha3 := k3 _ _ ax ad ha
    have hT3 := k3 _ _ Tx Td hT
    refine ⟨_, rfl, a, rfl, ⟨_, SqL.of ha3⟩, fun D5 hD5 => ?_⟩
    refine dp_signs (SqL.of ha3) nd (by omega) hD5 (fun z => cOf O (some (codeOf z)) none) (fun _ _ => rfl) (fun y _ H2 _ Q q => ⟨_, rfl, q⟩) (fun y hy H2 e Q q => ⟨_, rfl, _, rfl, two, fun p hp => ⟨T, _, rfl, .inr ⟨kvs, kN (some (codeOf y)) none, p, .inl (by rw [upd_ne (ne_of_none (e _ _ hT3) hp)]; exact e _ _ hT3), rfl, by rw [upd_same]; show _ = some (HO.tup [.str (nS (some (codeOf y))), .str (nS none)]); rw [nS_code (sg y hy)]; rfl, (val (inl hy) InL.no (fun e => nomatch e)).symm⟩, q _ (same_new hp)⟩⟩) (fun H4 e4 hD6 => ?_)
    refine ⟨_, rfl, x, C, dx, p0, v3, 0, rfl, slt_same e4 (.inr z3), PC.sc, s0, ?_⟩
    have D5x : D5 ≠ x := (ne_of_none z3.1 hD5).symm
    have D5d : D5 ≠ dx := (ne_of_none z3.2 hD5).symm
    have n5 : D ≠ D5 := ne_of_none hD3 hD5
    have k5 : Kp x dx H (SlX.slH H4 x C dx (SlX.putS 0 (.ref D5) v3)) := (k3.same e4).sl
    have z5 : Sl2 (SlX.slH H4 x C dx (SlX.putS 0 (.ref D5) v3)) x C dx (SlX.putS 0 (.ref D5) v3) := slH_sl2 dxx
    have w5 : (SlX.putS 0 (.ref D5) v3)[0]? = some (some (.ref D5)) := SlX.putS_get _ _ _
    have w5' : (SlX.putS 0 (.ref D5) v3)[1]? = some (some (.ref D)) := (SlX.putS_ne (by decide)).mpr w3
    have hD7 : SlX.slH H4 x C dx (SlX.putS 0 (.ref D5) v3) D5 = some (.dK (dkF ys fun z => cOf O (some (codeOf z)) none)) := by rw [SlX.slH_ne D5x D5d]; exact hD6
    have hD8 : SlX.slH H4 x C dx (SlX.putS 0 (.ref D5) v3) D = some (.dK (dkF ys fun z => cOf O none (some (codeOf z)))) := by rw [SlX.slH_ne Dx Dd]; exact e4 _ _ hD3
    generalize SlX.putS 0 (.ref D5) v3 = v5 at *
    generalize SlX.slH H4 x C dx v5 = H5 at *
    clear hD5 hD6 e4 k3 z3 w3 hD3 ha3 hT3
    -- own_swap
    have ha5 := k5 _ _ ax ad ha
    have hT5 := k5 _ _ Tx Td hT
    have ly : (ys.map V.str).length = ys.length := List.length_map ..
    refine ⟨_, rfl, a, rfl, ⟨_, SqL.of ha5⟩, fun D9 hD9 => ?_⟩
    have big : ys.length * ys.length ≤ 25 := Nat.mul_le_mul l5 l5
    refine ⟨fun i m H' => i + m = ys.length ∧ Same H5 H' ∧ ∃ qs, H' D9 = some (.dT (dtF qs)) ∧ PreP ys (fun u v => cOf O (some (codeOf u)) (some (codeOf v))) i 0 qs, ⟨ys.length, Nat.zero_add _, same_new hD9, [], upd_same, by simp, fun e => by simp⟩, fun i m H' e => ?_⟩
    obtain ⟨em, e6, qs, hq, P⟩ := e
    by_cases hi : i < ys.length
    · have hgi : i < (ys.map V.str).length := by omega
      have gi := List.getElem?_eq_getElem hi
      refine .inr ⟨walk_list.goes i _ hgi (Same.seq e6 (SqL.of ha5)), fun H' => Same H5 H' ∧ ∃ qs, H' D9 = some (.dT (dtF qs)) ∧ PreP ys (fun u v => cOf O (some (codeOf u)) (some (codeOf v))) (i + 1) 0 qs, fun H'' e' => ⟨m - 1, by omega, by omega, e'⟩, fun y H'' hy => ?_⟩
      obtain ⟨rfl, hy2⟩ := walk_list.yields i _ _ _ hgi (Same.seq e6 (SqL.of ha5)) hy
      rw [List.getElem?_map, gi] at hy2
      cases hy2
      refine ⟨rfl, yes_q (iteT ⟨_, rfl, a, rfl, ⟨_, Same.seq e6 (SqL.of ha5)⟩, fun j m H' => j + m = ys.length ∧ Same H5 H' ∧ ∃ qs, H' D9 = some (.dT (dtF qs)) ∧ PreP ys (fun u v => cOf O (some (codeOf u)) (some (codeOf v))) i j qs, ⟨ys.length, Nat.zero_add _, e6, qs, hq, P⟩, fun j m H' e => ?_⟩)⟩
      clear P hq e6 qs
      obtain ⟨em, e6, qs, hq, P⟩ := e
      by_cases hj : j < ys.length
      · have hgj : j < (ys.map V.str).length := by omega
        have gj := List.getElem?_eq_getElem hj
        refine .inr ⟨walk_list.goes j _ hgj (Same.seq e6 (SqL.of ha5)), fun H' => Same H5 H' ∧ ∃ qs, H' D9 = some (.dT (dtF qs)) ∧ PreP ys (fun u v => cOf O (some (codeOf u)) (some (codeOf v))) i (j + 1) qs, fun H'' e' => ⟨m - 1, by omega, by omega, e'⟩, fun y H'' hy => ?_⟩
        obtain ⟨rfl, hy2⟩ := walk_list.yields j _ _ _ hgj (Same.seq e6 (SqL.of ha5)) hy
        rw [List.getElem?_map, gj] at hy2
        cases hy2
        refine ⟨rfl, _, rfl, _, rfl, rfl, _, rfl, ?_⟩
        by_cases n : ys[i] = ys[j]
        · rw [show (!decide (V.str ys[i] = V.str ys[j])) = false by simp [n]]
          refine iteF ⟨e6, qs, hq, P.skip gi (by rw [gj, n])⟩
        · rw [show (!decide (V.str ys[i] = V.str ys[j])) = true by simp [n]]
          have mi : ys[i] ∈ ys := List.getElem_mem hi
          have mj : ys[j] ∈ ys := List.getElem_mem hj
          obtain ⟨P2, nw⟩ := P.new nd gi gj n
          refine iteT ⟨_, rfl, _, rfl, two, fun t1 ht1 => ⟨_, rfl, _, rfl, _, rfl, two, fun t2 ht2 => ?_⟩⟩
          have s1 := same_new (o := .tup [.str ys[i], .str ys[j]]) ht1
          have s2 := same_new (o := .tup [.str ys[i], .str ys[j]]) ht2
          have s12 := s1.trans s2
          refine ⟨T, _, rfl, .inr ⟨kvs, kN (some (codeOf ys[i])) (some (codeOf ys[j])), t2, .inl (s12 _ _ (e6 _ _ hT5)), rfl, ?_, (val (inl mi) (inl mj) (fun e => n ?_)).symm⟩, ?_⟩
          · rw [upd_same]
            show _ = some (HO.tup [.str (nS (some (codeOf ys[i]))), .str (nS (some (codeOf ys[j])))])
            rw [nS_code (sg _ mi), nS_code (sg _ mj)]
          · rw [← nS_code (sg _ mi), e, nS_code (sg _ mj)]
          · refine ⟨_, .inr ⟨_, [.inr ys[i], .inr ys[j]], t1, s12 _ _ hq, rfl, s2 _ _ upd_same, ?_, rfl⟩, fun b o q => ?_, qs ++ [((ys[i], ys[j]), _)], ?_, P2⟩
            · have : 100000 < sizeLine := by decide
              have := P.len
              simp [dtF]
              omega
            · rw [upd_ne (ne_of_none q hD9)]; exact s12 _ _ (e6 _ _ q)
            · rw [upd_same, dtF_new nw]
      · obtain rfl : j = ys.length := by omega
        exact .inl ⟨ly ▸ walk_list.stops _ (Same.seq e6 (SqL.of ha5)), e6, qs, hq, P.row hi⟩
    · obtain rfl : i = ys.length := by omega
      refine .inl ⟨ly ▸ walk_list.stops _ (Same.seq e6 (SqL.of ha5)), ?_⟩
      refine ⟨_, rfl, x, C, dx, p2, v5, 2, rfl, slt_same e6 (.inr z5), PC.sc, s2, ?_⟩
      have D9x : D9 ≠ x := (ne_of_none z5.1 hD9).symm
      have D9d : D9 ≠ dx := (ne_of_none z5.2 hD9).symm
      refine hQ _ (k5.same e6).sl ⟨qs, P.all, D, D5, D9, _, slH_sl2 dxx, (SlX.putS_ne (by decide)).mpr w5', (SlX.putS_ne (by decide)).mpr w5, SlX.putS_get _ _ _, n5, ?_, ?_, ?_⟩
      · rw [SlX.slH_ne Dx Dd]; exact e6 _ _ hD8
      · rw [SlX.slH_ne D5x D5d]; exact e6 _ _ hD7
      · rw [SlX.slH_ne D9x D9d]; exact hq
end
end MN
/-! closed_of -/
namespace MN
open PySem PySem.Spec PyProof.Rows L2
theorem TabAt.congr {L : List Nat} {kvs : List (List Key × V)} {O O' : Nd → Nd → Option Int} (T : TabAt L kvs O) (h : ∀ x y, O' x y = O x y) : TabAt L kvs O' := ⟨T.nd, T.ks, fun x y => by rw [h]; exact T.vl x y⟩
theorem valV_mem' {α : Type} [DecidableEq α] {kvs : List (α × V)} {k : α} {v : V} (h : valV kvs k = some v) : k ∈ kvs.map (·.1) := by
  unfold valV at h
  obtain ⟨q, hq, _⟩ := Option.map_eq_some_iff.mp h
  have h2 : q.1 = k := by simpa using List.find?_some hq
  exact List.mem_map.mpr ⟨q, List.mem_of_find?_eq_some hq, h2⟩
/-- the swap prices alone -/
theorem tab_swaps {ys ys2 : List Str} {g o : Str → Int} {qs : List ((Str × Str) × Int)} (N : PrN ys ys2 g o qs) : TabAt (codesOf ys) (dtF qs) (rOf [] g o qs) := by
  have form : ∀ e ∈ qs, ∃ a b, a ∈ codesOf ys ∧ b ∈ codesOf ys ∧ e.1 = (sgS a, sgS b) := fun e he => by
    obtain ⟨h1, h2, _⟩ := N.sp e he
    refine ⟨codeOf e.1.1, codeOf e.1.2, code_mem N.sg h1, code_mem N.sg h2, Prod.ext ?_ ?_⟩
    · exact (nS_code (N.sg _ h1)).symm
    · exact (nS_code (N.sg _ h2)).symm
  refine ⟨dtF_nodup N.sn, fun k hk => ?_, fun x y => ?_⟩
  · unfold dtF at hk
    rw [List.map_map] at hk
    obtain ⟨e, he, rfl⟩ := List.mem_map.mp hk
    obtain ⟨a, b, ha, hb, q⟩ := form e he
    refine ⟨some a, mem_nd.mpr (InL.of ha), some b, mem_nd.mpr (InL.of hb), ?_⟩
    show [Sum.inr e.1.1, Sum.inr e.1.2] = _
    rw [q]; rfl
  · have nope : ∀ x y : Nd, x = none ∨ y = none → valV (dtF qs) (kN x y) = none := fun x y h => dtF_no fun q => by
      obtain ⟨e, he, q⟩ := List.mem_map.mp q
      obtain ⟨a, b, _, _, q2⟩ := form e he
      rw [q] at q2
      have h1 := nS_inj (x := x) (y := some a) (Prod.mk.inj q2).1
      have h2 := nS_inj (x := y) (y := some b) (Prod.mk.inj q2).2
      rcases h with h | h
      · rw [h] at h1; cases h1
      · rw [h] at h2; cases h2
    cases x with
    | none => rw [nope _ _ (.inl rfl)]; cases y <;> rfl
    | some a =>
      cases y with
      | none => rw [nope _ _ (.inr rfl)]; rfl
      | some b =>
        show _ = (findP qs (sgS a) (sgS b)).map V.int
        cases e : findP qs (sgS a) (sgS b) with
        | some p => exact dtF_val N.sn ((findP_some N.sn).mp e)
        | none =>
          refine dtF_no fun q => ?_
          obtain ⟨z, hz, q⟩ := List.mem_map.mp q
          have := (findP_some (p := z.2) N.sn).mpr (show ((sgS a, sgS b), z.2) ∈ qs from by
            have : z = ((sgS a, sgS b), z.2) := Prod.ext q rfl
            rw [← this]; exact hz)
          rw [e] at this
          cases this
theorem rOf_step {L : List Nat} {g o : Str → Int} {qs : List ((Str × Str) × Int)} {i c : Nat} (h : L[i]? = some c) : ∀ x y, rOf (L.take (i + 1)) g o qs x y = putO (putO (rOf (L.take i) g o qs) none (some c) (g (sgS c))) (some c) none (o (sgS c)) x y := by
  have mem : ∀ a, a ∈ L.take (i + 1) ↔ a ∈ L.take i ∨ a = c := fun a => by rw [List.take_add_one, h]; simp
  intro x y
  cases x with
  | none =>
    cases y with
    | none => simp [rOf, putO]
    | some b =>
      simp only [rOf, putO, mem]
      by_cases e : b = c
      · subst e; simp
      · simp [e]
  | some a =>
    cases y with
    | none =>
      simp only [rOf, putO, mem]
      by_cases e : a = c
      · subst e; simp
      · simp [e]
    | some b => simp [rOf, putO]
/-- amid a phase -/
def midO (m : Nd) (O : Nd → Nd → Option Int) (nd : List Nd) (i j : Nat) : Nd → Nd → Option Int := fun x y => if x ∈ nd.take i ∨ (nd[i]? = some x ∧ y ∈ nd.take j) then ph m O x y else O x y
section
variable {m : Nd} {O : Nd → Nd → Option Int} {nd : List Nd}
theorem ph_col (dg : O m m = none) (x : Nd) : ph m O x m = O x m := by
  unfold ph
  split
  · rfl
  · rw [dg]; cases O x m <;> rfl
theorem ph_row (dg : O m m = none) (y : Nd) : ph m O m y = O m y := by
  unfold ph
  split
  · rfl
  · rw [dg]
theorem mid_col (dg : O m m = none) {i j : Nat} (x : Nd) : midO m O nd i j x m = O x m := by
  unfold midO
  split
  · exact ph_col dg x
  · rfl
theorem mid_row (dg : O m m = none) {i j : Nat} (y : Nd) : midO m O nd i j m y = O m y := by
  unfold midO
  split
  · exact ph_row dg y
  · rfl
theorem mid_new {i j : Nat} {x y : Nd} (n : nd.Nodup) (hi : nd[i]? = some x) (hj : nd[j]? = some y) : midO m O nd i j x y = O x y := by
  unfold midO
  rw [if_neg]
  rintro (h | ⟨_, h⟩)
  · exact take_nodup n hi h
  · exact take_nodup n hj h
theorem mid_step {i j : Nat} {x y : Nd} (n : nd.Nodup) (hi : nd[i]? = some x) (hj : nd[j]? = some y) (a b : Nd) : midO m O nd i (j + 1) a b = if a = x ∧ b = y then ph m O x y else midO m O nd i j a b := by
  unfold midO
  rw [List.take_add_one, hj, hi]
  simp only [Option.toList_some, List.mem_append, List.mem_singleton, Option.some.injEq]
  by_cases e : a = x ∧ b = y
  · obtain ⟨rfl, rfl⟩ := e
    rw [if_pos (.inr ⟨rfl, .inr rfl⟩), if_pos ⟨rfl, rfl⟩]
  · rw [if_neg e]
    by_cases c : a ∈ nd.take i ∨ x = a ∧ b ∈ nd.take j
    · rw [if_pos c, if_pos]
      exact c.imp id fun q => ⟨q.1, .inl q.2⟩
    · rw [if_neg c, if_neg]
      rintro (q | ⟨q1, q2 | q2⟩)
      · exact c (.inl q)
      · exact c (.inr ⟨q1, q2⟩)
      · exact e ⟨q1.symm, q2⟩
theorem mid_rowEnd {i : Nat} (hi : i < nd.length) (a b : Nd) (ph_in : ∀ a b, b ∉ nd → ph m O a b = O a b) : midO m O nd (i + 1) 0 a b = midO m O nd i nd.length a b := by
  unfold midO
  rw [List.take_add_one, List.getElem?_eq_getElem hi, List.take_length]
  simp only [Option.toList_some, List.mem_append, List.mem_singleton, Option.some.injEq, List.take_zero, List.not_mem_nil, and_false, or_false]
  by_cases h1 : a ∈ nd.take i
  · rw [if_pos (.inl h1), if_pos (.inl h1)]
  · by_cases h2 : a = nd[i]
    · rw [if_pos (.inr h2)]
      by_cases h3 : b ∈ nd
      · rw [if_pos (.inr ⟨h2.symm, h3⟩)]
      · rw [if_neg]
        · exact ph_in a b h3
        · rintro (q | q)
          · exact h1 q
          · exact h3 q.2
    · rw [if_neg, if_neg]
      · rintro (q | q)
        · exact h1 q
        · exact h2 q.1.symm
      · rintro (q | q)
        · exact h1 q
        · exact h2 q
end
/-- what lies outside of the nodes is no price -/
structure OutO (L : List Nat) (O : Nd → Nd → Option Int) : Prop where
  ins : ∀ x y t, O x y = some t → x ∈ ndOf L ∧ y ∈ ndOf L
theorem OutO.ph {L : List Nat} {O : Nd → Nd → Option Int} {m : Nd} (h : OutO L O) : OutO L (ph m O) := ⟨fun x y t e => by
  rcases ph_or e with e | ⟨a, b, _, e1, e2, _⟩
  · exact h.ins x y t e
  · exact ⟨(h.ins _ _ _ e1).1, (h.ins _ _ _ e2).2⟩⟩
theorem OutO.no {L : List Nat} {O : Nd → Nd → Option Int} (h : OutO L O) {x y : Nd} (n : ¬ (x ∈ ndOf L ∧ y ∈ ndOf L)) : O x y = none := by
  cases e : O x y with
  | none => rfl
  | some t => exact absurd (h.ins x y t e) n
theorem mid_all {L : List Nat} {O : Nd → Nd → Option Int} {m : Nd} (h : OutO L O) (a b : Nd) : midO m O (ndOf L) (ndOf L).length 0 a b = ph m O a b := by
  unfold midO
  rw [List.take_length]
  by_cases h1 : a ∈ ndOf L
  · rw [if_pos (.inl h1)]
  · rw [if_neg]
    · rw [h.no fun q => h1 q.1, h.ph.no fun q => h1 q.1]
    · rintro (q | q)
      · exact h1 q
      · simp at q
section
variable {P : Program} {w : World} {K : PySem.W.Frag} {mg : Str → Option Value} {base : Heap} {Cp Cc : Addr}
/-- the classes Prices and Closed -/
structure PrC (K : PySem.W.Frag) (mg : Str → Option Value) (Cp Cc : Addr) : Prop where
  sp : SlotC K Cp
  sc : SlotC K Cc
  gp : mg "Prices" = some (.ref Cp)
  gc : mg "Closed" = some (.ref Cc)
  ip : ∃ f fd, Mk K Cp f ∧ FunAt K "__init__" "Prices.__init__" (inClass (top 23) 1) [] f fd
  ic : ∃ f fd, Mk K Cc f ∧ FunAt K "__init__" "Closed.__init__" (inClass (top 21) 1) [] f fd
  si : SlX.SIsi K Cp
  isP : PySem.W.kitOne K (.ref Cp) (.ref Cp) = some true
  con : ∃ g fd, PySem.W.findIn K (.ref Cp) "__contains__" = some (some (.ref g)) ∧ PySem.W.isFn K (.ref g) = true ∧ FunAt K "__contains__" "Prices.__contains__" (inClass (top 23) 14) [] g fd
  clo : ∃ g fd, Meth K Cp "closed" g ∧ FunAt K "closed" "Prices.closed" (inClass (top 23) 8) [] g fd
  pput : ∃ p g fd, PropOf K Cp "put" p g ∧ FunAt K "put" "Prices.put" (inClass (top 23) 4) [] g fd
  pout : ∃ p g fd, PropOf K Cp "out" p g ∧ FunAt K "out" "Prices.out" (inClass (top 23) 5) [] g fd
  pswap : ∃ p g fd, PropOf K Cp "swap" p g ∧ FunAt K "swap" "Prices.swap" (inClass (top 23) 6) [] g fd
def spClosedOf (Cp Cc : Addr) : Sp := fun vs H Q _ => ∃ x dx ys ys2 g o qs, vs = [.ref x] ∧ PrAt Cp H x dx ys ys2 g o qs ∧ PrN ys ys2 g o qs ∧
  ∀ q dq c H', Same H H' → Clo (codesOf ys) (rOf (codesOf ys) g o qs) c → ClAt Cc H' q dq ys c → Q (.ref q) H'
abbrev N_closed_of : List Str := ["prices", "signs", "table", "pair", "sign", "nodes", "middle", "one", "other", "price"]
theorem sc_closed_of : FnScope N_closed_of ["prices"] (defScope (top 22)) := ⟨rfl, rfl, rfl, by decide +kernel, rfl, by decide +kernel, by decide +kernel⟩
theorem c_closed_of (A : At K mg "closed_of" (top 22)) (B : Blt mg) (PC : PrC K mg Cp Cc) : Cal P w K mg base 3 "closed_of" (spClosedOf Cp Cc) := by
  obtain ⟨fi, fdi, M0, F⟩ := PC.ic
  have b0 := FunD.bindsN (ps := ["self", "table", "signs"]) F fun _ _ _ _ _ _ us hl => match us, hl with | [_, _, _], _ => rfl
  refine cal_of A sc_closed_of (fun _ _ _ _ _ _ us hl => match us, hl with | [_], _ => rfl) (fun vs H Q E h => ?_) (fun f cdv A outer s H vs Q E hr h => ?_)
  · obtain ⟨_, _, _, _, _, _, _, rfl, _⟩ := h; rfl
  · obtain ⟨x, dx, ys, ys2, g, o, qs, rfl, hP, N, hQ⟩ := h
    obtain ⟨p0, s0⟩ := PC.sp.s0
    obtain ⟨p1, s1⟩ := PC.sp.s1
    obtain ⟨p2, s2⟩ := PC.sp.s2
    refine ⟨_, pss_cons (ps_set (i := 1) sc_closed_of.nd rfl (Or.inl rfl) (pe_callTy (call_list_dK rfl) (by rfl) B.list (by decide +kernel) (pa_cons (SlX.pe_sl (pv 0)) pa_nil)))
      (pss_cons (ps_lock (ps_setDp1 (i := 2) (own := [("pair", 3)]) (o0 := .dT []) (g := gName 3) (tt := tYes) rfl (hu_of hr) sc_closed_of.nd rfl rfl (swD_true rfl rfl rfl (by decide +kernel)) (pi_keys (SlX.pe_sl (pv 0)))
        (blkOk_by (own := [("pair", 3)]) (N := N_closed_of) (sc := defScope (top 22)) (by decide +kernel)) (fun _ _ _ _ _ => (pg_name (i := 3) sc_closed_of.nd rfl (Or.inl rfl))) (fun _ _ _ _ _ => pts_nil) (fun _ _ _ _ _ => pv 3) (fun _ _ _ _ _ => pe_dget (hu_of hr) (peSlK (K := K) rfl (pv 0)) (pv 3) (fun _ _ => rfl)) (.inr rfl)))
      (pss_cons (ps_for PassesOwn.never rfl (pi_list (pv 1)) (pg_name (i := 4) sc_closed_of.nd rfl (Or.inl rfl))
        (pss_cons (ps_dput (hu_of hr) (pv 2) (pe_tup (pa_cons pe_str (pa_cons (pv 4) pa_nil))) (pe_dget (hu_of hr) (SlX.pe_sl (pv 0)) (pv 4) (fun _ _ => rfl)) (by rfl))
        (pss_one (ps_dput (hu_of hr) (pv 2) (pe_tup (pa_cons (pv 4) (pa_cons pe_str pa_nil))) (pe_dget (hu_of hr) (SlX.pe_sl (pv 0)) (pv 4) (fun _ _ => rfl)) (by rfl)))))
      (pss_cons (ps_set (i := 5) sc_closed_of.nd rfl (Or.inl rfl) (pe_lst (pa_cons pe_str (StX.pa_star (pv 1) pa_nil))))
      (pss_cons (ps_for PassesOwn.never rfl (pi_list (pv 5)) (pg_name (i := 6) sc_closed_of.nd rfl (Or.inl rfl))
        (pss_one (ps_for PassesOwn.never rfl (pi_list (pv 5)) (pg_name (i := 7) sc_closed_of.nd rfl (Or.inl rfl))
          (pss_one (ps_for PassesOwn.never rfl (pi_list (pv 5)) (pg_name (i := 8) sc_closed_of.nd rfl (Or.inl rfl))
            (pss_one (ps_if (PW.pt (pw_and (pt_cmpR op_ne (pv 7) (pv 8) (nomark _)) (pw_and (pt_cmp (pc_din (hu_of hr) (pe_tup (pa_cons (pv 7) (pa_cons (pv 6) pa_nil))) (pv 2))) (pw_and1 (pt_cmp (pc_din (hu_of hr) (pe_tup (pa_cons (pv 6) (pa_cons (pv 8) pa_nil))) (pv 2)))))))
              (pss_cons (ps_set (i := 9) sc_closed_of.nd rfl (Or.inl rfl) (pe_op op_add (pe_dget (hu_of hr) (pv 2) (pe_tup (pa_cons (pv 7) (pa_cons (pv 6) pa_nil))) (fun _ _ => rfl)) (pe_dget (hu_of hr) (pv 2) (pe_tup (pa_cons (pv 6) (pa_cons (pv 8) pa_nil))) (fun _ _ => rfl))))
              (pss_one (ps_dput (hu_of hr) (pv 2) (pe_tup (pa_cons (pv 7) (pa_cons (pv 8) pa_nil))) (pe_callB (call_min2 rfl) (by rfl) B.min (by decide +kernel) (pa_cons (pv 9) (pa_cons (pe_dget2 (hu_of hr) (pv 2) (pe_tup (pa_cons (pv 7) (pa_cons (pv 8) pa_nil))) (pv 9) ⟨by rfl, by rfl, by rfl, by rfl⟩) pa_nil))) (by rfl))))
              pss_nil)))))))
      (pss_one (ps_ret (pe_make M0 (f_cinit (P := P) (w := w) (mg := mg) (base := base) PC.sc F B) (hr.mono (by decide)) (by rfl) PC.gc b0 .nil pass0 (pa_cons (pv 2) (pa_cons (pv 1) pa_nil))))))))), ?_⟩
    have hP0 := hP
    obtain ⟨PA, PB, PS, ws, hs, w1, w0, w2, nAB, hA, hB, hS⟩ := hP
    have two : 2 ≤ sizeLine := by decide
    have lz : ys.length ≤ 5 := N.le
    have keyz : (dkF ys g).map (fun kv => kV kv.1) = ys.map V.str := by unfold dkF; rw [List.map_map]; rfl
    have sgn := N.sg
    -- signs
    refine ⟨_, rfl, x, Cp, dx, p1, ws, 1, _, rfl, .inr hs, PC.sp.sc, s1, w1, PA, _, rfl, hA, fun q1 hq1 => ?_⟩
    rw [keyz]
    have e1 := same_new (o := .lst (ys.map V.str)) hq1
    have hsg : upd H q1 (.lst (ys.map V.str)) q1 = some (.lst (ys.map V.str)) := upd_same
    generalize upd H q1 (.lst (ys.map V.str)) = H1 at e1 hsg ⊢
    -- table
    have S1 : Sl2 H1 x Cp dx ws := ⟨e1 _ _ hs.1, e1 _ _ hs.2⟩
    have hS1 := e1 _ _ hS
    refine ⟨PS, _, hS1, trivial, fun od => ?_⟩
    have xS : x ≠ PS := fun z => by
      have q := hs.1
      rw [z, hS] at q
      injection q with q
      unfold SlX.SlO at q
      cases q
    have dS : dx ≠ PS := fun z => by
      have q := hs.2
      rw [z, hS] at q
      cases q
    have S1' : Sl2 (upd H1 PS (.frz od (.dT (dtF qs)))) x Cp dx ws := ⟨by rw [upd_ne xS]; exact S1.1, by rw [upd_ne dS]; exact S1.2⟩
    refine ⟨_, rfl, x, Cp, dx, p2, ws, 2, _, rfl, .inr S1', PC.sp.sc, s2, w2, PS, od, rfl, .inr ⟨_, upd_same, fun T hT0 => ?_⟩⟩
    have TS : T ≠ PS := fun z => by rw [z, upd_same] at hT0; cases hT0
    have hT1 : H1 T = none := by rw [upd_ne TS] at hT0; exact hT0
    have apart : ∀ b u, H1 b = some u → b ≠ T := fun b u q => ne_of_none q hT1
    refine dp_it walk_keysT (fun i H' => Same (upd H1 PS (.frz od (.dT (dtF qs)))) H' ∧ H' T = some (.dT (dtF (qs.take i)))) ⟨same_new hT0, by rw [List.take_zero]; exact upd_same⟩ (fun i H' _ e => e.1 _ _ upd_same) (fun i y Ha Hb hi e hy => ?_) (fun H2' e => ⟨e.1 _ _ upd_same, ?_⟩)
    · obtain ⟨rfl, k, v, b, hk, rfl, hb⟩ := hy
      obtain ⟨ea, eT⟩ := e
      unfold dtF at hk
      rw [List.getElem?_map] at hk
      obtain ⟨⟨⟨z1, z2⟩, n⟩, hz, ek⟩ := Option.map_eq_some_iff.mp hk
      cases ek
      refine ⟨rfl, yes_q (iteT ⟨_, rfl, _, rfl, x, Cp, dx, p2, ws, 2, _, rfl, slt_same ea (.inr S1'), PC.sp.sc, s2, w2, _, rfl, PS, .int n, rfl, .inr ⟨_, [.inr z1, .inr z2], b, .inr ⟨od, ea _ _ upd_same⟩, rfl, hb, (dtF_val N.sn (List.mem_of_getElem? hz)).symm⟩, _, .inr ⟨_, [.inr z1, .inr z2], b, eT, rfl, hb, ?_, rfl⟩, fun c u q => ?_, ?_⟩)⟩
      · have : 100000 < sizeLine := by decide
        have := N.sl
        simp [dtF]
        omega
      · rw [upd_ne (ne_of_none q hT0)]; exact ea _ _ q
      · rw [upd_same, dtF_put N.sn hz]
    obtain ⟨ea, eT⟩ := e
    have e2 : Same H1 (upd H2' PS (.dT (dtF qs))) := fun b u q => by
      by_cases z : b = PS
      · rw [z, upd_same]; rw [z, hS1] at q; exact q
      · rw [upd_ne z]; exact ea _ _ (by rw [upd_ne z]; exact q)
    have hT2 : upd H2' PS (.dT (dtF qs)) T = some (.dT (dtF qs)) := by
      have : (dtF qs).length = qs.length := by simp [dtF]
      rw [upd_ne TS, eT, this, List.take_length]
    generalize upd H2' PS (.dT (dtF qs)) = H2 at e2 hT2 ⊢
    clear ea eT
    have e12 := e1.trans e2
    -- put and out prices
    have gL : ∀ {i : Nat} {z : Str}, ys[i]? = some z → (codesOf ys)[i]? = some (codeOf z) := fun h => by unfold codesOf; rw [List.getElem?_map, h]; rfl
    have bigL : (codesOf ys).length ≤ 5 := by simpa [codesOf] using lz
    have small : ∀ {kvs : List (List Key × V)} {O : Nd → Nd → Option Int}, TabAt (codesOf ys) kvs O → kvs.length < sizeLine := fun {kvs O} T => by
      have h1 := T.len
      have h2 : ((codesOf ys).length + 1) * ((codesOf ys).length + 1) ≤ 6 * 6 := Nat.mul_le_mul (by omega) (by omega)
      have : 100000 < sizeLine := by decide
      omega
    refine ⟨_, rfl, q1, rfl, ⟨_, SqL.of (e2 _ _ hsg)⟩, for_it walk_list (fun i σ H' => (∃ o4, σ = [some (.ref x), some (.ref q1), some (.ref T), none, o4, none, none, none, none, none]) ∧ But T H2 H' ∧ ∃ kvs, H' T = some (.dT kvs) ∧ TabAt (codesOf ys) kvs (rOf ((codesOf ys).take i) g o qs)) ⟨⟨_, rfl⟩, But.refl, _, hT2, by rw [List.take_zero]; exact tab_swaps N⟩ (fun i σ H' _ e => e.2.1.seqL (SqL.of (e2 _ _ hsg)) (apart _ _ hsg)) (fun i y σ Ha Hb hi e hy => ?_) (fun σ H3 e => ?_)⟩
    · obtain ⟨rfl, hy⟩ := hy
      obtain ⟨⟨o4, rfl⟩, eb, kvs, hT3, TA⟩ := e
      rw [List.getElem?_map] at hy
      obtain ⟨z, hz, rfl⟩ := Option.map_eq_some_iff.mp hy
      have mz := List.mem_of_getElem? hz
      have keep : ∀ b u, H b = some u → Hb b = some u := fun b u q => eb b u (apart _ _ (e1 _ _ q)) (e12 _ _ q)
      have inz : some (codeOf z) ∈ ndOf (codesOf ys) := mem_nd.mpr (InL.of (code_mem sgn mz))
      have inn : none ∈ ndOf (codesOf ys) := mem_nd.mpr InL.no
      refine ⟨_, rfl, x, Cp, dx, p1, ws, 1, _, rfl, .inr ⟨keep _ _ hs.1, keep _ _ hs.2⟩, PC.sp.sc, s1, w1, _, rfl, PA, .int (g z), rfl, .inl ⟨_, .inr z, .inl (keep _ _ hA), rfl, (dkF_val N.nd g mz).symm⟩, _, rfl, _, rfl, two, fun t1 ht1 => ?_⟩
      have f1 := same_new (o := .tup [.str "", .str z]) ht1
      refine ⟨T, _, rfl, .inr ⟨kvs, kN none (some (codeOf z)), t1, f1 _ _ hT3, rfl, ?_, small TA, rfl⟩, ?_⟩
      · rw [upd_same]
        show _ = some (HO.tup [.str (nS none), .str (nS (some (codeOf z)))])
        rw [nS_code (sgn z mz)]; rfl
      have T1 := TA.put inn inz (g z)
      have b1 : But T H2 (upd (upd Hb t1 (.tup [.str "", .str z])) T (.dT (putK kvs (kN none (some (codeOf z))) (.int (g z))))) := (eb.same f1).put
      have hT4 : upd (upd Hb t1 (.tup [.str "", .str z])) T (.dT (putK kvs (kN none (some (codeOf z))) (.int (g z)))) T = some (.dT (putK kvs (kN none (some (codeOf z))) (.int (g z)))) := upd_same
      generalize upd (upd Hb t1 (.tup [.str "", .str z])) T (.dT (putK kvs (kN none (some (codeOf z))) (.int (g z)))) = Hc at b1 hT4 ⊢
      have keep2 : ∀ b u, H b = some u → Hc b = some u := fun b u q => b1 b u (apart _ _ (e1 _ _ q)) (e12 _ _ q)
      refine ⟨_, rfl, x, Cp, dx, p0, ws, 0, _, rfl, .inr ⟨keep2 _ _ hs.1, keep2 _ _ hs.2⟩, PC.sp.sc, s0, w0, _, rfl, PB, .int (o z), rfl, .inl ⟨_, .inr z, .inl (keep2 _ _ hB), rfl, (dkF_val (N.pm.nodup_iff.mpr N.nd) o (N.pm.mem_iff.mpr mz)).symm⟩, _, rfl, _, rfl, two, fun t2 ht2 => ?_⟩
      have f2 := same_new (o := .tup [.str z, .str ""]) ht2
      refine ⟨T, _, rfl, .inr ⟨_, kN (some (codeOf z)) none, t2, f2 _ _ hT4, rfl, ?_, small T1, rfl⟩, ⟨_, rfl⟩, (b1.same f2).put, _, upd_same, ?_⟩
      · rw [upd_same]
        show _ = some (HO.tup [.str (nS (some (codeOf z))), .str (nS none)])
        rw [nS_code (sgn z mz)]; rfl
      · refine (T1.put inz inn (o z)).congr fun u v => ?_
        rw [rOf_step (gL hz), show sgS (codeOf z) = z from nS_code (sgn z mz)]
    obtain ⟨⟨o4, rfl⟩, b3, kvs0, hT3, TA0⟩ := e
    rw [List.length_map, show ys.length = (codesOf ys).length by simp [codesOf], List.take_length] at TA0
    -- nodes
    have hsg3 := b3 _ _ (apart _ _ hsg) (e2 _ _ hsg)
    refine ⟨_, rfl, q1, _, rfl, .inr (SqL.of hsg3), ?_, fun Nn hNn => ?_⟩
    · have : 100000 < sizeLine := by decide
      simp
      omega
    have en : V.str "" :: (ys.map V.str ++ []) = (ndOf (codesOf ys)).map fun x => V.str (nS x) := by
      unfold ndOf
      rw [List.map_cons, List.map_map, List.append_nil]
      congr 1
      conv => lhs; rw [← codes_sg sgn]
      rw [List.map_map]; rfl
    have up4 : Same H3 (upd H3 Nn (.lst (V.str "" :: (ys.map V.str ++ [])))) := same_new hNn
    have hN4 : upd H3 Nn (.lst (V.str "" :: (ys.map V.str ++ []))) Nn = some (.lst ((ndOf (codesOf ys)).map fun x => V.str (nS x))) := by rw [upd_same, en]
    have NnT : Nn ≠ T := (ne_of_none hT3 hNn).symm
    have hT4 := up4 _ _ hT3
    have b4 : But T H2 (upd H3 Nn (.lst (V.str "" :: (ys.map V.str ++ [])))) := b3.same up4
    generalize upd H3 Nn (.lst (V.str "" :: (ys.map V.str ++ []))) = H4 at hN4 hT4 b4 ⊢
    clear up4 hNn hsg3 b3 hT3
    have ndn : (ndOf (codesOf ys)).Nodup := nd_nodup (codes_nodup sgn N.nd)
    have rp := rOf_pos N
    generalize hr0 : rOf (codesOf ys) g o qs = r0 at TA0 rp hQ
    have rin : ∀ {x y p}, r0 x y = some p → InL (codesOf ys) x ∧ InL (codesOf ys) y ∧ x ≠ y := fun h => by rw [← hr0] at h; exact rOf_in N h
    have T0 : Tb (codesOf ys) r0 (fun z => z ∈ (ndOf (codesOf ys)).take 0) r0 := by
      refine ⟨fun x => ?_, fun x y t h => .one (rin h).1 (rin h).2.1 h, fun x y p _ _ h => ⟨p, h, Int.le_refl _⟩, fun m x y a b hm => by simp at hm⟩
      cases e : r0 x x with
      | none => rfl
      | some p => exact absurd rfl (rin e).2.2
    have out0 : OutO (codesOf ys) r0 := ⟨fun x y t h => ⟨mem_nd.mpr (rin h).1, mem_nd.mpr (rin h).2.1⟩⟩
    have sqN : ∀ {H' : Hp}, But T H4 H' → SqL K H' Nn ((ndOf (codesOf ys)).map fun x => V.str (nS x)) := fun b => b.seqL (SqL.of hN4) NnT
    have lenN : ((ndOf (codesOf ys)).map fun x => V.str (nS x)).length = (ndOf (codesOf ys)).length := List.length_map ..
    have getN : ∀ {i : Nat} {v : V}, ((ndOf (codesOf ys)).map fun x => V.str (nS x))[i]? = some v → ∃ x, (ndOf (codesOf ys))[i]? = some x ∧ v = .str (nS x) := fun h => by
      rw [List.getElem?_map] at h
      obtain ⟨x, hx, rfl⟩ := Option.map_eq_some_iff.mp h
      exact ⟨x, hx, rfl⟩
    refine ⟨_, rfl, Nn, rfl, ⟨_, sqN But.refl⟩, for_it walk_list (fun k σ H' => (∃ o6 o7 o8 o9, σ = [some (.ref x), some (.ref q1), some (.ref T), none, o4, some (.ref Nn), o6, o7, o8, o9]) ∧ But T H4 H' ∧ ∃ kvs O, H' T = some (.dT kvs) ∧ TabAt (codesOf ys) kvs O ∧ Tb (codesOf ys) r0 (fun z => z ∈ (ndOf (codesOf ys)).take k) O ∧ OutO (codesOf ys) O) ⟨⟨_, _, _, _, rfl⟩, But.refl, _, _, hT4, TA0, T0, out0⟩ (fun i σ H' _ e => sqN e.2.1) (fun k y σ Ha Hb hk e hy => ?_) (fun σ H5 e => ?_)⟩
    · obtain ⟨rfl, hy⟩ := hy
      obtain ⟨⟨o6, o7, o8, o9, rfl⟩, eb, kvs, O, hT5, TA, TT, out⟩ := e
      obtain ⟨m, hm, rfl⟩ := getN hy
      have dg : O m m = none := TT.dg m
      have mN : m ∈ ndOf (codesOf ys) := List.mem_of_getElem? hm
      clear hT4 TA0
      refine ⟨_, rfl, Nn, rfl, ⟨_, sqN eb⟩, for_it walk_list (fun i σ H' => (∃ o7 o8 o9, σ = [some (.ref x), some (.ref q1), some (.ref T), none, o4, some (.ref Nn), some (.str (nS m)), o7, o8, o9]) ∧ But T H4 H' ∧ ∃ kvs, H' T = some (.dT kvs) ∧ TabAt (codesOf ys) kvs (midO m O (ndOf (codesOf ys)) i 0)) ⟨⟨_, _, _, rfl⟩, eb, _, hT5, TA.congr fun a b => by simp [midO]⟩ (fun i σ H' _ e => sqN e.2.1) (fun i y σ Ha Hc hi e hy => ?_) (fun σ H6 e => ?_)⟩
      · obtain ⟨rfl, hy⟩ := hy
        clear TA hT5 eb
        obtain ⟨⟨o7, o8, o9, rfl⟩, eb, kvs, hT5, TA⟩ := e
        obtain ⟨u, hu, rfl⟩ := getN hy
        have uN : u ∈ ndOf (codesOf ys) := List.mem_of_getElem? hu
        refine ⟨_, rfl, Nn, rfl, ⟨_, sqN eb⟩, for_it walk_list (fun j σ H' => (∃ o8 o9, σ = [some (.ref x), some (.ref q1), some (.ref T), none, o4, some (.ref Nn), some (.str (nS m)), some (.str (nS u)), o8, o9]) ∧ But T H4 H' ∧ ∃ kvs, H' T = some (.dT kvs) ∧ TabAt (codesOf ys) kvs (midO m O (ndOf (codesOf ys)) i j)) ⟨⟨_, _, rfl⟩, eb, _, hT5, TA⟩ (fun i σ H' _ e => sqN e.2.1) (fun j y σ Ha Hd hj e hy => ?_) (fun σ H7 e => ?_)⟩
        · obtain ⟨rfl, hy⟩ := hy
          clear TA hT5 eb
          obtain ⟨⟨o8, o9, rfl⟩, eb, kvs, hT5, TA⟩ := e
          obtain ⟨v, hv, rfl⟩ := getN hy
          have vN : v ∈ ndOf (codesOf ys) := List.mem_of_getElem? hv
          have v1 : valV kvs (kN u m) = (O u m).map V.int := by rw [TA.vl, mid_col dg]
          have v2 : valV kvs (kN m v) = (O m v).map V.int := by rw [TA.vl, mid_row dg]
          have v3 : valV kvs (kN u v) = (O u v).map V.int := by rw [TA.vl, mid_new ndn hu hv]
          have stay : ph m O u v = O u v → TabAt (codesOf ys) kvs (midO m O (ndOf (codesOf ys)) i (j + 1)) := fun h => TA.congr fun a b => by
            rw [mid_step ndn hu hv]
            split
            · rename_i q
              rw [h, q.1, q.2, mid_new ndn hu hv]
            · rfl
          refine ⟨_, rfl, _, rfl, rfl, _, rfl, ?_⟩
          by_cases n : u = v
          · rw [show (!decide (V.str (nS u) = V.str (nS v))) = false by simp [n]]
            refine iteF (iteF ⟨⟨_, _, rfl⟩, eb, kvs, hT5, stay ?_⟩)
            unfold ph
            rw [if_pos n]
          · rw [show (!decide (V.str (nS u) = V.str (nS v))) = true by
              have : nS u ≠ nS v := fun e => n (nS_inj e)
              simp [this]]
            refine iteT ⟨_, rfl, _, rfl, two, fun t1 ht1 => ?_⟩
            have f1 := same_new (o := .tup [.str (nS u), .str (nS m)]) ht1
            have g1 : upd Hd t1 (.tup [.str (nS u), .str (nS m)]) t1 = some (.tup ((kN u m).map kV)) := upd_same
            refine ⟨_, rfl, T, (O u m).map V.int, rfl, .inr ⟨kvs, kN u m, t1, .inl (f1 _ _ hT5), rfl, g1, v1.symm⟩, _, rfl, ?_⟩
            have b1 := eb.same f1
            have hT6 := f1 _ _ hT5
            generalize upd Hd t1 (.tup [.str (nS u), .str (nS m)]) = He at b1 hT6 ⊢
            cases e1 : O u m with
            | none =>
              refine iteF (iteF ⟨⟨_, _, rfl⟩, b1, kvs, hT6, stay ?_⟩)
              unfold ph
              rw [if_neg n, e1]
            | some p =>
              refine iteT ⟨_, rfl, _, rfl, two, fun t2 ht2 => ?_⟩
              have f2 := same_new (o := .tup [.str (nS m), .str (nS v)]) ht2
              have g2 : upd He t2 (.tup [.str (nS m), .str (nS v)]) t2 = some (.tup ((kN m v).map kV)) := upd_same
              refine ⟨_, rfl, T, (O m v).map V.int, rfl, .inr ⟨kvs, kN m v, t2, .inl (f2 _ _ hT6), rfl, g2, v2.symm⟩, _, rfl, ?_⟩
              have b2 := b1.same f2
              have hT7 := f2 _ _ hT6
              generalize upd He t2 (.tup [.str (nS m), .str (nS v)]) = Hf at b2 hT7 ⊢
              cases e2 : O m v with
              | none =>
                refine iteF ⟨⟨_, _, rfl⟩, b2, kvs, hT7, stay ?_⟩
                unfold ph
                rw [if_neg n, e1, e2]
              | some q =>
                refine iteT ⟨_, rfl, _, rfl, _, rfl, two, fun t3 ht3 => ?_⟩
                have f3 := same_new (o := .tup [.str (nS u), .str (nS m)]) ht3
                refine ⟨T, .int p, rfl, .inr ⟨kvs, kN u m, t3, .inl (f3 _ _ hT7), rfl, upd_same, by rw [v1, e1]; rfl⟩, _, rfl, _, rfl, _, rfl, two, fun t4 ht4 => ?_⟩
                have f4 := same_new (o := .tup [.str (nS m), .str (nS v)]) ht4
                refine ⟨T, .int q, rfl, .inr ⟨kvs, kN m v, t4, .inl (f4 _ _ (f3 _ _ hT7)), rfl, upd_same, by rw [v2, e2]; rfl⟩, _, _, rfl, rfl, ?_⟩
                have b3 := (b2.same f3).same f4
                have hT8 := f4 _ _ (f3 _ _ hT7)
                generalize upd (upd Hf t3 (.tup [.str (nS u), .str (nS m)])) t4 (.tup [.str (nS m), .str (nS v)]) = Hg at b3 hT8 ⊢
                refine ⟨_, rfl, _, rfl, T, rfl, .inr ⟨kvs, .inl hT8⟩, _, rfl, _, rfl, two, fun t5 ht5 => ?_⟩
                have f5 := same_new (o := .tup [.str (nS u), .str (nS v)]) ht5
                refine ⟨_, rfl, (O u v).map V.int, .inr ⟨kvs, kN u v, t5, .inl (f5 _ _ hT8), rfl, upd_same, v3.symm⟩, p + q, (O u v).getD (p + q), ?_, ?_⟩
                · cases O u v <;> rfl
                refine ⟨_, rfl, _, rfl, _, rfl, two, fun t6 ht6 => ?_⟩
                have f6 := same_new (o := .tup [.str (nS u), .str (nS v)]) ht6
                refine ⟨T, _, rfl, .inr ⟨kvs, kN u v, t6, f6 _ _ (f5 _ _ hT8), rfl, upd_same, small TA, rfl⟩, ⟨_, _, rfl⟩, ((b3.same f5).same f6).put, _, upd_same, ?_⟩
                refine (TA.put uN vN _).congr fun a b => ?_
                rw [mid_step ndn hu hv]
                unfold putO
                split
                · unfold ph
                  rw [if_neg n, e1, e2]
                  cases O u v with
                  | none => simp
                  | some t =>
                    show some (min (p + q) t) = some (if t < p + q then t else p + q)
                    congr 1
                    split <;> omega
                · rfl
        · obtain ⟨⟨o8, o9, rfl⟩, eb, kvs, hT5, TA⟩ := e
          have hi' : i < (ndOf (codesOf ys)).length := by rw [← lenN]; exact hi
          rw [lenN] at TA
          refine ⟨⟨_, _, _, rfl⟩, eb, kvs, hT5, TA.congr fun a b => mid_rowEnd hi' a b fun a b h => ?_⟩
          rw [out.no fun q => h q.2, out.ph.no fun q => h q.2]
      · clear TA hT5 eb
        obtain ⟨⟨o7, o8, o9, rfl⟩, eb, kvs, hT5, TA⟩ := e
        rw [lenN] at TA
        refine ⟨⟨_, _, _, _, rfl⟩, eb, kvs, ph m O, hT5, TA.congr fun a b => (mid_all out a b).symm, ?_, out.ph⟩
        have TP := TT.phase (m := m) rp
        refine ⟨TP.dg, TP.pa, TP.le, fun k' x y a b hk' => TP.tri k' x y a b ?_⟩
        rw [List.take_add_one, hm] at hk'
        simpa using hk'
    · obtain ⟨⟨o6, o7, o8, o9, rfl⟩, eb, kvs, O, hT5, TA, TT, out⟩ := e
      rw [lenN, List.take_length] at TT
      have TL : Tb (codesOf ys) r0 (InL (codesOf ys)) O := ⟨TT.dg, TT.pa, TT.le, fun k' x y a b hk' => TT.tri k' x y a b (mem_nd.mpr hk')⟩
      obtain ⟨CL, tot⟩ := TL.clo rp (by rw [← hr0]; exact rOf_all)
      have sg5 := eb _ _ (apart _ _ hsg) (b4 _ _ (apart _ _ hsg) (e2 _ _ hsg))
      refine ⟨_, rfl, _, rfl, fun cx cdx hcx hcdx nn => ?_⟩
      have nx : ∀ b u, H5 b = some u → b ≠ cx ∧ b ≠ cdx := fun b u e => ⟨ne_of_none e hcx, ne_of_none e hcdx⟩
      have up : ∀ b u, H5 b = some u → upd (upd H5 cdx (.own cx)) cx (.ins Cc cdx []) b = some u := fun b u e => by
        rw [upd_ne (nx b u e).1, upd_ne (nx b u e).2]; exact e
      refine ⟨cx, cdx, T, q1, ys, kvs, O, rfl, upd_same, by rw [upd_ne nn, upd_same], nn, up _ _ hT5, up _ _ sg5, lz, N.nd, sgn, TA, tot, fun H' kp cl => ⟨rfl, hQ cx cdx (cOf O) H' (fun b u q => ?_) CL cl⟩⟩
      have q5 := eb _ _ (apart _ _ (e1 _ _ q)) (b4 _ _ (apart _ _ (e1 _ _ q)) (e12 _ _ q))
      exact kp b u (nx _ _ q5).1 (nx _ _ q5).2 (up _ _ q5)
end
end MN
/-! enumerate(text) -/
namespace MN
open PySem PySem.Spec PyProof.Rows L2
/-- the signs with their places, each in a new pair -/
def Ites (z : Str) : It :=
  ⟨fun i _ => i < z.cps.size, fun i H v H' => ∃ T c, z.cps[i]? = some c ∧ v = .ref T ∧ H T = none ∧ H' = upd H T (.tup [.int (i : Nat), .str ⟨#[c]⟩]), fun i _ => i = z.cps.size⟩
theorem draws_str {prog : Program} {w : World} {A : Around} (hh : A.handled = none) (it : Addr) (x : Str) (t : Tok) (ty : String) (hty : ty = "str_ascii_iterator" ∨ ty = "str_iterator") :
    Draws prog w A it [it] x.cps.size (fun i v => ∃ c u, x.cps[i]? = some c ∧ v = .str ⟨#[c]⟩ u) (fun i h => h.IsStrIter it ty x t i) := by
  rcases hty with rfl | rfl
  · exact Draws.strAscii hh it x t
  · exact Draws.strWide hh it x t
theorem turn_enumS {P : Program} {w : World} {K : PySem.W.Frag} {elts : List Expr} {kk : Nat} {tpos : Pos} (z : Str) (t : Tok) (ty : String) (hty : ty = "str_ascii_iterator" ∨ ty = "str_iterator") (e it : Addr) :
    Turn P w K (.Tuple elts kk tpos) (Ites z) [e, it] e (fun i h => (∃ old, IsEnum h e it ((i : Nat) : Int) old) ∧ h.IsStrIter it ty z t i ∧ e ≠ it) where
  mem := by simp
  obj := fun i h st b hb => by
    obtain ⟨⟨old, he⟩, ⟨o, ho, hc, hd⟩, _⟩ := st
    have e' : b = e ∨ b = it := by simpa using hb
    rcases e' with z | z
    · rw [z]; exact ⟨_, he, fun v q => nomatch q⟩
    · rw [z]; exact ⟨o, ho, fun v q => by rw [hd] at q; cases q⟩
  keep := fun i h h' st k => by
    obtain ⟨⟨old, he⟩, ⟨o, ho, r⟩, hne⟩ := st
    exact ⟨⟨old, k e (by simp) _ he⟩, ⟨o, k it (by simp) o ho, r⟩, hne⟩
  item := by
    intro X hP hw hK hc i pins s σ H E I hf st hg
    subst hP hw hK
    obtain ⟨⟨old, he⟩, hit, hne⟩ := st
    have hel : e < s.heap.objs.size := Heap.lt_size he
    have hil : it < s.heap.objs.size := by obtain ⟨_, q, _⟩ := hit; exact Heap.lt_size q
    refine wpAny_pyNext_enum_itemD (draws_str (A := X.A.in1) (I.ok.hd hc) it z t ty hty) he hit hg hne (by simpa using hne) fun x h' tk hx ho hit' hT hsz hk => ?_
    obtain ⟨c, u, hcx, rfl⟩ := hx
    refine ⟨_, rfl, wpAny_letOwnedTupleGo_enum (s := { s with heap := h', toks := tk + 1 }) ho fun h'' he' sb => ?_⟩
    have hT2 : h''.get? s.heap.objs.size = some { cls := .type "tuple", data := .seq #[.int i tk, .str ⟨#[c]⟩ u] } := (sb.2 _ (Nat.ne_of_gt hel)).trans hT
    have new : ObjOk X.prog X.w (upd H s.heap.objs.size (.tup [.int (i : Nat), .str ⟨#[c]⟩])) h'' s.heap.objs.size (.tup [.int (i : Nat), .str ⟨#[c]⟩]) :=
      ⟨by show 2 ≤ sizeLine; decide, [.int i tk, .str ⟨#[c]⟩ u], .cons ⟨_, rfl⟩ (.cons ⟨_, rfl⟩ .nil), ⟨_, hT2, rfl, _, rfl⟩⟩
    have I1 : L2.Inv X pins σ (upd H s.heap.objs.size (.tup [.int (i : Nat), .str ⟨#[c]⟩])) { s with heap := h'', toks := tk + 1 } :=
      I.turnedNew (ch := [e, it]) (fun b ob hb q => (sb.2 b (fun z => hb (by simp [z]))).trans (hk b ob (fun z => hb (by simp [z])) (fun z => hb (by simp [z])) q)) hf (Nat.le_refl _) new
    refine ⟨.ref s.heap.objs.size, _, I1, rfl, ⟨_, c, hcx, rfl, I.hok.fresh (Nat.le_refl _), rfl⟩, ⟨⟨.str ⟨#[c]⟩ u, ?_⟩, ?_, hne⟩, fun b hb => ?_⟩
    · have e1 : ((i + 1 : Nat) : Int) = (i : Int) + 1 := by omega
      rw [e1]; exact he'
    · obtain ⟨o, ho2, r⟩ := hit'
      exact ⟨o, (sb.2 it (Ne.symm hne)).trans ho2, r⟩
    · have hb' : b < s.heap.objs.size := by
        have e' : b = e ∨ b = it := by simpa using hb
        rcases e' with z | z
        · rw [z]; exact hel
        · rw [z]; exact hil
      rw [upd_ne (Nat.ne_of_lt hb')]
      exact (hf b hb).1
  done := by
    intro X hP hw hK hc i pins s σ H E I hf st hg
    subst hP hw hK
    obtain ⟨⟨old, he⟩, hit, hne⟩ := st
    obtain ⟨f0, f1, f2, f3, f4, f5⟩ := hf it (by simp)
    have hg' : i = z.cps.size := hg
    rw [hg'] at hit he
    exact wpAny_pyNext_enum_endD (draws_str (A := X.A.in1) (I.ok.hd hc) it z t ty hty) he hit fun h' eb => ⟨rfl, I.turned (t' := s.toks) (fun b o hb q => eb b o hb q) f0 f1 f3 f4 f5⟩
  self := fun A i s Q E st h => let ⟨⟨_, he⟩, _⟩ := st; wpAny_pyIter_enum he h
def iEnumS (ta : TA) : TI := fun σ H R => ta σ H fun vs H1 => ∃ z, vs = [.str z] ∧ R (Ites z) H1
theorem pi_enumS {X : Cx} {e : Expr} {ta : TA} {p pos tpos : Pos} {elts : List Expr} {kk : Nat} (hg : Gl X "enumerate") (hm : X.mg "enumerate" = none) (ha : PA X [e] ta) (hs : starEach [e] X.env = [(false, eval e X.env)] := by rfl) :
    PI X (.Tuple elts kk tpos) (.Call (.Name "enumerate" p) [e] [] pos) (iEnumS ta) := by
  refine ⟨fun pins s σ H R I h => ?_⟩
  refine Call_ (ld_blt I hg hm boot_enumerate (PyProof.Rows.callWith_type1 (thn (ha.run pos pins s σ H _ I h) fun us s1 ⟨vs, H1, I1, r1, q1⟩ => ?_) hs rfl))
  obtain ⟨z, ex, q⟩ := q1
  subst ex
  cases r1 with
  | cons r rr =>
    cases rr
    obtain ⟨t, rfl⟩ := (show ∃ t, _ = Value.str z t from r)
    refine call_enumerate_str fun h' he hit hsz hk => wpAny_pyIter_enum he ?_
    have I2 : L2.Inv X pins σ H1 { s1 with heap := h' } := I1.kept (t' := s1.toks) hk
    have hty : strIterType z = "str_ascii_iterator" ∨ strIterType z = "str_iterator" := by
      unfold strIterType
      cases z.cps.all (· < 128)
      · exact .inr rfl
      · exact .inl rfl
    refine ⟨s1.heap.objs.size + 1, [s1.heap.objs.size + 1, s1.heap.objs.size], _, _, H1, rfl, I2, turn_enumS z t (strIterType z) hty (s1.heap.objs.size + 1) s1.heap.objs.size, ⟨⟨.none, he⟩, hit, Nat.succ_ne_self _⟩, fun b hb => ?_, q⟩
    have e' : b = s1.heap.objs.size + 1 ∨ b = s1.heap.objs.size := by simpa using hb
    have hle : s1.heap.objs.size ≤ b := by
      rcases e' with z | z
      · rw [z]; exact Nat.le_add_right _ _
      · rw [z]; exact Nat.le_refl _
    exact I1.fpOk hle (I1.hok.fresh hle)
theorem walk_enumS {z : Str} : Walk (Ites z) z.cps.size (fun _ => True) (fun i H v H' => ∃ T c, z.cps[i]? = some c ∧ v = .ref T ∧ H T = none ∧ H' = upd H T (.tup [.int (i : Nat), .str ⟨#[c]⟩])) :=
  ⟨fun _ _ hi _ => hi, fun _ _ => rfl, fun _ _ _ _ _ _ y => y⟩
/-- min of three numbers -/
theorem call_min3 {X : Cx} (hc : X.calm = true) : CallR X (.builtin "min") (fun xs H Q => ∃ a b c : Int, xs = [.int a, .int b, .int c] ∧ Q (.int (min (min a b) c)) H) := by
  intro pins s σ H xs us Q I r h
  obtain ⟨a, b, c, rfl, q⟩ := h
  refine call_min3Nu hc pins s σ H _ us Q I r ⟨.int a, .int b, .int c, .int (min (min a b) c), rfl, ?_, q⟩
  have two : ∀ a b : Int, nuMin2 (.int a) (.int b) = some (.int (min a b)) := fun a b => by
    show some (if decide (b < a) = true then V.int b else V.int a) = _
    by_cases h : b < a
    · rw [if_pos (decide_eq_true h), Int.min_eq_right (by omega)]
    · rw [if_neg (by simp [h]), Int.min_eq_left (by omega)]
  unfold nuMin3
  rw [two]
  exact two _ _
end MN
/-! require_word, require_prices, Prices.__contains__, require_two -/
namespace MN
open PySem PySem.Spec PyProof.Rows L2
/-- a word by its codes -/
def wS (u : List Nat) : Str := ⟨u.toArray⟩
theorem wS_len (u : List Nat) : (wS u).length = u.length := by simp [wS, Str.length]
theorem wS_cps (u : List Nat) : (wS u).cps.toList = u := rfl
theorem wS_inj {u v : List Nat} (h : wS u = wS v) : u = v := by
  have := congrArg (fun z : Str => z.cps.toList) h
  exact this
theorem wS_app (u v : List Nat) : wS u ++ wS v = wS (u ++ v) := by
  show (⟨u.toArray ++ v.toArray⟩ : Str) = ⟨(u ++ v).toArray⟩
  simp
theorem codes_sgn {zs : List Str} (h : ∀ z ∈ zs, ∃ c ∈ ("abcde" : Str).cps.toList, z = ⟨#[c]⟩) {c : Nat} (hc : c ∈ codesOf zs) : c ∈ ("abcde" : Str).cps.toList := by
  obtain ⟨d, hd, e⟩ := h _ ((mem_codes h).mp hc)
  have := nS_inj (x := some c) (y := some d) e
  cases this
  exact hd
section
variable {P : Program} {w : World} {K : PySem.W.Frag} {mg : Str → Option Value} {base : Heap} {Cp Cc : Addr}
def spReqWord : Sp := fun vs H Q _ => ∃ u : List Nat, vs = [.str (wS u)] ∧ (∀ c ∈ u, c ∈ ("abcde" : Str).cps.toList) ∧ u.length ≤ 1000 ∧ ∀ H', Same H H' → Q .non H'
theorem sc_require_word : FnScope ["value"] ["value"] (defScope (top 14)) := ⟨rfl, rfl, rfl, by decide +kernel, rfl, by decide +kernel, by decide +kernel⟩
theorem c_require_word (A : At K mg "require_word" (top 14)) (B : Blt mg) (G : GlC mg "MAX_WORD" (.int 1000)) (c_is_word : Cal P w K mg base 1 "is_word" (spIsWord K)) : Cal P w K mg base 2 "require_word" spReqWord := by
  refine cal_of A sc_require_word (fun _ _ _ _ _ _ us hl => match us, hl with | [_], _ => rfl) (fun vs H Q E h => ?_) (fun _ cdv A outer s H vs Q E hr h => ?_)
  · obtain ⟨_, rfl, _⟩ := h; rfl
  · obtain ⟨u, rfl, hu, hl, hQ⟩ := h
    have big : 100000 < sizeLine := by decide
    refine ⟨_, (pss_one (ps_if (PW.pt (pw_or (pt_not (pt_val (pe_c c_is_word hr (by decide) (by rfl) (pa_cons (pv 0) pa_nil)))) (pw_or1 (pt_cmpR op_gt (pe_callB call_len_str (by rfl) B.len (by decide +kernel) (pa_cons (pv 0) pa_nil)) (pe_gl (by rfl) G) (nomark _)))))
      (pss_one ps_never)
      pss_nil)), ?_⟩
    refine ⟨_, rfl, _, rfl, .str (by rw [wS_len]; omega), fun H1 e1 => ⟨_, rfl, ?_⟩⟩
    rw [show isWord (.str (wS u)) = true from by
      show isWordS (wS u) = true
      unfold isWordS
      rw [wS_cps, List.all_eq_true]
      intro c hc
      simp only [sgn, decide_eq_true_eq]
      exact hu c hc]
    refine iteF ⟨_, rfl, _, rfl, by rw [wS_len]; omega, _, _, rfl, rfl, _, rfl, ?_⟩
    rw [wS_len, decide_eq_false (by omega)]
    exact iteF (hQ _ e1)
/-! ### require_prices -/
def spReqPrices (Cp : Addr) : Sp := fun vs H Q _ => ∃ x dx ys ys2 g o qs, vs = [.ref x] ∧ PrAt Cp H x dx ys ys2 g o qs ∧ Q .non H
theorem sc_require_prices : FnScope ["value"] ["value"] (defScope (top 24)) := ⟨rfl, rfl, rfl, by decide +kernel, rfl, by decide +kernel, by decide +kernel⟩
theorem c_require_prices (A : At K mg "require_prices" (top 24)) (B : Blt mg) (PC : PrC K mg Cp Cc) : Cal P w K mg base 1 "require_prices" (spReqPrices Cp) := by
  refine cal_of A sc_require_prices (fun _ _ _ _ _ _ us hl => match us, hl with | [_], _ => rfl) (fun vs H Q E h => ?_) (fun _ cdv A outer s H vs Q E hr h => ?_)
  · obtain ⟨_, _, _, _, _, _, _, rfl, _⟩ := h; rfl
  · obtain ⟨x, dx, ys, ys2, g, o, qs, rfl, hP, hQ⟩ := h
    have GF : GlC mg "Prices" (.ref Cp) := ⟨_, PC.gp, rfl⟩
    refine ⟨_, pss_one (ps_if (pt_not (pt_val (pe_callB (SlX.call_isiSl (.ref Cp)) (by rfl) B.isinstance (by decide +kernel) (pa_cons (pv 0) (pa_cons (pe_gl (by rfl) GF) pa_nil))))) (pss_one ps_never) pss_nil), ?_⟩
    obtain ⟨PA, PB, PS, ws, hs, _⟩ := hP
    exact ⟨_, rfl, x, Cp, dx, ws, _, true, rfl, rfl, fun w e => e, .inr hs, PC.sp.sc, PC.si, PC.isP, _, rfl, iteF hQ⟩
/-! ### Prices.__contains__ -/
def spHas (Cp : Addr) : Sp := fun vs H Q _ => ∃ x dx ys ys2 g o qs z, vs = [.ref x, .str z] ∧ PrAt Cp H x dx ys ys2 g o qs ∧ PrN ys ys2 g o qs ∧ z ∈ ys ∧ Q (.bl true) H
theorem sc_has : FnScope ["self", "value"] ["self", "value"] (defScope (inClass (top 23) 14)) := ⟨rfl, rfl, rfl, by decide +kernel, rfl, by decide +kernel, by decide +kernel⟩
theorem f_has {f : Addr} {fd : FuncData} (PC : PrC K mg Cp Cc) (F : FunAt K "__contains__" "Prices.__contains__" (inClass (top 23) 14) [] f fd) (c_is_sign : Cal P w K mg base 1 "is_sign" (spIsSign K)) : FnOk P w K mg base CX0 2 f fd ["self", "value"] (spHas Cp) := by
  refine fnok_of F sc_has (fun vs H Q E h => ?_) (fun cdv A outer s H vs Q E hr h => ?_)
  · obtain ⟨_, _, _, _, _, _, _, _, rfl, _⟩ := h; rfl
  · obtain ⟨x, dx, ys, ys2, g, o, qs, z, rfl, hP, N, hz, hQ⟩ := h
    obtain ⟨p1, s1⟩ := PC.sp.s1
    refine ⟨_, pss_one (ps_ret (pe_and (pe_c c_is_sign hr (by decide) (by rfl) (pa_cons (pv 1) pa_nil)) (pe_one (pe_cmp (pc_din (hu_of hr) (pv 1) (SlX.pe_sl (pv 0))))))), ?_⟩
    obtain ⟨PA, PB, PS, ws, hs, w1, w0, w2, nAB, hA, hB, hS⟩ := hP
    refine ⟨_, rfl, _, rfl, .str (by rw [len_one (N.sg z hz)]; decide), _, rfl, ?_⟩
    rw [isSign_one (N.sg z hz)]
    refine iteT ⟨_, rfl, _, rfl, x, Cp, dx, p1, ws, 1, _, rfl, .inr hs, PC.sp.sc, s1, w1, PA, some (.int (g z)), rfl, .inl ⟨_, .inr z, .inl hA, rfl, (dkF_val N.nd g hz).symm⟩, hQ⟩
theorem r_has (PC : PrC K mg Cp Cc) (c_is_sign : Cal P w K mg base 1 "is_sign" (spIsSign K)) : ∃ g, PySem.W.findIn K (.ref Cp) "__contains__" = some (some (.ref g)) ∧ PySem.W.isFn K (.ref g) = true ∧ FnR P w K mg base CX0 2 g (fun vs H Q E => spHas Cp (vs ++ []) H Q E) := by
  obtain ⟨g, fd, h1, h2, F⟩ := PC.con
  have b := FunD.bindsN (ps := ["self", "value"]) F fun _ _ _ _ _ _ us hl => match us, hl with | [_, _], _ => rfl
  exact ⟨g, h1, h2, (f_has PC F c_is_sign).raw b .nil⟩
/-! ### require_two -/
def spReqTwo (Cp : Addr) : Sp := fun vs H Q _ => ∃ u v x dx ys ys2 g o qs, vs = [.str (wS u), .str (wS v), .ref x] ∧ PrAt Cp H x dx ys ys2 g o qs ∧ PrN ys ys2 g o qs ∧ (∀ c ∈ u, c ∈ codesOf ys) ∧ (∀ c ∈ v, c ∈ codesOf ys) ∧ u.length ≤ 200 ∧ v.length ≤ 200 ∧ ∀ H', Same H H' → Q .non H'
abbrev N_require_two : List Str := ["one", "other", "prices", "sign"]
theorem sc_require_two : FnScope N_require_two ["one", "other", "prices"] (defScope (top 27)) := ⟨rfl, rfl, rfl, by decide +kernel, rfl, by decide +kernel, by decide +kernel⟩
theorem c_require_two (A : At K mg "require_two" (top 27)) (B : Blt mg) (PC : PrC K mg Cp Cc) (G : GlC mg "MAX_SIGNS" (.int 200)) (c_is_sign : Cal P w K mg base 1 "is_sign" (spIsSign K)) (c_require_word : Cal P w K mg base 2 "require_word" spReqWord) (c_require_prices : Cal P w K mg base 1 "require_prices" (spReqPrices Cp)) : Cal P w K mg base 3 "require_two" (spReqTwo Cp) := by
  obtain ⟨gh, h1, h2, h3⟩ := r_has (P := P) (w := w) (base := base) PC c_is_sign
  refine cal_of A sc_require_two (fun _ _ _ _ _ _ us hl => match us, hl with | [_, _, _], _ => rfl) (fun vs H Q E h => ?_) (fun _ cdv A outer s H vs Q E hr h => ?_)
  · obtain ⟨_, _, _, _, _, _, _, _, _, rfl, _⟩ := h; rfl
  · obtain ⟨u, v, x, dx, ys, ys2, g, o, qs, rfl, hP, N, hu, hv, lu, lv, hQ⟩ := h
    refine ⟨_, (pss_cons (ps_expr (pe_c c_require_word hr (by decide) (by rfl) (pa_cons (pv 0) pa_nil)))
      (pss_cons (ps_expr (pe_c c_require_word hr (by decide) (by rfl) (pa_cons (pv 1) pa_nil)))
      (pss_cons (ps_expr (pe_c c_require_prices hr (by decide) (by rfl) (pa_cons (pv 2) pa_nil)))
      (pss_cons (ps_if (pt_val (pe_callB (cr_any rfl) (by rfl) B.any (by decide +kernel) (pa_cons (pe_lc (own := [("sign", 3)]) (g := gName 3) (tt := tYes) (by rfl) sc_require_two.nd (pi_list (pe_callB (cr_sortedX rfl) (by rfl) B.sorted (by decide +kernel) (pa_cons (pe_callTy (cr_setX rfl) (by rfl) B.set (by decide +kernel) (pa_cons (pe_op op_add_str (pv 0) (pv 1)) pa_nil)) pa_nil))) (blkOk_by (own := [("sign", 3)]) (N := N_require_two) (sc := defScope (top 27)) (by decide +kernel)) (fun _ _ _ _ _ => (pg_name (i := 3) sc_require_two.nd rfl (Or.inl rfl))) (fun _ _ _ _ _ => pts_nil) (fun _ _ _ _ _ => (pe_cmpR (op_notInOwn h1 h2 h3 hr pass0) (pv 3) (pv 2) (by rfl)))) pa_nil)))
        (pss_one ps_never)
        pss_nil)
      (pss_one (ps_if (pt_cmpR op_gt (pe_callB (call_max2 rfl) (by rfl) B.max (by decide +kernel) (pa_cons (pe_callB call_len_str (by rfl) B.len (by decide +kernel) (pa_cons (pv 0) pa_nil)) (pa_cons (pe_callB call_len_str (by rfl) B.len (by decide +kernel) (pa_cons (pv 1) pa_nil)) pa_nil))) (pe_gl (by rfl) G) (nomark _))
        (pss_one ps_never)
        pss_nil)))))), ?_⟩
    have big : 100000 < sizeLine := by decide
    refine ⟨_, rfl, u, rfl, fun c hc => codes_sgn N.sg (hu c hc), by omega, fun H1 e1 => ?_⟩
    refine ⟨_, rfl, v, rfl, fun c hc => codes_sgn N.sg (hv c hc), by omega, fun H2 e2 => ?_⟩
    have e12 := e1.trans e2
    refine ⟨_, rfl, x, dx, ys, ys2, g, o, qs, rfl, hP.same e12, ?_⟩
    -- signs without prices
    have kl : (signKeys (wS u ++ wS v)).length ≤ 4000 := by
      rw [wS_app]
      simp [signKeys, wS]
      omega
    refine ⟨_, rfl, _, rfl, _, _, rfl, rfl, by rw [wS_len, wS_len]; omega, _, signKeys (wS u ++ wS v), rfl, .inl ⟨_, rfl, rfl⟩, kl, fun p us nd hl hm hp => ?_⟩
    have keys : ∀ k ∈ us, ∃ z ∈ ys, k = Sum.inr z := fun k hk => by
      have := (hm k).mp hk
      rw [wS_app] at this
      unfold signKeys at this
      obtain ⟨c, hc, rfl⟩ := List.mem_map.mp this
      refine ⟨_, (mem_codes N.sg).mp ?_, rfl⟩
      rcases List.mem_append.mp (show c ∈ u ++ v from hc) with hc | hc
      · exact hu c hc
      · exact hv c hc
    obtain ⟨zs, rfl⟩ : ∃ zs : List Str, us = zs.map Sum.inr := by
      clear nd hl hm hp
      induction us with
      | nil => exact ⟨[], rfl⟩
      | cons k us ih =>
        obtain ⟨zs, rfl⟩ := ih fun k' h => keys k' (List.mem_cons_of_mem _ h)
        obtain ⟨z, _, rfl⟩ := keys k List.mem_cons_self
        exact ⟨z :: zs, rfl⟩
    have zin : ∀ z ∈ zs, z ∈ ys := fun z hz => by
      obtain ⟨z', h', e⟩ := keys _ (List.mem_map.mpr ⟨z, hz, rfl⟩)
      cases e
      exact h'
    have l5 : zs.length ≤ 5 := by
      have h1 := len_sub (m := ys) (l := zs) (by
        rw [List.Nodup, List.pairwise_map] at nd
        exact nd.imp fun {a b} hab e => hab (by rw [e])) zin
      have := N.le
      omega
    have e3 := e12.trans (same_new (o := SetXO P w p (zs.map Sum.inr)) hp)
    refine ⟨p, zs, rfl, upd_same, by omega, fun ws q hws hso hq => ?_⟩
    have e4 := e3.trans (same_new (o := .lst (ws.map V.str)) hq)
    refine ⟨q, rfl, ⟨_, .inl (.inl upd_same)⟩, fun D hD => ?_⟩
    have hP4 := hP.same e4
    refine lc_lstE (.inl (.inl upd_same)) hD (by rw [List.length_map, hws.length_eq]; omega) (fun _ => true) (fun _ => .bl false) (fun _ _ => rfl) (fun _ _ H2 e2 Q q => q _ (Same.refl _)) (fun y hy _ H5 e5 Q q => ?_) (fun H5 e5 h5 => ?_)
    · obtain ⟨z, hz, rfl⟩ := List.mem_map.mp hy
      have hP5 := hP4.same e5
      obtain ⟨PA, PB, PS, vs, hs, _⟩ := id hP5
      exact ⟨_, rfl, _, rfl, x, dx, vs, rfl, .inr hs, x, dx, ys, ys2, g, o, qs, z, rfl, hP5, N, zin z (hws.mem_iff.mp hz), true, rfl, q _ (Same.refl _)⟩
    have bs : (((ws.map V.str).filter fun _ => true).map fun _ => V.bl false) = (List.replicate ws.length false).map V.bl := by
      rw [filter_all, List.map_map, List.map_replicate]
      exact List.map_const' ..
    rw [bs] at h5
    refine ⟨D, _, rfl, .inl (.inl h5), _, rfl, ?_⟩
    rw [show (List.replicate ws.length false).any id = false by simp]
    refine iteF ⟨_, rfl, _, rfl, by rw [wS_len]; omega, _, rfl, _, rfl, by rw [wS_len]; omega, _, _, rfl, _, _, rfl, rfl, _, rfl, ?_⟩
    rw [wS_len, wS_len, decide_eq_false (by split <;> omega)]
    exact iteF (hQ _ (e4.trans e5))
end
end MN
/-! costs_with, cost_table, distance -/
namespace MN
open PySem PySem.Spec PyProof.Rows L2
/-- the costs of a word (turned) to all beginnings of another one -/
def rowV (c : Nd → Nd → Int) (u v : List Nat) : Nat → List V := fun n => (List.range n).map fun j => V.int (Dc c u (v.take j).reverse)
theorem rowV_get {c : Nd → Nd → Int} {u v : List Nat} {n j : Nat} (h : j < n) : (rowV c u v n)[j]? = some (.int (Dc c u (v.take j).reverse)) := by
  unfold rowV
  rw [List.getElem?_map, List.getElem?_range h]; rfl
theorem rowV_len {c : Nd → Nd → Int} {u v : List Nat} {n : Nat} : (rowV c u v n).length = n := by simp [rowV]
theorem rowV_succ {c : Nd → Nd → Int} {u v : List Nat} {n : Nat} : rowV c u v (n + 1) = rowV c u v n ++ [.int (Dc c u (v.take n).reverse)] := by
  unfold rowV
  rw [List.range_succ, List.map_append]; rfl
theorem take_rev {v : List Nat} {j l : Nat} (h : v[j]? = some l) : (v.take (j + 1)).reverse = l :: (v.take j).reverse := by
  rw [List.take_add_one, h]; simp
theorem codeOf_sg (c : Nat) : codeOf (sgS c) = c := rfl
section
variable {P : Program} {w : World} {K : PySem.W.Frag} {mg : Str → Option Value} {base : Heap} {Cp Cc : Addr}
def spCostsWith (Cc : Addr) : Sp := fun vs H Q _ => ∃ q dq a s u v ys c, vs = [.ref q, .ref a, .str (sgS s), .str (wS v)] ∧ ClAt Cc H q dq ys c ∧ ys.Nodup ∧ (∀ x, c x x = 0) ∧ H a = some (.lst (rowV c u v (v.length + 1))) ∧ sgS s ∈ ys ∧ (∀ l ∈ v, sgS l ∈ ys) ∧ v.length ≤ 200 ∧
  ∀ r H', H r = none → Same H H' → H' r = some (.lst (rowV c (s :: u) v (v.length + 1))) → Q (.ref r) H'
abbrev N_costs_with : List Str := ["closed", "ahead", "sign", "other", "row", "j", "letter", "both"]
theorem sc_costs_with : FnScope N_costs_with ["closed", "ahead", "sign", "other"] (defScope (top 28)) := ⟨rfl, rfl, rfl, by decide +kernel, rfl, by decide +kernel, by decide +kernel⟩
theorem c_costs_with (A : At K mg "costs_with" (top 28)) (B : Blt mg) (PC : PrC K mg Cp Cc) : Cal P w K mg base 1 "costs_with" (spCostsWith Cc) := by
  refine cal_of A sc_costs_with (fun _ _ _ _ _ _ us hl => match us, hl with | [_, _, _, _], _ => rfl) (fun vs H Q E h => ?_) (fun _ cdv A outer s H vs Q E hr h => ?_)
  · obtain ⟨_, _, _, _, _, _, _, _, rfl, _⟩ := h; rfl
  · obtain ⟨q, dq, a, s0, u, v, ys, c, rfl, hC, nd, cz, ha, hs0, hv, lv, hQ⟩ := h
    obtain ⟨p0, t0⟩ := PC.sc.s0
    obtain ⟨p1, t1⟩ := PC.sc.s1
    obtain ⟨p2, t2⟩ := PC.sc.s2
    refine ⟨_, (pss_cons (ps_set (i := 4) sc_costs_with.nd rfl (Or.inl rfl) (pe_lst (pa_cons (pe_op op_add (pe_ix ix_list (pv 1) pe_int (fun _ _ => rfl)) (pe_dget (hu_of hr) (SlX.pe_sl (pv 0)) (pv 2) (fun _ _ => rfl))) pa_nil)))
      (pss_cons (ps_for PassesOwn.never rfl (pi_enumS (by rfl) B.enumerate (pa_cons (pv 3) pa_nil)) (pg_tup rfl (pgs_cons (pg_name (i := 5) sc_costs_with.nd rfl (Or.inl rfl)) (pgs_cons (pg_name (i := 6) sc_costs_with.nd rfl (Or.inl rfl)) pgs_nil)))
        (pss_cons (ps_set (i := 7) sc_costs_with.nd rfl (Or.inl rfl) (pe_op op_add (pe_ix ix_list (pv 1) (pv 5) (fun _ _ => rfl)) (pe_ifExp (pt_cmpR op_eq (pv 6) (pv 2) (nomark _)) pe_int (pe_dget (hu_of hr) (SlX.pe_sl (pv 0)) (pe_tup (pa_cons (pv 2) (pa_cons (pv 6) pa_nil))) (fun _ _ => rfl)))))
        (pss_one (ps_expr (pe_append K rfl (pv 4) (pe_callB (call_min3 rfl) (by rfl) B.min (by decide +kernel) (pa_cons (pv 7) (pa_cons (pe_op op_add (pe_ix ix_list (pv 1) (pe_op op_add (pv 5) pe_int) (fun _ _ => rfl)) (pe_dget (hu_of hr) (SlX.pe_sl (pv 0)) (pv 2) (fun _ _ => rfl))) (pa_cons (pe_op op_add (pe_ix ix_list (pv 4) (pv 5) (fun _ _ => rfl)) (pe_dget (hu_of hr) (SlX.pe_sl (pv 0)) (pv 6) (fun _ _ => rfl))) pa_nil)))))))))
      (pss_one (ps_ret (pv 4))))), ?_⟩
    have hC0 := hC
    obtain ⟨qs, AP, PA, PB, PS, ws, hs, w1, w0, w2, nAB, hA, hB, hS⟩ := hC
    have two : 2 ≤ sizeLine := by decide
    have one : 1 ≤ sizeLine := by decide
    have big : 100000 < sizeLine := by decide
    have vB : ∀ l, sgS l ∈ ys → valV (dkF ys fun z => c (some (codeOf z)) none) (.inr (sgS l)) = some (.int (c (some l) none)) := fun l hl => dkF_val nd _ hl
    have vA : ∀ l, sgS l ∈ ys → valV (dkF ys fun z => c none (some (codeOf z))) (.inr (sgS l)) = some (.int (c none (some l))) := fun l hl => dkF_val nd _ hl
    -- row
    refine ⟨_, rfl, a, _, 0, _, rfl, rfl, SqL.of ha, atI_nat (rowV_get (Nat.succ_pos _)), _, rfl, q, Cc, dq, p0, ws, 0, _, rfl, .inr hs, PC.sc.sc, t0, w0, _, rfl, PB, _, rfl, .inl ⟨_, .inr (sgS s0), .inl hB, rfl, (vB s0 hs0).symm⟩, _, _, rfl, rfl, one, fun R hR => ?_⟩
    have e1 := same_new (o := .lst [.int (Dc c u (v.take 0).reverse + c (some s0) none)]) hR
    have hR1 : upd H R (.lst [.int (Dc c u (v.take 0).reverse + c (some s0) none)]) R = some (.lst (rowV c (s0 :: u) v 1)) := by
      rw [upd_same]
      show _ = some (HO.lst [.int (Dc c (s0 :: u) (v.take 0).reverse)])
      rw [List.take_zero, List.reverse_nil]
      simp only [Dc]
    have apart : ∀ b o, H b = some o → b ≠ R := fun b o h => ne_of_none h hR
    refine ⟨_, rfl, wS v, rfl, for_it walk_enumS (fun j σ H' => (∃ o5 o6 o7, σ = [some (.ref q), some (.ref a), some (.str (sgS s0)), some (.str (wS v)), some (.ref R), o5, o6, o7]) ∧ Same H H' ∧ H' R = some (.lst (rowV c (s0 :: u) v (j + 1)))) ⟨⟨_, _, _, rfl⟩, e1, hR1⟩ (fun _ _ _ _ _ => trivial) (fun j y σ Ha Hb hj e hy => ?_) (fun σ H2 e => ?_)⟩
    · obtain ⟨T, l, hl, rfl, hT, rfl⟩ := hy
      obtain ⟨⟨o5, o6, o7, rfl⟩, ea, hRa⟩ := e
      have hl' : v[j]? = some l := by simpa [wS] using hl
      have lj : j < v.length := (List.getElem?_eq_some_iff.mp hl').1
      have ml : sgS l ∈ ys := hv l (List.mem_of_getElem? hl')
      have f1 := same_new (o := .tup [.int (j : Nat), .str (sgS l)]) hT
      have eb := ea.trans f1
      have hRb := f1 _ _ hRa
      refine ⟨T, _, rfl, .inl (.inl upd_same), rfl, _, _, rfl, _, _, rfl, rfl, ?_⟩
      show (tAsg _ _ : TS) _ _ (upd Ha T (.tup [.int (j : Nat), .str (sgS l)]))
      generalize upd Ha T (.tup [.int (j : Nat), .str (sgS l)]) = Hb at eb hRb ⊢
      refine ⟨_, rfl, _, rfl, a, _, _, _, rfl, rfl, SqL.of (eb _ _ ha), atI_nat (rowV_get (by omega)), _, rfl, _, rfl, rfl, _, rfl, ?_⟩
      by_cases n : l = s0
      · subst n
        rw [show decide (V.str (⟨#[l]⟩ : Str) = V.str (sgS l)) = true from decide_eq_true rfl]
        refine iteT ⟨_, _, rfl, rfl, ?_⟩
        have ec := eb
        have hRc := hRb
        have at1 : atI (rowV c u v (v.length + 1)) ((j : Int) + 1) = some (.int (Dc c u (v.take (j + 1)).reverse)) := atI_nat (j := j + 1) (rowV_get (by omega))
        refine ⟨_, rfl, .inl ⟨rfl, _, SqL.of hRc⟩, _, rfl, _, rfl, _, rfl, _, _, rfl, rfl, a, _, _, _, rfl, rfl, SqL.of (ec _ _ ha), at1, _, rfl, q, Cc, dq, p0, ws, 0, _, rfl, .inr ⟨ec _ _ hs.1, ec _ _ hs.2⟩, PC.sc.sc, t0, w0, _, rfl, PB, _, rfl, .inl ⟨_, .inr (sgS l), .inl (ec _ _ hB), rfl, (vB l hs0).symm⟩, _, _, rfl, rfl, ?_⟩
        refine ⟨_, rfl, _, rfl, R, _, _, _, rfl, rfl, SqL.of hRc, atI_nat (rowV_get (Nat.lt_succ_self _)), _, rfl, q, Cc, dq, p1, ws, 1, _, rfl, .inr ⟨ec _ _ hs.1, ec _ _ hs.2⟩, PC.sc.sc, t1, w1, _, rfl, PA, _, rfl, .inl ⟨_, .inr (sgS l), .inl (ec _ _ hA), rfl, (vA l ml).symm⟩, _, _, rfl, rfl, ?_⟩
        refine ⟨_, _, _, rfl, R, _, _, rfl, rfl, hRc, by rw [rowV_len]; omega, ⟨_, _, _, rfl⟩, fun b o z => ?_, ?_⟩
        · rw [upd_ne (apart b o z)]; exact ec _ _ z
        · rw [upd_same, rowV_succ (n := j + 1), take_rev hl']
          simp only [Dc]
          rw [cz]
      · rw [show decide (V.str (⟨#[l]⟩ : Str) = V.str (sgS s0)) = false by
          have : (⟨#[l]⟩ : Str) ≠ sgS s0 := fun e => n (Option.some.inj (nS_inj (x := some l) (y := some s0) e))
          simp [this]]
        refine iteF ⟨_, rfl, q, Cc, dq, p2, ws, 2, _, rfl, .inr ⟨eb _ _ hs.1, eb _ _ hs.2⟩, PC.sc.sc, t2, w2, _, rfl, _, rfl, two, fun t ht => ?_⟩
        have f2 := same_new (o := .tup [.str (sgS s0), .str (sgS l)]) ht
        have ec := eb.trans f2
        refine ⟨PS, .int (c (some s0) (some l)), rfl, .inr ⟨_, [.inr (sgS s0), .inr (sgS l)], t, .inl (ec _ _ hS), rfl, upd_same, (dtF_val AP.nd ((AP.iff _).mpr ⟨hs0, ml, fun e => n (Option.some.inj (nS_inj (x := some s0) (y := some l) e)).symm, rfl⟩)).symm⟩, _, _, rfl, rfl, ?_⟩
        have hRc := f2 _ _ hRb
        have at1 : atI (rowV c u v (v.length + 1)) ((j : Int) + 1) = some (.int (Dc c u (v.take (j + 1)).reverse)) := atI_nat (j := j + 1) (rowV_get (by omega))
        refine ⟨_, rfl, .inl ⟨rfl, _, SqL.of hRc⟩, _, rfl, _, rfl, _, rfl, _, _, rfl, rfl, a, _, _, _, rfl, rfl, SqL.of (ec _ _ ha), at1, _, rfl, q, Cc, dq, p0, ws, 0, _, rfl, .inr ⟨ec _ _ hs.1, ec _ _ hs.2⟩, PC.sc.sc, t0, w0, _, rfl, PB, _, rfl, .inl ⟨_, .inr (sgS s0), .inl (ec _ _ hB), rfl, (vB s0 hs0).symm⟩, _, _, rfl, rfl, ?_⟩
        refine ⟨_, rfl, _, rfl, R, _, _, _, rfl, rfl, SqL.of hRc, atI_nat (rowV_get (Nat.lt_succ_self _)), _, rfl, q, Cc, dq, p1, ws, 1, _, rfl, .inr ⟨ec _ _ hs.1, ec _ _ hs.2⟩, PC.sc.sc, t1, w1, _, rfl, PA, _, rfl, .inl ⟨_, .inr (sgS l), .inl (ec _ _ hA), rfl, (vA l ml).symm⟩, _, _, rfl, rfl, ?_⟩
        refine ⟨_, _, _, rfl, R, _, _, rfl, rfl, hRc, by rw [rowV_len]; omega, ⟨_, _, _, rfl⟩, fun b o z => ?_, ?_⟩
        · rw [upd_ne (apart b o z)]; exact ec _ _ z
        · rw [upd_same, rowV_succ (n := j + 1), take_rev hl']
          simp only [Dc]
    · obtain ⟨⟨o5, o6, o7, rfl⟩, e2, hR2⟩ := e
      have : (wS v).cps.size = v.length := by simp [wS]
      rw [this] at hR2
      exact ⟨_, rfl, hQ R H2 hR e2 hR2⟩
/-! ### cost_table -/
def spCostTable (Cc : Addr) : Sp := fun vs H Q _ => ∃ q dq u v ys c, vs = [.ref q, .str (wS u), .str (wS v)] ∧ ClAt Cc H q dq ys c ∧ ys.Nodup ∧ (∀ x, c x x = 0) ∧ (∀ l ∈ u, sgS l ∈ ys) ∧ (∀ l ∈ v, sgS l ∈ ys) ∧ u.length ≤ 200 ∧ v.length ≤ 200 ∧
  ∀ t rs r H', Same H H' → H' t = some (.lst (rs ++ [.ref r])) → H' r = some (.lst (rowV c u.reverse v (v.length + 1))) → Q (.ref t) H'
abbrev N_cost_table : List Str := ["closed", "one", "other", "first", "letter", "table", "sign"]
theorem sc_cost_table : FnScope N_cost_table ["closed", "one", "other"] (defScope (top 29)) := ⟨rfl, rfl, rfl, by decide +kernel, rfl, by decide +kernel, by decide +kernel⟩
theorem c_cost_table (A : At K mg "cost_table" (top 29)) (B : Blt mg) (PC : PrC K mg Cp Cc) (c_costs_with : Cal P w K mg base 1 "costs_with" (spCostsWith Cc)) : Cal P w K mg base 2 "cost_table" (spCostTable Cc) := by
  refine cal_of A sc_cost_table (fun _ _ _ _ _ _ us hl => match us, hl with | [_, _, _], _ => rfl) (fun vs H Q E h => ?_) (fun _ cdv A outer s H vs Q E hr h => ?_)
  · obtain ⟨_, _, _, _, _, _, rfl, _⟩ := h; rfl
  · obtain ⟨q, dq, u, v, ys, c, rfl, hC, nd, cz, hu, hv, lu, lv, hQ⟩ := h
    obtain ⟨p1, t1⟩ := PC.sc.s1
    refine ⟨_, (pss_cons (ps_set (i := 3) sc_cost_table.nd rfl (Or.inl rfl) (pe_lst (pa_cons pe_int pa_nil)))
      (pss_cons (ps_for PassesOwn.never rfl (pi_str (pv 2)) (pg_name (i := 4) sc_cost_table.nd rfl (Or.inl rfl))
        (pss_one (ps_expr (pe_append K rfl (pv 3) (pe_op op_add (pe_ix ix_list (pv 3) (pe_un un_neg pe_int) (fun _ _ => rfl)) (pe_dget (hu_of hr) (SlX.pe_sl (pv 0)) (pv 4) (fun _ _ => rfl)))))))
      (pss_cons (ps_set (i := 5) sc_cost_table.nd rfl (Or.inl rfl) (pe_lst (pa_cons (pv 3) pa_nil)))
      (pss_cons (ps_for PassesOwn.never rfl (pi_str (pv 1)) (pg_name (i := 6) sc_cost_table.nd rfl (Or.inl rfl))
        (pss_one (ps_expr (pe_append K rfl (pv 5) (pe_c c_costs_with hr (by decide) (by rfl) (pa_cons (pv 0) (pa_cons (pe_ix ix_list (pv 5) (pe_un un_neg pe_int) (fun _ _ => rfl)) (pa_cons (pv 6) (pa_cons (pv 2) pa_nil)))))))))
      (pss_one (ps_ret (pv 5))))))), ?_⟩
    have hC0 := hC
    obtain ⟨qs, AP, PA, PB, PS, ws, hs, w1, w0, w2, nAB, hA, hB, hS⟩ := hC
    have one : 1 ≤ sizeLine := by decide
    have big : 100000 < sizeLine := by decide
    have vA : ∀ l, sgS l ∈ ys → valV (dkF ys fun z => c none (some (codeOf z))) (.inr (sgS l)) = some (.int (c none (some l))) := fun l hl => dkF_val nd _ hl
    have sz : ∀ z : List Nat, (wS z).cps.size = z.length := fun z => by simp [wS]
    refine ⟨one, fun R hR => ?_⟩
    have e1 := same_new (o := .lst [.int 0]) hR
    have hR1 : upd H R (.lst [.int 0]) R = some (.lst (rowV c [] v 1)) := by
      rw [upd_same]
      show _ = some (HO.lst [.int (Dc c [] (v.take 0).reverse)])
      rw [List.take_zero, List.reverse_nil]
      simp only [Dc]
    have apart : ∀ b o, H b = some o → b ≠ R := fun b o h => ne_of_none h hR
    refine ⟨_, rfl, wS v, rfl, for_it walk_str (fun j σ H' => (∃ o4, σ = [some (.ref q), some (.str (wS u)), some (.str (wS v)), some (.ref R), o4, none, none]) ∧ Same H H' ∧ H' R = some (.lst (rowV c [] v (j + 1)))) ⟨⟨_, rfl⟩, e1, hR1⟩ (fun _ _ _ _ _ => trivial) (fun j y σ Ha Hb hj e hy => ?_) (fun σ H2 e => ?_)⟩
    · obtain ⟨rfl, l, hl, rfl⟩ := hy
      obtain ⟨⟨o4, rfl⟩, ea, hRa⟩ := e
      have hl' : v[j]? = some l := by simpa [wS] using hl
      have lj : j < v.length := (List.getElem?_eq_some_iff.mp hl').1
      have ml : sgS l ∈ ys := hv l (List.mem_of_getElem? hl')
      refine ⟨_, rfl, .inl ⟨rfl, _, SqL.of hRa⟩, _, rfl, _, rfl, R, _, _, _, rfl, rfl, SqL.of hRa, by rw [rowV_succ]; exact atI_last _ _, _, rfl, q, Cc, dq, p1, ws, 1, _, rfl, .inr ⟨ea _ _ hs.1, ea _ _ hs.2⟩, PC.sc.sc, t1, w1, _, rfl, PA, _, rfl, .inl ⟨_, .inr (sgS l), .inl (ea _ _ hA), rfl, (vA l ml).symm⟩, _, _, rfl, rfl, R, _, _, rfl, rfl, hRa, by rw [rowV_len]; omega, ⟨_, rfl⟩, fun b o z => ?_, ?_⟩
      · rw [upd_ne (apart b o z)]; exact ea _ _ z
      · rw [upd_same, rowV_succ (n := j + 1), take_rev hl']
        simp only [Dc]
    obtain ⟨⟨o4, rfl⟩, e2, hR2⟩ := e
    rw [sz] at hR2
    refine ⟨_, rfl, one, fun T hT => ?_⟩
    have f3 := same_new (o := .lst [.ref R]) hT
    have apT : ∀ b o, H2 b = some o → b ≠ T := fun b o h => ne_of_none h hT
    refine ⟨_, rfl, wS u, rfl, for_it walk_str (fun i σ H' => (∃ o6, σ = [some (.ref q), some (.str (wS u)), some (.str (wS v)), some (.ref R), o4, some (.ref T), o6]) ∧ But T H2 H' ∧ ∃ rs r, rs.length = i ∧ r ≠ T ∧ H' T = some (.lst (rs ++ [.ref r])) ∧ H' r = some (.lst (rowV c (u.take i).reverse v (v.length + 1)))) ⟨⟨_, rfl⟩, But.refl.same f3, [], R, rfl, apT _ _ hR2, upd_same, by rw [List.take_zero]; exact f3 _ _ hR2⟩ (fun _ _ _ _ _ => trivial) (fun i y σ Ha Hb hi e hy => ?_) (fun σ H4 e => ?_)⟩
    · obtain ⟨rfl, l, hl, rfl⟩ := hy
      obtain ⟨⟨o6, rfl⟩, eb, rs, r, lr, nr, hTa, hra⟩ := e
      have hl' : u[i]? = some l := by simpa [wS] using hl
      have li : i < u.length := (List.getElem?_eq_some_iff.mp hl').1
      have ml : sgS l ∈ ys := hu l (List.mem_of_getElem? hl')
      have up : Same H Hb := fun b o z => eb b o (apT _ _ (e2 _ _ z)) (e2 _ _ z)
      refine ⟨_, rfl, .inl ⟨rfl, _, SqL.of hTa⟩, _, rfl, _, rfl, _, rfl, T, _, _, _, rfl, rfl, SqL.of hTa, atI_last _ _, _, rfl, _, rfl, q, dq, r, l, _, v, ys, c, rfl, hC0.same up, nd, cz, hra, ml, hv, lv, fun r2 Hc hr2 ec hr2c => ?_⟩
      have nT : r2 ≠ T := (ne_of_none hTa hr2).symm
      refine ⟨T, _, _, rfl, rfl, ec _ _ hTa, by rw [List.length_append, lr]; simp; omega, ⟨_, rfl⟩, (eb.same ec).put, rs ++ [.ref r], r2, by rw [List.length_append, lr]; rfl, nT, upd_same, ?_⟩
      rw [upd_ne nT, hr2c, take_rev hl']
    · obtain ⟨⟨o6, rfl⟩, eb, rs, r, lr, nr, hTa, hra⟩ := e
      rw [sz, List.take_length] at hra
      exact ⟨_, rfl, hQ T rs r H4 (fun b o z => eb b o (apT _ _ (e2 _ _ z)) (e2 _ _ z)) hTa hra⟩
/-! ### distance -/
def spDistance (Cp : Addr) : Sp := fun vs H Q _ => ∃ u v x dx ys ys2 g o qs, vs = [.str (wS u), .str (wS v), .ref x] ∧ PrAt Cp H x dx ys ys2 g o qs ∧ PrN ys ys2 g o qs ∧ (∀ c ∈ u, c ∈ codesOf ys) ∧ (∀ c ∈ v, c ∈ codesOf ys) ∧ u.length ≤ 200 ∧ v.length ≤ 200 ∧
  ∀ c H', Clo (codesOf ys) (rOf (codesOf ys) g o qs) c → Same H H' → Q (.int (Dc c u.reverse v.reverse)) H'
theorem sc_distance : FnScope ["one", "other", "prices"] ["one", "other", "prices"] (defScope (top 30)) := ⟨rfl, rfl, rfl, by decide +kernel, rfl, by decide +kernel, by decide +kernel⟩
theorem c_distance (A : At K mg "distance" (top 30)) (B : Blt mg) (PC : PrC K mg Cp Cc) (c_require_two : Cal P w K mg base 3 "require_two" (spReqTwo Cp)) (c_closed_of : Cal P w K mg base 3 "closed_of" (spClosedOf Cp Cc)) (c_cost_table : Cal P w K mg base 2 "cost_table" (spCostTable Cc)) : Cal P w K mg base 4 "distance" (spDistance Cp) := by
  refine cal_of A sc_distance (fun _ _ _ _ _ _ us hl => match us, hl with | [_, _, _], _ => rfl) (fun vs H Q E h => ?_) (fun _ cdv A outer s H vs Q E hr h => ?_)
  · obtain ⟨_, _, _, _, _, _, _, _, _, rfl, _⟩ := h; rfl
  · obtain ⟨u, v, x, dx, ys, ys2, g, o, qs, rfl, hP, N, hu, hv, lu, lv, hQ⟩ := h
    refine ⟨_, (pss_cons (ps_expr (pe_c c_require_two hr (by decide) (by rfl) (pa_cons (pv 0) (pa_cons (pv 1) (pa_cons (pv 2) pa_nil)))))
      (pss_one (ps_ret (pe_ix ix_list (pe_ix ix_list (pe_c c_cost_table hr (by decide) (by rfl) (pa_cons (pe_c c_closed_of hr (by decide) (by rfl) (pa_cons (pv 2) pa_nil)) (pa_cons (pv 0) (pa_cons (pv 1) pa_nil)))) (pe_un un_neg pe_int) (fun _ _ => rfl)) (pe_un un_neg pe_int) (fun _ _ => rfl))))), ?_⟩
    refine ⟨_, rfl, _, rfl, _, rfl, u, v, x, dx, ys, ys2, g, o, qs, rfl, hP, N, hu, hv, lu, lv, fun H1 e1 => ?_⟩
    refine ⟨_, rfl, x, dx, ys, ys2, g, o, qs, rfl, hP.same e1, N, fun q dq c H2 e2 CL hC => ?_⟩
    refine ⟨_, rfl, _, rfl, q, dq, u, v, ys, c, rfl, hC, N.nd, CL.z, fun l hl => (mem_codes N.sg).mp (hu l hl), fun l hl => (mem_codes N.sg).mp (hv l hl), lu, lv, fun t rs r H3 e3 ht hr3 => ?_⟩
    refine ⟨_, rfl, t, _, _, _, rfl, rfl, SqL.of ht, atI_last _ _, _, rfl, r, _, _, _, rfl, rfl, SqL.of hr3, by rw [rowV_succ]; exact atI_last _ _, ?_⟩
    rw [List.take_length]
    exact hQ c H3 CL ((e1.trans e2).trans e3)
end
end MN
/-! Prices called by keywords; closed, put, out, swap of prices -/
namespace MN
open PySem PySem.Spec PyProof.Rows L2
section
variable {X : Cx} {CX : CXT} {k : Nat} {f C : Addr} {fd : FuncData} {ps ks : List Str} {sp : Sp} {E : XK} {x : Str} {p pos : Pos} {kws : List Keyword} {tk : TA} {g : List Value → List Value → List Value} {gV : List V → List V → List V}
/-- a class of the module, called by keywords alone -/
theorem pe_makeKG (M : Mk X.K C f) (F : FnOk X.prog X.w X.K X.mg X.base CX k f fd ps sp) (hr : Room (k + 1) X.A) (hg : Gl X x) (hm : X.mg x = some (.ref C)) (hb : KBn X.K fd ps 1 ks g gV) (hx : Passes CX X E) (hkw : PK X kws tk)
    (hall : (backToKw pos (keywordEach kws X.env)).all (·.1.isSome) = true := by rfl) (hks : (backToKw pos (keywordEach kws X.env)).filterMap (·.1) = ks := by rfl) (hdb : (x == ("__debug__" : Str)) = false := by decide)
    (hpl : ((backTo pos (starEach [] X.env)).any (·.1) || (backToKw pos (keywordEach kws X.env)).any (·.1.isNone)) = false := by rfl) :
    PE X (.Call (.Name x p) [] kws pos) (tMakeK C 0 ks.length sp gV E tNil tk) := by
  refine ⟨fun pins s σ H Q I h => ?_⟩
  refine wpAny_Call_Name_kw (ld_glob I hg hm ?_ hdb)
  refine PySem.W.callWith_KW0 (h₀ := X.base) I.ok.mod.kin M.kp hall ?_ hpl
  refine thn (hkw.run pos pins s σ _ _ I h) fun ws s2 ⟨zs, H2, I2, rz, l1, l2, q2⟩ => ⟨I2.kIn, ?_⟩
  rw [hks]
  exact run_makeK (us := []) (vs := []) M F hr hb hx I2 .nil rz rfl l2 q2
end
section
variable {P : Program} {w : World} {K : PySem.W.Frag} {mg : Str → Option Value} {base : Heap} {Cp Cc : Addr}
theorem kb_pinit {f : Addr} {fd : FuncData} (F : FunAt K "__init__" "Prices.__init__" (inClass (top 23) 1) [] f fd) : KBn K fd ["self", "put", "out", "swap"] 1 ["put", "out", "swap"] (fun us ws => us ++ ws) (fun us ws => us ++ ws) := by
  obtain ⟨oc, od, dV, kV, doc, pm, an, cdv, ct, osl, rfl, lk, hcd, hD, hK⟩ := F.ex
  rcases hD with ⟨_, rfl⟩ | ⟨e, _⟩
  · refine ⟨fun s us ws X l1 l2 => ?_, fun r1 r2 => r1.append r2⟩
    match us, ws, l1, l2 with
    | [_], [_, _, _], _, _ => exact .of_eq rfl
  · exact absurd rfl e
abbrev gC (c : Nd → Nd → Int) : Str → Int := fun z => c none (some (codeOf z))
abbrev oC (c : Nd → Nd → Int) : Str → Int := fun z => c (some (codeOf z)) none
abbrev sC (c : Nd → Nd → Int) : Str → Str → Int := fun a b => c (some (codeOf a)) (some (codeOf b))
theorem AllP.perm {ys : List Str} {h : Str → Str → Int} {qs qs' : List ((Str × Str) × Int)} (A : AllP ys h qs) (p : qs'.Perm qs) : AllP ys h qs' := ⟨(p.map _).nodup_iff.mpr A.nd, fun e => by rw [p.mem_iff]; exact A.iff e⟩
theorem AllP.permY {ys ys' : List Str} {h : Str → Str → Int} {qs : List ((Str × Str) × Int)} (A : AllP ys h qs) (p : ys'.Perm ys) : AllP ys' h qs := ⟨A.nd, fun e => by rw [p.mem_iff, p.mem_iff]; exact A.iff e⟩
/-- closed prices are good prices -/
theorem clo_good {ys ys2 : List Str} {g o : Str → Int} {qs qs' : List ((Str × Str) × Int)} {c : Nd → Nd → Int} (N : PrN ys ys2 g o qs) (C : Clo (codesOf ys) (rOf (codesOf ys) g o qs) c) (A : AllP ys (sC c) qs') : PrN ys ys (gC c) (oC c) qs' := by
  have inl : ∀ {z : Str}, z ∈ ys → InL (codesOf ys) (some (codeOf z)) := fun hz => InL.of (code_mem N.sg hz)
  have sgc : ∀ {z : Str}, z ∈ ys → sgS (codeOf z) = z := fun {z} hz => nS_code (N.sg z hz)
  have pg : ∀ z ∈ ys, 1 ≤ gC c z ∧ gC c z ≤ 9 := fun z hz => by
    refine ⟨C.pos _ _ InL.no (inl hz) (fun e => nomatch e), ?_⟩
    have h1 := C.le none (some (codeOf z)) (g z) InL.no (inl hz) (by show (if _ then _ else _) = _; rw [if_pos (code_mem N.sg hz), sgc hz])
    have h2 := (N.pg z hz).2
    show c none (some (codeOf z)) ≤ 9
    omega
  have po : ∀ z ∈ ys, 1 ≤ oC c z ∧ oC c z ≤ 9 := fun z hz => by
    refine ⟨C.pos _ _ (inl hz) InL.no (fun e => nomatch e), ?_⟩
    have h1 := C.le (some (codeOf z)) none (o z) (inl hz) InL.no (by show (if _ then _ else _) = _; rw [if_pos (code_mem N.sg hz), sgc hz])
    have h2 := (N.po z hz).2
    show c (some (codeOf z)) none ≤ 9
    omega
  refine ⟨N.sg, N.nd, N.pos, N.le, List.Perm.refl _, pg, po, A.nd, fun e he => ?_, ?_⟩
  · obtain ⟨h1, h2, h3, h4⟩ := (A.iff e).mp he
    refine ⟨h1, h2, h3, ?_, ?_⟩
    · rw [h4]
      exact C.pos _ _ (inl h1) (inl h2) fun q => h3 (by rw [← sgc h1, ← sgc h2, Option.some.inj q])
    · rw [h4]
      have := C.tri (some (codeOf e.1.1)) none (some (codeOf e.1.2)) (inl h1) InL.no (inl h2)
      have a1 := (po _ h1).2
      have a2 := (pg _ h2).2
      show c (some (codeOf e.1.1)) (some (codeOf e.1.2)) ≤ 18
      have a1' : c (some (codeOf e.1.1)) none ≤ 9 := a1
      have a2' : c none (some (codeOf e.1.2)) ≤ 9 := a2
      omega
  · have h1 := A.len
    have h2 : ys.length * ys.length ≤ 5 * 5 := Nat.mul_le_mul N.le N.le
    omega
/-- the prices of closed prices, by nodes -/
theorem rOf_clo {ys ys' : List Str} {qs' : List ((Str × Str) × Int)} {c : Nd → Nd → Int} (sg : ∀ z ∈ ys, ∃ c ∈ ("abcde" : Str).cps.toList, z = ⟨#[c]⟩) (pm : ys'.Perm ys) (A : AllP ys (sC c) qs') : ∀ x y, InL (codesOf ys) x → InL (codesOf ys) y → rOf (codesOf ys') (gC c) (oC c) qs' x y = if x = y then none else some (c x y) := by
  have mem : ∀ {a}, a ∈ codesOf ys → a ∈ codesOf ys' := fun h => (pm.map _).mem_iff.mpr h
  intro x y hx hy
  cases x with
  | none =>
    cases y with
    | none => simp [rOf]
    | some b =>
      show (if b ∈ codesOf ys' then some (c none (some (codeOf (sgS b)))) else none) = _
      rw [if_pos (mem (hy b rfl)), if_neg (fun e => nomatch e), codeOf_sg]
  | some a =>
    cases y with
    | none =>
      show (if a ∈ codesOf ys' then some (c (some (codeOf (sgS a))) none) else none) = _
      rw [if_pos (mem (hx a rfl)), if_neg (fun e => nomatch e), codeOf_sg]
    | some b =>
      show findP qs' (sgS a) (sgS b) = _
      by_cases e : a = b
      · subst e
        rw [if_pos rfl]
        cases q : findP qs' (sgS a) (sgS a) with
        | none => rfl
        | some p => exact absurd rfl ((A.iff _).mp ((findP_some A.nd).mp q)).2.2.1
      · rw [if_neg fun q => e (Option.some.inj q), A.find ((mem_codes sg).mp (hx a rfl)) ((mem_codes sg).mp (hy b rfl)) fun q => e (Option.some.inj (nS_inj (x := some a) (y := some b) q))]
        rfl
/-- closed prices, closed again -/
theorem clo_again {ys ys2 ys' : List Str} {g o : Str → Int} {qs qs' : List ((Str × Str) × Int)} {c c' : Nd → Nd → Int} (N : PrN ys ys2 g o qs) (C : Clo (codesOf ys) (rOf (codesOf ys) g o qs) c) (pm : ys'.Perm ys) (A : AllP ys (sC c) qs') (C' : Clo (codesOf ys') (rOf (codesOf ys') (gC c) (oC c) qs') c') : ∀ x y, InL (codesOf ys) x → InL (codesOf ys) y → c' x y = c x y :=
  C.same ((C'.perm fun a => ((pm.map _).mem_iff).symm).congr fun x y hx hy => (rOf_clo N.sg pm A x y hx hy).symm)
def spPClosed (Cp : Addr) : Sp := fun vs H Q _ => ∃ x dx ys ys2 g o qs, vs = [.ref x] ∧ PrAt Cp H x dx ys ys2 g o qs ∧ PrN ys ys2 g o qs ∧
  ∀ y dy ys' ys2' qs' c H', Same H H' → Clo (codesOf ys) (rOf (codesOf ys) g o qs) c → PrAt Cp H' y dy ys' ys2' (gC c) (oC c) qs' → PrN ys' ys2' (gC c) (oC c) qs' → ys'.Perm ys → AllP ys (sC c) qs' → Q (.ref y) H'
abbrev N_pclosed : List Str := ["self", "found"]
theorem sc_pclosed : FnScope N_pclosed ["self"] (defScope (inClass (top 23) 8)) := ⟨rfl, rfl, rfl, by decide +kernel, rfl, by decide +kernel, by decide +kernel⟩
theorem f_pclosed {f : Addr} {fd : FuncData} (PC : PrC K mg Cp Cc) (F : FunAt K "closed" "Prices.closed" (inClass (top 23) 8) [] f fd) (B : Blt mg) (c_are_prices : Cal P w K mg base 3 "are_prices" spAreP) (c_closed_of : Cal P w K mg base 3 "closed_of" (spClosedOf Cp Cc)) : FnOk P w K mg base CX0 6 f fd ["self"] (spPClosed Cp) := by
  obtain ⟨fi, fdi, M, Fi⟩ := PC.ip
  refine fnok_of F sc_pclosed (fun vs H Q E h => ?_) (fun cdv A outer s H vs Q E hr h => ?_)
  · obtain ⟨_, _, _, _, _, _, _, rfl, _⟩ := h; rfl
  · obtain ⟨x, dx, ys, ys2, g, o, qs, rfl, hP, N, hQ⟩ := h
    obtain ⟨p0, s0⟩ := PC.sc.s0
    obtain ⟨p1, s1⟩ := PC.sc.s1
    obtain ⟨p2, s2⟩ := PC.sc.s2
    refine ⟨_, pss_cons (ps_set (i := 1) sc_pclosed.nd rfl (Or.inl rfl) (pe_c c_closed_of hr (by decide) (by rfl) (pa_cons (pv 0) pa_nil)))
      (pss_one (ps_ret (pe_makeKG M (f_pinit (P := P) (w := w) (mg := mg) (base := base) PC.sp Fi B c_are_prices) (hr.mono (by decide)) (by rfl) PC.gp (kb_pinit Fi) pass0 (pk_cons (SlX.pe_sl (pv 1)) (pk_cons (SlX.pe_sl (pv 1)) (pk_cons (SlX.pe_sl (pv 1)) pk_nil)))))), ?_⟩
    refine ⟨_, rfl, x, dx, ys, ys2, g, o, qs, rfl, hP, N, fun q dq c H1 e1 CL hC => ?_⟩
    obtain ⟨qs1, AP, PA, PB, PS, ws, hs, w1, w0, w2, nAB, hA, hB, hS⟩ := hC
    refine ⟨_, rfl, q, Cc, dq, p1, ws, 1, _, rfl, .inr hs, PC.sc.sc, s1, w1, _, rfl, q, Cc, dq, p0, ws, 0, _, rfl, .inr hs, PC.sc.sc, s0, w0, _, rfl, q, Cc, dq, p2, ws, 2, _, rfl, .inr hs, PC.sc.sc, s2, w2, rfl, rfl, fun y dy hy hdy n => ?_⟩
    have nx : ∀ b u, H1 b = some u → b ≠ y ∧ b ≠ dy := fun b u e => ⟨ne_of_none e hy, ne_of_none e hdy⟩
    have up : ∀ b u, H1 b = some u → upd (upd H1 dy (.own y)) y (.ins Cp dy []) b = some u := fun b u e => by
      rw [upd_ne (nx b u e).1, upd_ne (nx b u e).2]; exact e
    refine ⟨y, dy, PA, PB, PS, ys, ys, gC c, oC c, qs1, rfl, upd_same, by rw [upd_ne n, upd_same], n, up _ _ hA, up _ _ hB, up _ _ hS, nAB, clo_good N CL AP, fun H2 ys' ys2' qs' k2 hP2 N2 pm _ pq => ⟨rfl, hQ y dy ys' ys2' qs' c H2 (fun b u z => ?_) CL hP2 N2 pm (AP.perm pq)⟩⟩
    have z1 := e1 _ _ z
    exact k2 b u (nx _ _ z1).1 (nx _ _ z1).2 (up _ _ z1)
theorem r_pclosed (PC : PrC K mg Cp Cc) (B : Blt mg) (c_are_prices : Cal P w K mg base 3 "are_prices" spAreP) (c_closed_of : Cal P w K mg base 3 "closed_of" (spClosedOf Cp Cc)) : ∃ g, Meth K Cp "closed" g ∧ FnR P w K mg base CX0 6 g (fun vs H Q E => spPClosed Cp (vs ++ []) H Q E) := by
  obtain ⟨g, fd, h1, F⟩ := PC.clo
  have b := FunD.bindsN (ps := ["self"]) F fun _ _ _ _ _ _ us hl => match us, hl with | [_], _ => rfl
  exact ⟨g, h1, (f_pclosed PC F B c_are_prices c_closed_of).raw b .nil⟩
/-! ### put, out, swap -/
def spGet (Cp : Addr) (R : List Str → List Str → (Str → Int) → (Str → Int) → List ((Str × Str) × Int) → HO) : Sp := fun vs H Q _ => ∃ x dx ys ys2 g o qs, vs = [.ref x] ∧ PrAt Cp H x dx ys ys2 g o qs ∧ PrN ys ys2 g o qs ∧ ∀ d H', Same H H' → H' d = some (R ys ys2 g o qs) → Q (.ref d) H'
abbrev spPut (Cp : Addr) : Sp := spGet Cp fun ys _ g _ _ => .dK (dkF ys g)
abbrev spOut (Cp : Addr) : Sp := spGet Cp fun _ ys2 _ o _ => .dK (dkF ys2 o)
abbrev spSwap (Cp : Addr) : Sp := spGet Cp fun _ _ _ _ qs => .dT (dtF qs)
theorem sc_pput : FnScope ["self"] ["self"] (defScope (inClass (top 23) 4)) := ⟨rfl, rfl, rfl, by decide +kernel, rfl, by decide +kernel, by decide +kernel⟩
theorem sc_pout : FnScope ["self"] ["self"] (defScope (inClass (top 23) 5)) := ⟨rfl, rfl, rfl, by decide +kernel, rfl, by decide +kernel, by decide +kernel⟩
abbrev N_pswap : List Str := ["self", "pair"]
theorem sc_pswap : FnScope N_pswap ["self"] (defScope (inClass (top 23) 6)) := ⟨rfl, rfl, rfl, by decide +kernel, rfl, by decide +kernel, by decide +kernel⟩
theorem f_pput {f : Addr} {fd : FuncData} (PC : PrC K mg Cp Cc) (F : FunAt K "put" "Prices.put" (inClass (top 23) 4) [] f fd) (B : Blt mg) : FnOk P w K mg base CX0 1 f fd ["self"] (spPut Cp) := by
  refine fnok_of F sc_pput (fun vs H Q E h => ?_) (fun cdv A outer s H vs Q E hr h => ?_)
  · obtain ⟨_, _, _, _, _, _, _, rfl, _⟩ := h; rfl
  · obtain ⟨x, dx, ys, ys2, g, o, qs, rfl, hP, N, hQ⟩ := h
    obtain ⟨p1, s1⟩ := PC.sp.s1
    refine ⟨_, pss_one (ps_ret (pe_callTy call_dictD (by rfl) B.dict (by decide +kernel) (pa_cons (SlX.pe_sl (pv 0)) pa_nil))), ?_⟩
    obtain ⟨PA, PB, PS, ws, hs, w1, w0, w2, nAB, hA, hB, hS⟩ := hP
    exact ⟨_, rfl, x, Cp, dx, p1, ws, 1, _, rfl, .inr hs, PC.sp.sc, s1, w1, PA, _, rfl, .inl hA, fun d hd => hQ d _ (same_new hd) upd_same⟩
theorem f_pout {f : Addr} {fd : FuncData} (PC : PrC K mg Cp Cc) (F : FunAt K "out" "Prices.out" (inClass (top 23) 5) [] f fd) (B : Blt mg) : FnOk P w K mg base CX0 1 f fd ["self"] (spOut Cp) := by
  refine fnok_of F sc_pout (fun vs H Q E h => ?_) (fun cdv A outer s H vs Q E hr h => ?_)
  · obtain ⟨_, _, _, _, _, _, _, rfl, _⟩ := h; rfl
  · obtain ⟨x, dx, ys, ys2, g, o, qs, rfl, hP, N, hQ⟩ := h
    obtain ⟨p1, s1⟩ := PC.sp.s0
    refine ⟨_, pss_one (ps_ret (pe_callTy call_dictD (by rfl) B.dict (by decide +kernel) (pa_cons (SlX.pe_sl (pv 0)) pa_nil))), ?_⟩
    obtain ⟨PA, PB, PS, ws, hs, w1, w0, w2, nAB, hA, hB, hS⟩ := hP
    exact ⟨_, rfl, x, Cp, dx, p1, ws, 0, _, rfl, .inr hs, PC.sp.sc, s1, w0, PB, _, rfl, .inl hB, fun d hd => hQ d _ (same_new hd) upd_same⟩
theorem f_pswap {f : Addr} {fd : FuncData} (PC : PrC K mg Cp Cc) (F : FunAt K "swap" "Prices.swap" (inClass (top 23) 6) [] f fd) (B : Blt mg) : FnOk P w K mg base CX0 1 f fd ["self"] (spSwap Cp) := by
  refine fnok_of F sc_pswap (fun vs H Q E h => ?_) (fun cdv A outer s H vs Q E hr h => ?_)
  · obtain ⟨_, _, _, _, _, _, _, rfl, _⟩ := h; rfl
  · obtain ⟨x, dx, ys, ys2, g, o, qs, rfl, hP, N, hQ⟩ := h
    obtain ⟨p2, s2⟩ := PC.sp.s2
    refine ⟨_, pss_one (ps_ret (pe_lock (pe_dp1 (own := [("pair", 1)]) (o0 := .dT []) (g := gName 1) (tt := tYes) rfl (hu_of hr) sc_pswap.nd (pi_keys (SlX.pe_sl (pv 0)))
        (blkOk_by (own := [("pair", 1)]) (N := N_pswap) (sc := defScope (inClass (top 23) 6)) (by decide +kernel)) (fun _ _ _ _ _ => (pg_name (i := 1) sc_pswap.nd rfl (Or.inl rfl))) (fun _ _ _ _ _ => pts_nil) (fun _ _ _ _ _ => pv 1) (fun _ _ _ _ _ => pe_dget (hu_of hr) (peSlK (K := K) rfl (pv 0)) (pv 1) (fun _ _ => rfl)) (.inr rfl)))), ?_⟩
    obtain ⟨PA, PB, PS, ws, hs, w1, w0, w2, nAB, hA, hB, hS⟩ := hP
    refine ⟨PS, _, hS, trivial, fun od => ?_⟩
    have xS : x ≠ PS := fun z => by
      have q := hs.1
      rw [z, hS] at q
      injection q with q
      unfold SlX.SlO at q
      cases q
    have dS : dx ≠ PS := fun z => by
      have q := hs.2
      rw [z, hS] at q
      cases q
    have S1' : Sl2 (upd H PS (.frz od (.dT (dtF qs)))) x Cp dx ws := ⟨by rw [upd_ne xS]; exact hs.1, by rw [upd_ne dS]; exact hs.2⟩
    refine ⟨_, rfl, x, Cp, dx, p2, ws, 2, _, rfl, .inr S1', PC.sp.sc, s2, w2, PS, od, rfl, .inr ⟨_, upd_same, fun T hT0 => ?_⟩⟩
    have TS : T ≠ PS := fun z => by rw [z, upd_same] at hT0; cases hT0
    refine dp_it walk_keysT (fun i H' => Same (upd H PS (.frz od (.dT (dtF qs)))) H' ∧ H' T = some (.dT (dtF (qs.take i)))) ⟨same_new hT0, by rw [List.take_zero]; exact upd_same⟩ (fun i H' _ e => e.1 _ _ upd_same) (fun i y Ha Hb hi e hy => ?_) (fun H2' e => ⟨e.1 _ _ upd_same, ?_⟩)
    · obtain ⟨rfl, k, v, b, hk, rfl, hb⟩ := hy
      obtain ⟨ea, eT⟩ := e
      unfold dtF at hk
      rw [List.getElem?_map] at hk
      obtain ⟨⟨⟨z1, z2⟩, n⟩, hz, ek⟩ := Option.map_eq_some_iff.mp hk
      cases ek
      refine ⟨rfl, yes_q (iteT ⟨_, rfl, _, rfl, x, Cp, dx, p2, ws, 2, _, rfl, slt_same ea (.inr S1'), PC.sp.sc, s2, w2, _, rfl, PS, .int n, rfl, .inr ⟨_, [.inr z1, .inr z2], b, .inr ⟨od, ea _ _ upd_same⟩, rfl, hb, (dtF_val N.sn (List.mem_of_getElem? hz)).symm⟩, _, .inr ⟨_, [.inr z1, .inr z2], b, eT, rfl, hb, ?_, rfl⟩, fun c u q => ?_, ?_⟩)⟩
      · have : 100000 < sizeLine := by decide
        have := N.sl
        simp [dtF]
        omega
      · rw [upd_ne (ne_of_none q hT0)]; exact ea _ _ q
      · rw [upd_same, dtF_put N.sn hz]
    obtain ⟨ea, eT⟩ := e
    refine hQ T _ (fun b u q => ?_) ?_
    · by_cases z : b = PS
      · rw [z, upd_same]; rw [z, hS] at q; exact q
      · rw [upd_ne z]; exact ea _ _ (by rw [upd_ne z]; exact q)
    · have : (dtF qs).length = qs.length := by simp [dtF]
      rw [upd_ne TS, eT, this, List.take_length]
/-- the properties, as they are read -/
theorem r_props (PC : PrC K mg Cp Cc) (B : Blt mg) : (∃ p g, PropOf K Cp "put" p g ∧ FnR P w K mg base CX0 1 g (fun vs H Q E => spPut Cp (vs ++ []) H Q E)) ∧ (∃ p g, PropOf K Cp "out" p g ∧ FnR P w K mg base CX0 1 g (fun vs H Q E => spOut Cp (vs ++ []) H Q E)) ∧ ∃ p g, PropOf K Cp "swap" p g ∧ FnR P w K mg base CX0 1 g (fun vs H Q E => spSwap Cp (vs ++ []) H Q E) := by
  obtain ⟨p1, g1, fd1, h1, F1⟩ := PC.pput
  obtain ⟨p2, g2, fd2, h2, F2⟩ := PC.pout
  obtain ⟨p3, g3, fd3, h3, F3⟩ := PC.pswap
  have b1 := FunD.bindsN (ps := ["self"]) F1 fun _ _ _ _ _ _ us hl => match us, hl with | [_], _ => rfl
  have b2 := FunD.bindsN (ps := ["self"]) F2 fun _ _ _ _ _ _ us hl => match us, hl with | [_], _ => rfl
  have b3 := FunD.bindsN (ps := ["self"]) F3 fun _ _ _ _ _ _ us hl => match us, hl with | [_], _ => rfl
  exact ⟨⟨p1, g1, h1, (f_pput PC F1 B).raw b1 .nil⟩, ⟨p2, g2, h2, (f_pout PC F2 B).raw b2 .nil⟩, ⟨p3, g3, h3, (f_pswap PC F3 B).raw b3 .nil⟩⟩
end
end MN
/-! the draws of the laws k05 .. k09: rates, priced -/
namespace MN
open PySem PySem.Spec PyProof.Rows L2
theorem getElem?_mem_take {α : Type} {l : List α} {k i : Nat} {a : α} (h : l[k]? = some a) (hk : k < i) : a ∈ l.take i := by
  refine List.mem_iff_getElem?.mpr ⟨k, ?_⟩
  rw [List.getElem?_take, if_pos hk]; exact h
section
variable {K : PySem.W.Frag} {l p D : Addr} {H1 : Hp} {σ : L2.St} {vs : List Nat} {te : TE} {j : Nat} {Qd : Hp → Prop} {W : Int} {zs : List Str}
/-- [(z, a drawn number) for z in signs] -/
theorem lc_draws (hl : SqL K H1 l (strsV zs)) (nlp : l ≠ p) (nd : zs.Nodup) (l5 : zs.length ≤ 1000) (hp : Pot H1 p) (hD : H1 D = none) (hw : ∀ z ∈ zs, wipe ((wipe σ vs).set j (some (.str z))) vs = wipe σ vs)
    (he : ∀ z ∈ zs, ∀ H2, Ex p H1 H2 → ∀ Q : VK, (∀ n H3 T, 1 ≤ n → n ≤ W → Ex p H2 H3 → H3 T = none → Q (.ref T) (upd H3 T (.tup [.str z, .int n]))) → te ((wipe σ vs).set j (some (.str z))) H2 Q)
    (hd : ∀ H' ts g, Ex p H1 H' → H' D = some (.lst (ts.map V.ref)) → (∀ z ∈ zs, 1 ≤ g z ∧ g z ≤ W) → Paired (fun t (kv : Key × V) => SqT K H' t [kV kv.1, kv.2]) ts (dkF zs g) → Qd H') : LcGoal (Itl K l) (gName j) tYes te vs σ H1 D Qd := by
  have nDp : D ≠ p := by
    obtain ⟨_, _, _, e⟩ := hp
    exact (ne_of_none e hD).symm
  refine lc_it walk_list (fun i H' => Ex p H1 H' ∧ ∃ (ts : List Addr) (g : Str → Int), ts.length = i ∧ H' D = some (.lst (ts.map V.ref)) ∧ (∀ z ∈ zs.take i, 1 ≤ g z ∧ g z ≤ W) ∧ ∀ (k : Nat) (t : Addr), ts[k]? = some t → t ≠ p ∧ t ≠ D ∧ ∃ z, zs[k]? = some z ∧ H' t = some (.tup [.str z, .int (g z)])) ⟨(Ex.refl hp).new hD, [], fun _ => 1, rfl, upd_same, by simp, by simp⟩ (fun i H' _ e => e.1.seqL hl nlp) (fun i x Ha Hb hi e y => ?_) (fun H' e => ?_)
  · obtain ⟨rfl, hx⟩ := y
    obtain ⟨ex, ts, g, lt, hDa, gb, at_⟩ := e
    have hx' : (zs.map V.str)[i]? = some x := hx
    rw [List.getElem?_map] at hx'
    obtain ⟨z, hz, rfl⟩ := Option.map_eq_some_iff.mp hx'
    have mz := List.mem_of_getElem? hz
    have nz := take_nodup nd hz
    refine ⟨hw z mz, yes_q (iteT (he z mz _ ex _ fun n H3 T n1 n2 ex3 hT => ⟨ts.map V.ref, ?_, ?_, ?_, ts ++ [T], fun y => if y = z then n else g y, ?_, ?_, fun y hy => ?_, fun k t ht => ?_⟩))⟩
    · have := ex3.keep _ _ nDp hDa
      rw [upd_ne (ne_of_none this hT)]; exact this
    · have : 100000 < sizeLine := by decide
      have : i < (strsV zs).length := hi
      simp [strsV] at this
      rw [List.length_map]
      omega
    · exact ((ex.trans ex3).new hT).put hD nDp
    · rw [List.length_append, lt]; rfl
    · rw [upd_same, List.map_append]; rfl
    · show 1 ≤ (if y = z then n else g y) ∧ (if y = z then n else g y) ≤ W
      rw [List.take_add_one, hz] at hy
      by_cases e : y = z
      · rw [if_pos e]; exact ⟨n1, n2⟩
      · rw [if_neg e]
        refine gb y ?_
        simpa [e] using hy
    · have hDc := ex3.keep _ _ nDp hDa
      by_cases hk : k < ts.length
      · rw [List.getElem?_append_left hk] at ht
        obtain ⟨a1, a2, y, hy, hty⟩ := at_ k t ht
        have q3 := ex3.keep _ _ a1 hty
        refine ⟨a1, a2, y, hy, ?_⟩
        rw [upd_ne a2, upd_ne (ne_of_none q3 hT), q3]
        show _ = some (HO.tup [V.str y, V.int (if y = z then n else g y)])
        rw [if_neg]
        intro e
        exact nz (by rw [← e]; exact getElem?_mem_take hy (by omega))
      · have hk2 : k = ts.length := by
          have := (List.getElem?_eq_some_iff.mp ht).1
          rw [List.length_append, List.length_singleton] at this
          omega
        subst hk2
        rw [List.getElem?_append_right (Nat.le_refl _), Nat.sub_self] at ht
        cases (show some T = some t from ht)
        obtain ⟨_, _, _, e3⟩ := ex3.pot
        refine ⟨(ne_of_none e3 hT).symm, (ne_of_none hDc hT).symm, z, by rw [lt]; exact hz, ?_⟩
        rw [upd_ne (ne_of_none hDc hT).symm, upd_same]
        show _ = some (HO.tup [V.str z, V.int (if z = z then n else g z)])
        rw [if_pos rfl]
  · obtain ⟨ex, ts, g, lt, hDa, gb, at_⟩ := e
    have lz : (strsV zs).length = zs.length := by simp [strsV]
    rw [lz] at lt gb
    rw [List.take_length] at gb
    refine hd H' ts g ex hDa gb (paired_of (by simp [dkF, lt]) fun k t kv ht hkv => ?_)
    obtain ⟨_, _, z, hz, htz⟩ := at_ k t ht
    unfold dkF at hkv
    rw [List.getElem?_map, hz] at hkv
    cases hkv
    exact .inl (.inl htz)
end
/-- swap prices drawn so far -/
structure SubP (zs : List Str) (i j : Nat) (ps : List ((Str × Str) × Int)) : Prop where
  nd : (ps.map Prod.fst).Nodup
  ks : ∀ e ∈ ps, (e.1.1 ∈ zs.take i ∨ (zs[i]? = some e.1.1 ∧ e.1.2 ∈ zs.take j)) ∧ e.1.1 ∈ zs ∧ e.1.2 ∈ zs ∧ e.1.1 ≠ e.1.2 ∧ 1 ≤ e.2 ∧ e.2 ≤ 18
theorem SubP.next {zs : List Str} {i j : Nat} {ps : List ((Str × Str) × Int)} (S : SubP zs i j ps) : SubP zs i (j + 1) ps :=
  ⟨S.nd, fun e he => ⟨(S.ks e he).1.imp id fun q => ⟨q.1, by rw [List.take_add_one]; exact List.mem_append_left _ q.2⟩, (S.ks e he).2⟩⟩
theorem SubP.row {zs : List Str} {i j : Nat} {ps : List ((Str × Str) × Int)} (S : SubP zs i j ps) : SubP zs (i + 1) 0 ps :=
  ⟨S.nd, fun e he => ⟨.inl (by
    rw [List.take_add_one]
    rcases (S.ks e he).1 with q | q
    · exact List.mem_append_left _ q
    · rw [q.1]; exact List.mem_append_right _ (by simp)), (S.ks e he).2⟩⟩
theorem SubP.new {zs : List Str} {i j : Nat} {ps : List ((Str × Str) × Int)} {x y : Str} {n : Int} (S : SubP zs i j ps) (nd : zs.Nodup) (hi : zs[i]? = some x) (hj : zs[j]? = some y) (ne : x ≠ y) (n1 : 1 ≤ n) (n2 : n ≤ 18) : SubP zs i (j + 1) (ps ++ [((x, y), n)]) ∧ (x, y) ∉ ps.map Prod.fst := by
  have nw : (x, y) ∉ ps.map Prod.fst := fun q => by
    obtain ⟨e, he, q⟩ := List.mem_map.mp q
    rcases (S.ks e he).1 with a | a
    · rw [q] at a; exact take_nodup nd hi a
    · rw [q] at a; exact take_nodup nd hj a.2
  refine ⟨⟨?_, fun e he => ?_⟩, nw⟩
  · rw [List.map_append, List.nodup_append]
    refine ⟨S.nd, by simp, fun a ha b hb => ?_⟩
    rw [show b = (x, y) by simpa using hb]
    exact fun z => nw (by rw [← z]; exact ha)
  · rcases List.mem_append.mp he with he | he
    · exact S.next.ks e he
    · rw [List.mem_singleton.mp he]
      exact ⟨.inr ⟨hi, by rw [List.take_add_one, hj]; simp⟩, List.mem_of_getElem? hi, List.mem_of_getElem? hj, ne, n1, n2⟩
theorem SubP.len {zs : List Str} {i j : Nat} {ps : List ((Str × Str) × Int)} (S : SubP zs i j ps) : ps.length ≤ zs.length * zs.length := by
  have := pairs_len (ys := zs) S.nd fun e he => by
    obtain ⟨x, hx, rfl⟩ := List.mem_map.mp he
    exact ⟨(S.ks x hx).2.1, (S.ks x hx).2.2.1⟩
  rwa [List.length_map] at this
section
variable {P : Program} {w : World} {K : PySem.W.Frag} {mg : Str → Option Value} {base : Heap} {Cp Cc : Addr}
def spRates (K : PySem.W.Frag) : Sp := fun vs H Q _ => ∃ p l m zs, vs = [.ref p, .ref l, .int m] ∧ Pot H p ∧ l ≠ p ∧ SqL K H l (strsV zs) ∧ SgnOk zs ∧ 1 ≤ m ∧ m ≤ 9 ∧
  ∀ t A B S g o ps H', PrN zs zs g o ps → A ≠ B → H t = none → H A = none → H B = none → H S = none → Ex p H H' → H' t = some (.lst [.ref A, .ref B, .ref S]) → H' A = some (.dK (dkF zs g)) → H' B = some (.dK (dkF zs o)) → H' S = some (.dT (dtF ps)) → Q (.ref t) H'
abbrev N_law_rates : List Str := ["_law_cup_here", "_law_letters", "_law_most", "_law_wide", "_law_gains", "_law_one", "_law_losses", "_law_turns", "_law_other"]
theorem sc_law_rates : FnScope N_law_rates ["_law_cup_here", "_law_letters", "_law_most"] (defScope (top 37)) := ⟨rfl, rfl, rfl, by decide +kernel, rfl, by decide +kernel, by decide +kernel⟩
theorem c_law_rates (A : At K mg "_law_rates" (top 37)) (B : Blt mg) (c_law_toss : Cal P w K mg base 1 "_law_toss" spDip) (c_law_choice : Cal P w K mg base 2 "_law_choice" (spPick K)) : Cal P w K mg base 3 "_law_rates" (spRates K) := by
  refine cal_of A sc_law_rates (fun _ _ _ _ _ _ us hl => match us, hl with | [_, _, _], _ => rfl) (fun vs H Q E h => ?_) (fun _ cdv A outer s H vs Q E hr h => ?_)
  · obtain ⟨_, _, _, _, rfl, _⟩ := h; rfl
  · obtain ⟨p, l, m, zs, rfl, hp, nlp, hl, ok, m1, m9, hQ⟩ := h
    refine ⟨_, (pss_cons (ps_set (i := 3) sc_law_rates.nd rfl (Or.inr rfl) (pe_c c_law_choice hr (by decide) (by rfl) (pa_cons (pv 0) (pa_cons (pe_lst (pa_cons (pv 2) (pa_cons (pv 2) (pa_cons (pv 2) (pa_cons pe_int pa_nil))))) pa_nil))))
      (pss_cons (ps_set (i := 4) sc_law_rates.nd rfl (Or.inl rfl) (pe_callTy (call_dictP rfl) (by rfl) B.dict (by decide +kernel) (pa_cons (pe_lc (own := [("_law_one", 5)]) (g := gName 5) (tt := tYes) (by rfl) sc_law_rates.nd (pi_list (pv 1)) (blkOk_by (own := [("_law_one", 5)]) (N := N_law_rates) (sc := defScope (top 37)) (by decide +kernel)) (fun _ _ _ _ _ => (pg_name (i := 5) sc_law_rates.nd rfl (Or.inl rfl))) (fun _ _ _ _ _ => pts_nil) (fun _ _ _ _ _ => (pe_tup (pa_cons (pv 5) (pa_cons (pe_op op_add pe_int (pe_c c_law_toss hr (by decide) (by rfl) (pa_cons (pv 0) (pa_cons (pv 3) pa_nil)))) pa_nil))))) pa_nil)))
      (pss_cons (ps_par (i := 6) (j := 7) (by rfl) sc_law_rates.nd rfl rfl (by decide) rfl rfl (pa_cons (pe_callTy (call_dictP rfl) (by rfl) B.dict (by decide +kernel) (pa_cons (pe_lc (own := [("_law_one", 5)]) (g := gName 5) (tt := tYes) (by rfl) sc_law_rates.nd (pi_list (pv 1)) (blkOk_by (own := [("_law_one", 5)]) (N := N_law_rates) (sc := defScope (top 37)) (by decide +kernel)) (fun _ _ _ _ _ => (pg_name (i := 5) sc_law_rates.nd rfl (Or.inl rfl))) (fun _ _ _ _ _ => pts_nil) (fun _ _ _ _ _ => (pe_tup (pa_cons (pv 5) (pa_cons (pe_op op_add pe_int (pe_c c_law_toss hr (by decide) (by rfl) (pa_cons (pv 0) (pa_cons (pv 3) pa_nil)))) pa_nil))))) pa_nil)) (pa_cons pe_dnewT pa_nil)) (by rfl))
      (pss_cons (ps_for PassesOwn.never rfl (pi_list (pv 1)) (pg_name (i := 5) sc_law_rates.nd rfl (Or.inl rfl))
        (pss_one (ps_for PassesOwn.never rfl (pi_list (pv 1)) (pg_name (i := 8) sc_law_rates.nd rfl (Or.inl rfl))
          (pss_one (ps_if (PW.pt (pw_and (pt_cmpR op_ne (pv 5) (pv 8) (nomark _)) (pw_and1 (pt_cmpR op_gt (pe_c c_law_toss hr (by decide) (by rfl) (pa_cons (pv 0) (pa_cons pe_int pa_nil))) pe_int (nomark _)))))
            (pss_one (ps_dput (hu_of hr) (pv 7) (pe_tup (pa_cons (pv 5) (pa_cons (pv 8) pa_nil))) (pe_op op_add pe_int (pe_c c_law_toss hr (by decide) (by rfl) (pa_cons (pv 0) (pa_cons (pe_c c_law_choice hr (by decide) (by rfl) (pa_cons (pv 0) (pa_cons (pe_lst (pa_cons (pv 2) (pa_cons (pv 3) (pa_cons (pe_op op_mul pe_int (pv 3)) pa_nil)))) pa_nil))) pa_nil)))) (by rfl)))
            pss_nil)))))
      (pss_one (ps_ret (pe_lst (pa_cons (pv 4) (pa_cons (pv 6) (pa_cons (pv 7) pa_nil)))))))))), ?_⟩
    have two : 2 ≤ sizeLine := by decide
    have three : 3 ≤ sizeLine := by decide
    have big : 100000 < sizeLine := by decide
    have nd := ok.nodup
    have l5 := ok.le
    -- wide
    refine ⟨_, rfl, _, rfl, _, rfl, _, rfl, (by show 4 ≤ sizeLine; decide), fun q0 hq0 => ?_⟩
    have nq0 : q0 ≠ p := by obtain ⟨_, _, _, e⟩ := hp; exact (ne_of_none e hq0).symm
    have ex0 : Ex p H (upd H q0 (.lst [.int m, .int m, .int m, .int 9])) := (Ex.refl hp).new hq0
    refine ⟨p, q0, _, rfl, ex0.pot, nq0, SqL.of upd_same, (by show 0 < 4; decide), (by show 4 < 100000; decide), fun v a' b' c' hv => ?_⟩
    obtain ⟨W, rfl, W1, W9⟩ : ∃ W : Int, v = .int W ∧ 1 ≤ W ∧ W ≤ 9 := by
      have : v = .int m ∨ v = .int 9 := by simpa using hv
      rcases this with rfl | rfl
      · exact ⟨m, rfl, m1, m9⟩
      · exact ⟨9, rfl, by decide, by decide⟩
    have ex1 : Ex p H (upd (upd H q0 (.lst [.int m, .int m, .int m, .int 9])) p (potO a' b' c')) := ex0.trans Ex.turn
    generalize upd (upd H q0 (.lst [.int m, .int m, .int m, .int 9])) p (potO a' b' c') = H1 at ex1 ⊢
    -- gains
    have tossing : ∀ {H2 : Hp} {z : Str} {Q : VK}, Pot H2 p → (∀ n H3 T, 1 ≤ n → n ≤ W → Ex p H2 H3 → H3 T = none → Q (.ref T) (upd H3 T (.tup [.str z, .int n]))) → ∃ a b c, H2 p = some (potO a b c) ∧ ∀ r a' b' c', 0 ≤ r → r < W → ∀ T, upd H2 p (potO a' b' c') T = none → Q (.ref T) (upd (upd H2 p (potO a' b' c')) T (.tup [.str z, .int (1 + r)])) := fun {H2 z Q} hp2 hq => by
      obtain ⟨a, b, c, e⟩ := hp2
      exact ⟨a, b, c, e, fun r a' b' c' r0 r1 T hT => hq (1 + r) _ T (by omega) (by omega) Ex.turn hT⟩
    refine ⟨_, rfl, l, rfl, ⟨_, ex1.seqL hl nlp⟩, fun D hD => ?_⟩
    refine lc_draws (W := W) (ex1.seqL hl nlp) nlp nd (by omega) ex1.pot hD (fun _ _ => rfl) (fun z hz H2 ex2 Q q => ?_) (fun H2 ts g ex2 hD2 gb pr => ?_)
    · obtain ⟨a, b, c, e, go⟩ := tossing ex2.pot q
      exact ⟨_, rfl, _, rfl, _, rfl, p, W, a, b, c, rfl, e, by omega, by omega, fun r a' b' c' r0 r1 => ⟨_, _, rfl, rfl, two, fun T hT => go r a' b' c' r0 r1 T hT⟩⟩
    refine ⟨D, ts, _, rfl, SqL.of hD2, pr, fun GA hGA => ?_⟩
    rw [show mergeK [] (dkF zs g) = dkF zs g from mergeK_nodup (more := dkF zs g) [] (dkF_nodup nd g)]
    have ex3 : Ex p H (upd H2 GA (.dK (dkF zs g))) := (ex1.trans ex2).new hGA
    have hG3 : upd H2 GA (.dK (dkF zs g)) GA = some (.dK (dkF zs g)) := upd_same
    have fGA : H GA = none := (ex1.trans ex2).free hp hGA
    generalize upd H2 GA (.dK (dkF zs g)) = H3 at ex3 hG3 ⊢
    clear ex2 hD2 pr hD
    -- losses
    refine ⟨_, rfl, l, rfl, ⟨_, ex3.seqL hl nlp⟩, fun D hD => ?_⟩
    refine lc_draws (W := W) (ex3.seqL hl nlp) nlp nd (by omega) ex3.pot hD (fun _ _ => rfl) (fun z hz H2 ex2 Q q => ?_) (fun H4 ts o ex4 hD2 ob pr => ?_)
    · obtain ⟨a, b, c, e, go⟩ := tossing ex2.pot q
      exact ⟨_, rfl, _, rfl, _, rfl, p, W, a, b, c, rfl, e, by omega, by omega, fun r a' b' c' r0 r1 => ⟨_, _, rfl, rfl, two, fun T hT => go r a' b' c' r0 r1 T hT⟩⟩
    refine ⟨D, ts, _, rfl, SqL.of hD2, pr, fun GB hGB => ?_⟩
    rw [show mergeK [] (dkF zs o) = dkF zs o from mergeK_nodup (more := dkF zs o) [] (dkF_nodup nd o)]
    have nGp : GA ≠ p := by obtain ⟨_, _, _, e⟩ := hp; exact (ne_of_none e fGA).symm
    have hG4 := ex4.keep _ _ nGp hG3
    have nAB : GA ≠ GB := ne_of_none hG4 hGB
    have ex5 : Ex p H (upd H4 GB (.dK (dkF zs o))) := (ex3.trans ex4).new hGB
    have hG5 : upd H4 GB (.dK (dkF zs o)) GA = some (.dK (dkF zs g)) := by rw [upd_ne nAB]; exact hG4
    have hB5 : upd H4 GB (.dK (dkF zs o)) GB = some (.dK (dkF zs o)) := upd_same
    have fGB : H GB = none := (ex3.trans ex4).free hp hGB
    have nBp : GB ≠ p := by obtain ⟨_, _, _, e⟩ := hp; exact (ne_of_none e fGB).symm
    generalize upd H4 GB (.dK (dkF zs o)) = H5 at ex5 hG5 hB5 ⊢
    clear ex4 hD2 pr hD hG4
    -- turns
    refine fun S hS => ⟨_, _, rfl, ?_⟩
    have fS : H S = none := ex5.free hp hS
    have nSp : S ≠ p := by obtain ⟨_, _, _, e⟩ := hp; exact (ne_of_none e fS).symm
    have ex6 : Ex p H (upd H5 S (.dT [])) := ex5.new hS
    have f6 := same_new (o := .dT []) hS
    have hS6 : upd H5 S (.dT []) S = some (.dT (dtF [])) := upd_same
    have hG6 := f6 _ _ hG5
    have hB6 := f6 _ _ hB5
    have nGS : GA ≠ S := ne_of_none hG5 hS
    have nBS : GB ≠ S := ne_of_none hB5 hS
    generalize upd H5 S (.dT []) = H6 at ex6 hS6 hG6 hB6 ⊢
    clear f6
    have lz : (strsV zs).length = zs.length := by simp [strsV]
    have keepS : ∀ {H' : Hp} {ps : List ((Str × Str) × Int)} {i j : Nat}, SubP zs i j ps → (dtF ps).length < sizeLine := fun S => by
      have := S.len
      have : zs.length * zs.length ≤ 5 * 5 := Nat.mul_le_mul l5 l5
      simp [dtF]
      omega
    refine ⟨_, rfl, l, rfl, ⟨_, ex6.seqL hl nlp⟩, for_it walk_list (fun i σ H' => (∃ o5 o8, σ = [some (.ref p), some (.ref l), some (.int m), some (.int W), some (.ref GA), o5, some (.ref GB), some (.ref S), o8]) ∧ Ex p H H' ∧ H' GA = some (.dK (dkF zs g)) ∧ H' GB = some (.dK (dkF zs o)) ∧ ∃ ps, H' S = some (.dT (dtF ps)) ∧ SubP zs i 0 ps) ⟨⟨_, _, rfl⟩, ex6, hG6, hB6, [], hS6, by simp, by simp⟩ (fun i σ H' _ e => e.2.1.seqL hl nlp) (fun i y σ Ha Hb hi e hy => ?_) (fun σ H7 e => ?_)⟩
    · obtain ⟨rfl, hy⟩ := hy
      obtain ⟨⟨o5, o8, rfl⟩, exa, hGa, hBa, ps, hSa, SP⟩ := e
      have hy' : (zs.map V.str)[i]? = some y := hy
      rw [List.getElem?_map] at hy'
      obtain ⟨x, hx, rfl⟩ := Option.map_eq_some_iff.mp hy'
      refine ⟨_, rfl, l, rfl, ⟨_, exa.seqL hl nlp⟩, for_it walk_list (fun j σ H' => (∃ o8, σ = [some (.ref p), some (.ref l), some (.int m), some (.int W), some (.ref GA), some (.str x), some (.ref GB), some (.ref S), o8]) ∧ Ex p H H' ∧ H' GA = some (.dK (dkF zs g)) ∧ H' GB = some (.dK (dkF zs o)) ∧ ∃ ps, H' S = some (.dT (dtF ps)) ∧ SubP zs i j ps) ⟨⟨_, rfl⟩, exa, hGa, hBa, ps, hSa, SP⟩ (fun i σ H' _ e => e.2.1.seqL hl nlp) (fun j y σ Ha Hc hj e hy => ?_) (fun σ H8 e => ?_)⟩
      · obtain ⟨rfl, hy⟩ := hy
        clear exa hGa hBa hSa SP
        obtain ⟨⟨o8, rfl⟩, exa, hGa, hBa, ps, hSa, SP⟩ := e
        have hy2 : (zs.map V.str)[j]? = some y := hy
        rw [List.getElem?_map] at hy2
        obtain ⟨y, hy3, rfl⟩ := Option.map_eq_some_iff.mp hy2
        refine ⟨_, rfl, _, rfl, rfl, _, rfl, ?_⟩
        by_cases ne : x = y
        · rw [show (!decide (V.str x = V.str y)) = false by simp [ne]]
          exact iteF (iteF ⟨⟨_, rfl⟩, exa, hGa, hBa, ps, hSa, SP.next⟩)
        · rw [show (!decide (V.str x = V.str y)) = true by simp [ne]]
          obtain ⟨a, b, c, ep⟩ := exa.pot
          refine iteT ⟨_, rfl, p, 3, a, b, c, rfl, ep, by decide, by decide, fun r a' b' c' r0 r1 => ⟨_, _, rfl, rfl, _, rfl, ?_⟩⟩
          have exb := exa.trans (Ex.turn (p := p) (H := Hc) (a := a') (b := b') (c := c'))
          have hGb : upd Hc p (potO a' b' c') GA = some (.dK (dkF zs g)) := by rw [upd_ne nGp]; exact hGa
          have hBb : upd Hc p (potO a' b' c') GB = some (.dK (dkF zs o)) := by rw [upd_ne nBp]; exact hBa
          have hSb : upd Hc p (potO a' b' c') S = some (.dT (dtF ps)) := by rw [upd_ne nSp]; exact hSa
          generalize upd Hc p (potO a' b' c') = Hd at exb hGb hBb hSb ⊢
          refine ite2 (fun _ => ?_) (fun _ => ⟨⟨_, rfl⟩, exb, hGb, hBb, ps, hSb, SP.next⟩)
          refine ⟨_, rfl, _, rfl, _, rfl, _, rfl, _, rfl, _, _, rfl, rfl, .inl ⟨by decide, by decide⟩, three, fun q1 hq1 => ?_⟩
          have f1 := same_new (o := .lst [.int m, .int W, .int (2 * W)]) hq1
          have exc := exb.same f1
          have nq1 : q1 ≠ p := by obtain ⟨_, _, _, e⟩ := exb.pot; exact (ne_of_none e hq1).symm
          refine ⟨p, q1, _, rfl, exc.pot, nq1, SqL.of upd_same, (by show 0 < 3; decide), (by show 3 < 100000; decide), fun v a2 b2 c2 hv => ?_⟩
          obtain ⟨X, rfl, X1, X18⟩ : ∃ X : Int, v = .int X ∧ 1 ≤ X ∧ X ≤ 18 := by
            have : v = .int m ∨ v = .int W ∨ v = .int (2 * W) := by simpa using hv
            rcases this with rfl | rfl | rfl
            · exact ⟨_, rfl, by omega, by omega⟩
            · exact ⟨_, rfl, by omega, by omega⟩
            · exact ⟨_, rfl, by omega, by omega⟩
          have hGc := f1 _ _ hGb
          have hBc := f1 _ _ hBb
          have hSc := f1 _ _ hSb
          generalize upd Hd q1 (.lst [.int m, .int W, .int (2 * W)]) = He at exc hGc hBc hSc ⊢
          refine ⟨p, X, a2, b2, c2, rfl, upd_same, by omega, by omega, fun r2 a3 b3 c3 r20 r21 => ⟨_, _, rfl, rfl, ?_⟩⟩
          have exd := (exc.trans (Ex.turn (p := p) (H := He) (a := a2) (b := b2) (c := c2))).trans (Ex.turn (p := p) (a := a3) (b := b3) (c := c3))
          have hGd : upd (upd He p (potO a2 b2 c2)) p (potO a3 b3 c3) GA = some (.dK (dkF zs g)) := by rw [upd_ne nGp, upd_ne nGp]; exact hGc
          have hBd : upd (upd He p (potO a2 b2 c2)) p (potO a3 b3 c3) GB = some (.dK (dkF zs o)) := by rw [upd_ne nBp, upd_ne nBp]; exact hBc
          have hSd : upd (upd He p (potO a2 b2 c2)) p (potO a3 b3 c3) S = some (.dT (dtF ps)) := by rw [upd_ne nSp, upd_ne nSp]; exact hSc
          generalize upd (upd He p (potO a2 b2 c2)) p (potO a3 b3 c3) = Hf at exd hGd hBd hSd ⊢
          refine ⟨_, rfl, _, rfl, _, rfl, two, fun t ht => ?_⟩
          have f2 := same_new (o := .tup [.str x, .str y]) ht
          obtain ⟨SP2, nw⟩ := SP.new (n := 1 + r2) nd hx hy3 ne (by omega) (by omega)
          refine ⟨S, _, rfl, .inr ⟨_, [.inr x, .inr y], t, f2 _ _ hSd, rfl, upd_same, keepS (H' := Hf) SP, rfl⟩, ⟨_, rfl⟩, (exd.same f2).put fS nSp, ?_, ?_, ps ++ [((x, y), 1 + r2)], ?_, SP2⟩
          · rw [upd_ne nGS]; exact f2 _ _ hGd
          · rw [upd_ne nBS]; exact f2 _ _ hBd
          · rw [upd_same, dtF_new nw]
      · obtain ⟨⟨o8, rfl⟩, exb, hGb, hBb, ps, hSb, SP⟩ := e
        exact ⟨⟨_, _, rfl⟩, exb, hGb, hBb, ps, hSb, SP.row⟩
    · obtain ⟨⟨o5, o8, rfl⟩, exb, hGb, hBb, ps, hSb, SP⟩ := e
      refine ⟨_, rfl, _, rfl, _, rfl, three, fun t ht => ?_⟩
      have f2 := same_new (o := .lst [.ref GA, .ref GB, .ref S]) ht
      refine hQ t GA GB S g o ps _ ⟨ok.one, nd, ok.pos, l5, List.Perm.refl _, fun z hz => ⟨(gb z hz).1, by have := (gb z hz).2; omega⟩, fun z hz => ⟨(ob z hz).1, by have := (ob z hz).2; omega⟩, SP.nd, fun e he => (SP.ks e he).2, ?_⟩ nAB (exb.free hp ht) fGA fGB fS (exb.same f2) upd_same (f2 _ _ hGb) (f2 _ _ hBb) (f2 _ _ hSb)
      have := SP.len
      have : zs.length * zs.length ≤ 5 * 5 := Nat.mul_le_mul l5 l5
      omega
end
end MN
/-! priced; all words up to a length; slices of words -/
namespace MN
open PySem PySem.Spec PyProof.Rows L2
/-- a drawn table: the dicts of put, out and swap prices -/
structure TblAt (H : Hp) (t : Addr) (zs : List Str) (g o : Str → Int) (ps : List ((Str × Str) × Int)) (A B S : Addr) : Prop where
  t : H t = some (.lst [.ref A, .ref B, .ref S])
  a : H A = some (.dK (dkF zs g))
  b : H B = some (.dK (dkF zs o))
  s : H S = some (.dT (dtF ps))
theorem TblAt.same {H H' : Hp} {t A B S : Addr} {zs : List Str} {g o : Str → Int} {ps : List ((Str × Str) × Int)} (h : TblAt H t zs g o ps A B S) (e : Same H H') : TblAt H' t zs g o ps A B S := ⟨e _ _ h.t, e _ _ h.a, e _ _ h.b, e _ _ h.s⟩
theorem boot_list0 : bootBuiltins "list" = some (.type "list") := by decide +kernel
def wordsV (ws : List (List Nat)) : List V := ws.map fun u => V.str (wS u)
def lvlU (L : List Nat) : Nat → List (List Nat)
  | 0 => [[]]
  | n + 1 => (lvlU L n).flatMap fun u => L.map fun a => u ++ [a]
def allU (L : List Nat) (n : Nat) : List (List Nat) := (List.range (n + 1)).flatMap (lvlU L)
theorem mem_lvlU {L : List Nat} : ∀ {n : Nat} {u : List Nat}, u ∈ lvlU L n ↔ u.length = n ∧ ∀ a ∈ u, a ∈ L
  | 0, u => by
    simp only [lvlU, List.mem_singleton]
    constructor
    · rintro rfl; simp
    · rintro ⟨h, _⟩; exact List.eq_nil_of_length_eq_zero h
  | n + 1, u => by
    simp only [lvlU, List.mem_flatMap, List.mem_map]
    constructor
    · rintro ⟨v, hv, a, ha, rfl⟩
      obtain ⟨h1, h2⟩ := mem_lvlU.mp hv
      refine ⟨by simp [h1], fun b hb => ?_⟩
      rcases List.mem_append.mp hb with hb | hb
      · exact h2 b hb
      · rw [List.mem_singleton.mp hb]; exact ha
    · rintro ⟨h1, h2⟩
      have hne : u ≠ [] := fun e => by rw [e] at h1; simp at h1
      refine ⟨u.dropLast, mem_lvlU.mpr ⟨by simp [h1], fun a ha => h2 a (List.dropLast_subset _ ha)⟩, u.getLast hne, h2 _ (List.getLast_mem hne), List.dropLast_concat_getLast hne⟩
theorem mem_allU {L : List Nat} {n : Nat} {u : List Nat} : u ∈ allU L n ↔ u.length ≤ n ∧ ∀ a ∈ u, a ∈ L := by
  unfold allU
  rw [List.mem_flatMap]
  constructor
  · rintro ⟨k, hk, hu⟩
    have := List.mem_range.mp hk
    obtain ⟨h1, h2⟩ := mem_lvlU.mp hu
    exact ⟨by omega, h2⟩
  · rintro ⟨h1, h2⟩
    exact ⟨u.length, List.mem_range.mpr (by omega), mem_lvlU.mpr ⟨rfl, h2⟩⟩
theorem flatMap_const {α β : Type} {f : α → List β} {k : Nat} : ∀ {l : List α}, (∀ a ∈ l, (f a).length = k) → (l.flatMap f).length = l.length * k
  | [], _ => by simp
  | a :: l, h => by
    rw [List.flatMap_cons, List.length_append, h a List.mem_cons_self, flatMap_const fun b hb => h b (List.mem_cons_of_mem _ hb), List.length_cons, Nat.succ_mul]
    omega
theorem lvlU_len {L : List Nat} : ∀ n, (lvlU L n).length = L.length ^ n
  | 0 => rfl
  | n + 1 => by
    show ((lvlU L n).flatMap fun u => L.map fun a => u ++ [a]).length = _
    rw [flatMap_const (k := L.length) fun u _ => by simp, lvlU_len n, Nat.pow_succ]
theorem lvlU_le {L : List Nat} (h : L.length ≤ 3) {n : Nat} (hn : n ≤ 8) : (lvlU L n).length ≤ 6561 := by
  rw [lvlU_len]
  exact Nat.le_trans (Nat.pow_le_pow_left h n) (Nat.le_trans (Nat.pow_le_pow_right (by decide) hn) (by decide))
theorem allU_succ {L : List Nat} {n : Nat} : allU L (n + 1) = allU L n ++ lvlU L (n + 1) := by
  unfold allU
  rw [List.range_succ (n := n + 1), List.flatMap_append]
  simp
theorem allU_le {L : List Nat} (h : L.length ≤ 3) : ∀ {n : Nat}, n ≤ 8 → (allU L n).length ≤ (n + 1) * 6561
  | 0, _ => by simp [allU, lvlU]
  | n + 1, hn => by
    rw [allU_succ, List.length_append]
    have h1 := allU_le h (n := n) (by omega)
    have h2 := lvlU_le h hn
    omega
section
variable {P : Program} {w : World} {K : PySem.W.Frag} {mg : Str → Option Value} {base : Heap} {Cp Cc : Addr}
/-! ### _law_priced -/
def spPriced (Cp : Addr) : Sp := fun vs H Q _ => ∃ t A B S zs g o ps, vs = [.ref t] ∧ TblAt H t zs g o ps A B S ∧ PrN zs zs g o ps ∧
  ∀ x dx ys ys2 qs H', Same H H' → PrAt Cp H' x dx ys ys2 g o qs → PrN ys ys2 g o qs → ys.Perm zs → qs.Perm ps → Q (.ref x) H'
theorem sc_law_priced : FnScope ["_law_table"] ["_law_table"] (defScope (top 38)) := ⟨rfl, rfl, rfl, by decide +kernel, rfl, by decide +kernel, by decide +kernel⟩
theorem c_law_priced (A : At K mg "_law_priced" (top 38)) (B : Blt mg) (PC : PrC K mg Cp Cc) (c_are_prices : Cal P w K mg base 3 "are_prices" spAreP) : Cal P w K mg base 6 "_law_priced" (spPriced Cp) := by
  obtain ⟨fi, fdi, M, Fi⟩ := PC.ip
  refine cal_of A sc_law_priced (fun _ _ _ _ _ _ us hl => match us, hl with | [_], _ => rfl) (fun vs H Q E h => ?_) (fun _ cdv A outer s H vs Q E hr h => ?_)
  · obtain ⟨_, _, _, _, _, _, _, _, rfl, _⟩ := h; rfl
  · obtain ⟨t, TA, TB, TS, zs, g, o, ps, rfl, T, N, hQ⟩ := h
    refine ⟨_, pss_one (ps_ret (pe_makeKG M (f_pinit (P := P) (w := w) (mg := mg) (base := base) PC.sp Fi B c_are_prices) (hr.mono (by decide)) (by rfl) PC.gp (kb_pinit Fi) pass0
      (pk_cons (pe_callTy call_dictD (by rfl) B.dict (by decide +kernel) (pa_cons (pe_ix ix_list (pv 0) pe_int (fun _ _ => rfl)) pa_nil)) (pk_cons (pe_callTy call_dictD (by rfl) B.dict (by decide +kernel) (pa_cons (pe_ix ix_list (pv 0) pe_int (fun _ _ => rfl)) pa_nil)) (pk_cons (pe_callTy (call_dictPT rfl hr.units) (by rfl) B.dict (by decide +kernel) (pa_cons (pe_listItemsT rfl (pe_ix ix_list (pv 0) pe_int (fun _ _ => rfl)) (by rfl) B.list boot_list0) pa_nil)) pk_nil))))), ?_⟩
    refine ⟨_, rfl, t, _, _, _, rfl, rfl, SqL.of T.t, rfl, TA, _, rfl, .inl T.a, fun d1 h1 => ?_⟩
    have e1 := same_new (o := .dK (dkF zs g)) h1
    have T1 := T.same e1
    have d1a : upd H d1 (.dK (dkF zs g)) d1 = some (.dK (dkF zs g)) := upd_same
    generalize upd H d1 (.dK (dkF zs g)) = H1 at e1 T1 d1a ⊢
    refine ⟨_, rfl, t, _, _, _, rfl, rfl, SqL.of T1.t, rfl, TB, _, rfl, .inl T1.b, fun d2 h2 => ?_⟩
    have e2 := same_new (o := .dK (dkF zs o)) h2
    have T2 := T1.same e2
    have d2a : upd H1 d2 (.dK (dkF zs o)) d2 = some (.dK (dkF zs o)) := upd_same
    have d1b := e2 _ _ d1a
    have n12 : d1 ≠ d2 := ne_of_none d1a h2
    generalize upd H1 d2 (.dK (dkF zs o)) = H2 at e2 T2 d2a d1b ⊢
    refine ⟨_, rfl, t, _, _, _, rfl, rfl, SqL.of T2.t, rfl, TS, _, rfl, T2.s, fun H3 q ts e3 _ hq hpr => ⟨q, ts, _, rfl, hq, hpr, dtF_nodup N.sn, fun d3 h3 => ?_⟩⟩
    have e4 := e3.trans (same_new (o := .dT (dtF ps)) h3)
    have d3a : upd H3 d3 (.dT (dtF ps)) d3 = some (.dT (dtF ps)) := upd_same
    have d1c := e4 _ _ d1b
    have d2c := e4 _ _ d2a
    have e5 := (e1.trans e2).trans e4
    generalize upd H3 d3 (.dT (dtF ps)) = H4 at e5 d3a d1c d2c ⊢
    refine ⟨rfl, rfl, fun y dy hy hdy n => ?_⟩
    have nx : ∀ b u, H4 b = some u → b ≠ y ∧ b ≠ dy := fun b u e => ⟨ne_of_none e hy, ne_of_none e hdy⟩
    have up : ∀ b u, H4 b = some u → upd (upd H4 dy (.own y)) y (.ins Cp dy []) b = some u := fun b u e => by
      rw [upd_ne (nx b u e).1, upd_ne (nx b u e).2]; exact e
    refine ⟨y, dy, d1, d2, d3, zs, zs, g, o, ps, rfl, upd_same, by rw [upd_ne n, upd_same], n, up _ _ d1c, up _ _ d2c, up _ _ d3a, n12, N, fun H6 ys ys2 qs k2 hP2 N2 pm _ pq => ⟨rfl, hQ y dy ys ys2 qs H6 (fun b u z => ?_) hP2 N2 pm pq⟩⟩
    have z1 := e5 _ _ z
    exact k2 b u (nx _ _ z1).1 (nx _ _ z1).2 (up _ _ z1)
/-! ### _law_listed_words -/
def spListed (K : PySem.W.Frag) : Sp := fun vs H Q _ => ∃ l n zs, vs = [.ref l, .int (n : Nat)] ∧ SqL K H l (strsV zs) ∧ (∀ z ∈ zs, ∃ c ∈ ("abcde" : Str).cps.toList, z = ⟨#[c]⟩) ∧ zs.length ≤ 3 ∧ n ≤ 8 ∧
  ∀ F H', H F = none → Same H H' → H' F = some (.lst (wordsV (allU (codesOf zs) n))) → Q (.ref F) H'
abbrev N_law_listed_words : List Str := ["_law_letters", "_law_most", "_law_found", "_law_level", "_law_turn", "_law_wider", "_law_word", "_law_sign"]
theorem sc_law_listed_words : FnScope N_law_listed_words ["_law_letters", "_law_most"] (defScope (top 39)) := ⟨rfl, rfl, rfl, by decide +kernel, rfl, by decide +kernel, by decide +kernel⟩
theorem c_law_listed_words (A : At K mg "_law_listed_words" (top 39)) (B : Blt mg) : Cal P w K mg base 1 "_law_listed_words" (spListed K) := by
  refine cal_of A sc_law_listed_words (fun _ _ _ _ _ _ us hl => match us, hl with | [_, _], _ => rfl) (fun vs H Q E h => ?_) (fun _ cdv A outer s H vs Q E hr h => ?_)
  · obtain ⟨_, _, _, rfl, _⟩ := h; rfl
  · obtain ⟨l, n, zs, rfl, hl, sg, l3, n8, hQ⟩ := h
    refine ⟨_, (pss_cons (ps_par (i := 2) (j := 3) (by rfl) sc_law_listed_words.nd rfl rfl (by decide) rfl rfl (pa_cons (pe_lst (pa_cons pe_str pa_nil)) (pa_cons (pe_lst (pa_cons pe_str pa_nil)) pa_nil)) (by rfl))
      (pss_cons (ps_for PassesOwn.never rfl (pi_range1 (by rfl) B.range (pa_cons (pv 1) pa_nil)) (pg_name (i := 4) sc_law_listed_words.nd rfl (Or.inl rfl))
        (pss_cons (ps_set (i := 5) sc_law_listed_words.nd rfl (Or.inl rfl) (pe_lst pa_nil))
        (pss_cons (ps_for PassesOwn.never rfl (pi_list (pv 3)) (pg_name (i := 6) sc_law_listed_words.nd rfl (Or.inr rfl))
          (pss_one (ps_set (i := 5) sc_law_listed_words.nd rfl (Or.inl rfl) (pe_op op_cat (pv 5) (pe_lc (own := [("_law_sign", 7)]) (g := gName 7) (tt := tYes) (by rfl) sc_law_listed_words.nd (pi_list (pv 0)) (blkOk_by (own := [("_law_sign", 7)]) (N := N_law_listed_words) (sc := defScope (top 39)) (by decide +kernel)) (fun _ _ _ _ _ => (pg_name (i := 7) sc_law_listed_words.nd rfl (Or.inl rfl))) (fun _ _ _ _ _ => pts_nil) (fun _ _ _ _ _ => (pe_op op_add_str (pv 6) (pv 7))))))))
        (pss_one (ps_par (i := 2) (j := 3) (by rfl) sc_law_listed_words.nd rfl rfl (by decide) rfl rfl (pa_cons (pe_op op_cat (pv 2) (pv 5)) (pa_cons (pv 5) pa_nil)) (by rfl))))))
      (pss_one (ps_ret (pv 2))))), ?_⟩
    have one : 1 ≤ sizeLine := by decide
    have big : 100000 < sizeLine := by decide
    have lc : (codesOf zs).length ≤ 3 := by simpa [codesOf] using l3
    refine ⟨one, fun F hF => ⟨one, fun Vl hV => ⟨_, _, rfl, ?_⟩⟩⟩
    have e1 := (same_new (o := .lst [.str ""]) hF).trans (same_new (o := .lst [.str ""]) hV)
    have hF1 : upd (upd H F (.lst [.str ""])) Vl (.lst [.str ""]) F = some (.lst (wordsV (allU (codesOf zs) 0))) := by
      rw [upd_ne (ne_of_none upd_same hV), upd_same]; rfl
    have hV1 : upd (upd H F (.lst [.str ""])) Vl (.lst [.str ""]) Vl = some (.lst (wordsV (lvlU (codesOf zs) 0))) := by
      rw [upd_same]; rfl
    refine ⟨_, rfl, _, rfl, (by omega), (by omega), for_it (walk_range (lo := 0)) (fun i σ H' => (∃ F Vl o4 o5 o6, σ = [some (.ref l), some (.int (n : Nat)), some (.ref F), some (.ref Vl), o4, o5, o6, none] ∧ H F = none ∧ H' F = some (.lst (wordsV (allU (codesOf zs) i))) ∧ H' Vl = some (.lst (wordsV (lvlU (codesOf zs) i)))) ∧ Same H H') ⟨⟨F, Vl, _, _, _, rfl, hF, hF1, hV1⟩, e1⟩ (fun _ _ _ _ _ => trivial) (fun i y σ Ha Hb hi e hy => ?_) (fun σ H2 e => ?_)⟩
    · obtain ⟨rfl, rfl⟩ := hy
      obtain ⟨⟨F, Vl, o4, o5, o6, rfl, fF, hFa, hVa⟩, ea⟩ := e
      have hi8 : i < 8 := by
        have : i < (n : Int).toNat := hi
        omega
      refine ⟨Nat.zero_le _, fun W hW => ?_⟩
      have f1 := same_new (o := .lst []) hW
      have hFb := f1 _ _ hFa
      have hVb := f1 _ _ hVa
      have eb := ea.trans f1
      have hWb : upd Hb W (.lst []) W = some (.lst (wordsV (((lvlU (codesOf zs) i).take 0).flatMap fun u => (codesOf zs).map fun a => u ++ [a]))) := by
        rw [upd_same]; rfl
      generalize upd Hb W (.lst []) = Hc at hFb hVb eb hWb ⊢
      refine ⟨_, rfl, Vl, rfl, ⟨_, SqL.of hVb⟩, for_it walk_list (fun j σ H' => (∃ W o6, σ = [some (.ref l), some (.int (n : Nat)), some (.ref F), some (.ref Vl), some (.int ((0 : Nat) + i)), some (.ref W), o6, none] ∧ H' W = some (.lst (wordsV (((lvlU (codesOf zs) i).take j).flatMap fun u => (codesOf zs).map fun a => u ++ [a])))) ∧ Same Hc H') ⟨⟨W, _, rfl, hWb⟩, Same.refl _⟩ (fun j σ H' _ e => SqL.of (e.2 _ _ hVb)) (fun j y σ Ha Hd hj e hy => ?_) (fun σ H3 e => ?_)⟩
      · obtain ⟨rfl, hy⟩ := hy
        obtain ⟨⟨W, o6, rfl, hWd⟩, ed⟩ := e
        unfold wordsV at hy
        rw [List.getElem?_map] at hy
        obtain ⟨u, hu, rfl⟩ := Option.map_eq_some_iff.mp hy
        obtain ⟨lu, _⟩ := mem_lvlU.mp (List.mem_of_getElem? hu)
        have hld := Same.seq (eb.trans ed) hl
        refine ⟨_, rfl, _, rfl, l, rfl, ⟨_, hld⟩, fun D hD => ?_⟩
        refine lc_lst hld hD (by simp [strsV]; omega) (fun _ => true) (fun x => match x with | .str z => .str (wS u ++ z) | x => x) (fun _ _ => rfl) (fun _ _ _ _ q => q) (fun x hx _ acc Q q => ?_) ?_
        · obtain ⟨z, hz, rfl⟩ := List.mem_map.mp hx
          exact ⟨_, rfl, _, rfl, _, _, rfl, rfl, by rw [wS_len, lu, len_one (sg z hz)]; omega, q⟩
        · have ev : ((strsV zs).filter fun _ => true).map (fun x => match x with | V.str z => V.str (wS u ++ z) | x => x) = wordsV ((codesOf zs).map fun a => u ++ [a]) := by
            rw [filter_all]
            unfold strsV wordsV
            conv => lhs; rw [← codes_sg sg]
            rw [List.map_map, List.map_map, List.map_map]
            refine List.map_congr_left fun a _ => ?_
            show V.str (wS u ++ sgS a) = V.str (wS (u ++ [a]))
            rw [← wS_app]; rfl
          rw [ev]
          have f2 := same_new (o := .lst (wordsV ((codesOf zs).map fun a => u ++ [a]))) hD
          have bnd : (lvlU (codesOf zs) i).length ≤ 6561 := lvlU_le lc (by omega)
          have hj' : j < (lvlU (codesOf zs) i).length := by simpa [wordsV] using hj
          have pl : (((lvlU (codesOf zs) i).take j).flatMap fun u => (codesOf zs).map fun a => u ++ [a]).length ≤ 6561 * 3 := by
            rw [flatMap_const (k := (codesOf zs).length) fun u _ => by simp]
            refine Nat.mul_le_mul ?_ lc
            rw [List.length_take]; omega
          refine ⟨W, D, _, _, rfl, rfl, f2 _ _ hWd, upd_same, ?_, fun W2 hW2 => ?_⟩
          · unfold wordsV
            rw [List.length_map, List.length_map, List.length_map]
            omega
          · refine ⟨⟨W2, _, rfl, ?_⟩, (ed.trans f2).trans (same_new hW2)⟩
            rw [upd_same, List.take_add_one, hu, List.flatMap_append]
            simp [wordsV]
      · obtain ⟨⟨W, o6, rfl, hWd⟩, ed⟩ := e
        have lw : (wordsV (lvlU (codesOf zs) i)).length = (lvlU (codesOf zs) i).length := by simp [wordsV]
        rw [lw, List.take_length] at hWd
        have hWd' : H3 W = some (.lst (wordsV (lvlU (codesOf zs) (i + 1)))) := hWd
        refine ⟨_, rfl, _, rfl, F, W, _, _, rfl, rfl, ed _ _ hFb, hWd', ?_, fun F2 hF2 => ⟨_, rfl, _, _, rfl, ?_⟩⟩
        · unfold wordsV
          rw [List.length_map, List.length_map]
          have h1 := allU_le lc (n := i) (by omega)
          have h2 := lvlU_le lc (n := i + 1) (by omega)
          have : (i + 1) * 6561 ≤ 8 * 6561 := Nat.mul_le_mul_right _ (by omega)
          omega
        · have f3 := same_new (o := .lst (wordsV (allU (codesOf zs) i) ++ wordsV (lvlU (codesOf zs) (i + 1)))) hF2
          refine ⟨⟨F2, W, _, _, _, rfl, (eb.trans ed).free hF2, ?_, f3 _ _ hWd'⟩, (eb.trans ed).trans f3⟩
          rw [upd_same, allU_succ]
          simp [wordsV]
    · obtain ⟨⟨F, Vl, o4, o5, o6, rfl, fF, hFa, hVa⟩, ea⟩ := e
      have en : (n : Int).toNat = n := by omega
      rw [en] at hFa
      exact ⟨_, rfl, hQ F H2 fF ea hFa⟩
end
end MN
/-! _law_nearby -/
namespace MN
open PySem PySem.Spec PyProof.Rows L2
theorem cutTo (u : List Nat) {k : Nat} (h : k ≤ u.length) : cutS (wS u) none (some (k : Int)) = wS (u.take k) := by
  unfold cutS
  rw [HT.sIx_none, HT.sIx_nat, wS_len, wS_cps, Nat.min_eq_left h]
  rfl
theorem cutFrom (u : List Nat) {k : Nat} (h : k ≤ u.length) : cutS (wS u) (some (k : Int)) none = wS (u.drop k) := by
  unfold cutS
  rw [HT.sIx_none, HT.sIx_nat, wS_len, wS_cps, Nat.min_eq_left h, List.take_of_length_le (by simp)]
  rfl
theorem cutBehind (u : List Nat) {k : Nat} (h : k < u.length) : cutS (wS u) (some ((k : Int) + 1)) none = wS (u.drop (k + 1)) := cutFrom u (k := k + 1) h
/-- the pairs of words and prices that a list's tuples hold -/
abbrev PrsAt (H : Hp) (ts : List Addr) (es : List (List Nat × Int)) : Prop := Paired (fun t e => H t = some (.tup [.str (wS e.1), .int e.2])) ts es
def FAt (H : Hp) (F : Addr) (es : List (List Nat × Int)) : Prop := ∃ ts, H F = some (.lst (ts.map V.ref)) ∧ PrsAt H ts es
theorem FAt.same {H H' : Hp} {F : Addr} {es : List (List Nat × Int)} (h : FAt H F es) (e : Same H H') : FAt H' F es := by
  obtain ⟨ts, h1, h2⟩ := h
  exact ⟨ts, e _ _ h1, L2.Paired.mapP h2 fun _ _ q => e _ _ q⟩
theorem paired_snoc {α β : Type} {R : α → β → Prop} : ∀ {xs : List α} {ys : List β} {x : α} {y : β}, Paired R xs ys → R x y → Paired R (xs ++ [x]) (ys ++ [y])
  | _, _, _, _, .nil, h => .cons h .nil
  | _, _, _, _, .cons h t, q => .cons h (paired_snoc t q)
theorem FAt.add {H : Hp} {F T : Addr} {ts : List Addr} {es : List (List Nat × Int)} {w : List Nat} {n : Int} (h1 : H F = some (.lst (ts.map V.ref))) (h2 : PrsAt H ts es) (hT : H T = some (.tup [.str (wS w), .int n])) : FAt (upd H F (.lst (ts.map V.ref ++ [.ref T]))) F (es ++ [(w, n)]) := by
  have ne : ∀ {t : Addr} {xs : List V}, H t = some (.tup xs) → t ≠ F := fun h z => by rw [z, h1] at h; cases h
  refine ⟨ts ++ [T], by rw [upd_same, List.map_append]; rfl, paired_snoc (L2.Paired.mapP h2 fun t e q => ?_) ?_⟩
  · rw [upd_ne (ne q)]; exact q
  · rw [upd_ne (ne hT)]; exact hT
section
variable (L : List Nat) (g o : Str → Int) (ps : List ((Str × Str) × Int)) (u : List Nat) (most : Int)
/-- the changes at place k with the sign a put in or made -/
def RowIt (k a : Nat) (e : List Nat × Int) : Prop := ((u.length : Int) < most ∧ e = (u.take k ++ a :: u.drop k, g (sgS a))) ∨ ∃ x s, u[k]? = some x ∧ findP ps (sgS x) (sgS a) = some s ∧ e = (u.take k ++ a :: u.drop (k + 1), s)
def OutIt (k : Nat) (e : List Nat × Int) : Prop := ∃ x, u[k]? = some x ∧ e = (u.take k ++ u.drop (k + 1), o (sgS x))
def NearIt (k : Nat) (e : List Nat × Int) : Prop := (∃ a ∈ L, RowIt g ps u most k a e) ∨ OutIt o u k e
end
theorem valV_dtF {ps : List ((Str × Str) × Int)} (nd : (ps.map Prod.fst).Nodup) (x y : Str) : valV (dtF ps) [.inr x, .inr y] = (findP ps x y).map V.int := by
  cases e : findP ps x y with
  | some p => exact dtF_val nd ((findP_some nd).mp e)
  | none =>
    refine dtF_no fun q => ?_
    obtain ⟨z, hz, q⟩ := List.mem_map.mp q
    have := (findP_some (p := z.2) nd).mpr (show ((x, y), z.2) ∈ ps from by
      have : z = ((x, y), z.2) := Prod.ext q rfl
      rw [← this]; exact hz)
    rw [e] at this
    cases this
theorem rowStep {ys : List Str} {j a : Nat} {R : Nat → Prop} (h : ys[j]? = some (sgS a)) : (∃ j' a', j' < j + 1 ∧ ys[j']? = some (sgS a') ∧ R a') ↔ (∃ j' a', j' < j ∧ ys[j']? = some (sgS a') ∧ R a') ∨ R a := by
  constructor
  · rintro ⟨j', a', h1, h2, h3⟩
    by_cases e : j' = j
    · subst e
      rw [h] at h2
      have := nS_inj (x := some a) (y := some a') (Option.some.inj h2)
      cases this
      exact .inr h3
    · exact .inl ⟨j', a', by omega, h2, h3⟩
  · rintro (⟨j', a', h1, h2, h3⟩ | h3)
    · exact ⟨j', a', by omega, h2, h3⟩
    · exact ⟨j, a, by omega, h, h3⟩
section
variable {P : Program} {w : World} {K : PySem.W.Frag} {mg : Str → Option Value} {base : Heap} {Cp Cc : Addr}
def spNearby : Sp := fun vs H Q _ => ∃ t A B S zs g o ps u most, vs = [.ref t, .str (wS u), .int most] ∧ TblAt H t zs g o ps A B S ∧ PrN zs zs g o ps ∧ (∀ c ∈ u, c ∈ codesOf zs) ∧ u.length ≤ 8 ∧
  ∀ F es H', H F = none → Same H H' → FAt H' F es → es.length ≤ 1000 → (∀ e, e ∈ es ↔ ∃ k, k ≤ u.length ∧ NearIt (codesOf zs) g o ps u most k e) → Q (.ref F) H'
abbrev N_law_nearby : List Str := ["_law_table", "_law_word", "_law_most", "_law_found", "_law_at", "_law_one"]
theorem sc_law_nearby : FnScope N_law_nearby ["_law_table", "_law_word", "_law_most"] (defScope (top 40)) := ⟨rfl, rfl, rfl, by decide +kernel, rfl, by decide +kernel, by decide +kernel⟩
theorem c_law_nearby (A : At K mg "_law_nearby" (top 40)) (B : Blt mg) : Cal P w K mg base 1 "_law_nearby" spNearby := by
  refine cal_of A sc_law_nearby (fun _ _ _ _ _ _ us hl => match us, hl with | [_, _, _], _ => rfl) (fun vs H Q E h => ?_) (fun _ cdv A outer s H vs Q E hr h => ?_)
  · obtain ⟨_, _, _, _, _, _, _, _, _, _, rfl, _⟩ := h; rfl
  · obtain ⟨t, TA, TB, TW, zs, g, o, ps, u, most, rfl, T, N, hu, lu, hQ⟩ := h
    refine ⟨_, (pss_cons (ps_set (i := 3) sc_law_nearby.nd rfl (Or.inl rfl) (pe_lst pa_nil))
      (pss_cons (ps_for PassesOwn.never rfl (pi_range1 (by rfl) B.range (pa_cons (pe_op op_add (pe_callB call_len_str (by rfl) B.len (by decide +kernel) (pa_cons (pv 1) pa_nil)) pe_int) pa_nil)) (pg_name (i := 4) sc_law_nearby.nd rfl (Or.inl rfl))
        (pss_cons (ps_for PassesOwn.never rfl (pi_list (pe_callB (call_sortedD rfl) (by rfl) B.sorted (by decide +kernel) (pa_cons (pe_ix ix_list (pv 0) pe_int (fun _ _ => rfl)) pa_nil))) (pg_name (i := 5) sc_law_nearby.nd rfl (Or.inl rfl))
          (pss_cons (ps_if (pt_cmpR op_lt (pe_callB call_len_str (by rfl) B.len (by decide +kernel) (pa_cons (pv 1) pa_nil)) (pv 2) (nomark _))
            (pss_one (ps_expr (pe_append K rfl (pv 3) (pe_tup (pa_cons (pe_op op_add_str (pe_op op_add_str (pe_slice sl_str (pv 1) po_none (po_some (pv 4))) (pv 5)) (pe_slice sl_str (pv 1) (po_some (pv 4)) po_none)) (pa_cons (pe_dget (hu_of hr) (pe_ix ix_list (pv 0) pe_int (fun _ _ => rfl)) (pv 5) (fun _ _ => rfl)) pa_nil))))))
            pss_nil)
          (pss_one (ps_if (PW.pt (pw_and (pt_cmpR op_lt (pv 4) (pe_callB call_len_str (by rfl) B.len (by decide +kernel) (pa_cons (pv 1) pa_nil)) (nomark _)) (pw_and1 (pt_cmp (pc_din (hu_of hr) (pe_tup (pa_cons (pe_ix ix_str (pv 1) (pv 4) (fun _ _ => rfl)) (pa_cons (pv 5) pa_nil))) (pe_ix ix_list (pv 0) pe_int (fun _ _ => rfl)))))))
            (pss_one (ps_expr (pe_append K rfl (pv 3) (pe_tup (pa_cons (pe_op op_add_str (pe_op op_add_str (pe_slice sl_str (pv 1) po_none (po_some (pv 4))) (pv 5)) (pe_slice sl_str (pv 1) (po_some (pe_op op_add (pv 4) pe_int)) po_none)) (pa_cons (pe_dget (hu_of hr) (pe_ix ix_list (pv 0) pe_int (fun _ _ => rfl)) (pe_tup (pa_cons (pe_ix ix_str (pv 1) (pv 4) (fun _ _ => rfl)) (pa_cons (pv 5) pa_nil))) (fun _ _ => rfl)) pa_nil))))))
            pss_nil))))
        (pss_one (ps_if (pt_cmpR op_lt (pv 4) (pe_callB call_len_str (by rfl) B.len (by decide +kernel) (pa_cons (pv 1) pa_nil)) (nomark _))
          (pss_one (ps_expr (pe_append K rfl (pv 3) (pe_tup (pa_cons (pe_op op_add_str (pe_slice sl_str (pv 1) po_none (po_some (pv 4))) (pe_slice sl_str (pv 1) (po_some (pe_op op_add (pv 4) pe_int)) po_none)) (pa_cons (pe_dget (hu_of hr) (pe_ix ix_list (pv 0) pe_int (fun _ _ => rfl)) (pe_ix ix_str (pv 1) (pv 4) (fun _ _ => rfl)) (fun _ _ => rfl)) pa_nil))))))
          pss_nil))))
      (pss_one (ps_ret (pv 3))))), ?_⟩
    have two : 2 ≤ sizeLine := by decide
    have big : 100000 < sizeLine := by decide
    have lw : (wS u).length = u.length := wS_len u
    have lenC : ∀ lo hi, (cutS (wS u) lo hi).length ≤ 8 := fun lo hi => by have := cutS_length (wS u) lo hi; omega
    have ls : ∀ a, (sgS a).length = 1 := fun a => rfl
    have lz5 := N.le
    refine ⟨Nat.zero_le _, fun F hF => ?_⟩
    have e1 := same_new (o := .lst []) hF
    have hF1 : FAt (upd H F (.lst [])) F [] := ⟨[], upd_same, .nil⟩
    generalize upd H F (.lst []) = H1 at e1 hF1 ⊢
    refine ⟨_, rfl, _, rfl, by omega, _, _, rfl, rfl, _, rfl, (by omega), (by omega), for_it (walk_range (lo := 0)) (fun k σ H' => (∃ o4 o5, σ = [some (.ref t), some (.str (wS u)), some (.int most), some (.ref F), o4, o5]) ∧ Same H H' ∧ ∃ es, FAt H' F es ∧ es.length ≤ 11 * k ∧ ∀ e, e ∈ es ↔ ∃ k', k' < k ∧ NearIt (codesOf zs) g o ps u most k' e) ⟨⟨_, _, rfl⟩, e1, [], hF1, Nat.zero_le _, by simp⟩ (fun _ _ _ _ _ => trivial) (fun k y σ Ha Hb hk e hy => ?_) (fun σ H2 e => ?_)⟩
    · obtain ⟨rfl, hy⟩ := hy
      obtain ⟨⟨o4, o5, rfl⟩, ea, es0, Fa, l0, m0⟩ := e
      have hy : y = .int (k : Nat) := by rw [hy]; simp
      subst hy
      have ku : k ≤ u.length := by
        have h1 : k < (((wS u).length : Int) + 1).toNat := hk
        have h2 : (((wS u).length : Int) + 1).toNat = u.length + 1 := by rw [lw]; rfl
        omega
      refine ⟨_, rfl, t, _, _, _, rfl, rfl, SqL.of (ea _ _ T.t), rfl, TA, _, zs, rfl, .inl (ea _ _ T.a), dkF_keys zs g, by omega, fun ys p hys hso hp => ⟨p, rfl, ⟨_, SqL.of upd_same⟩, ?_⟩⟩
      have f1 := same_new (o := .lst (ys.map V.str)) hp
      have hp1 : upd Hb p (.lst (ys.map V.str)) p = some (.lst (ys.map V.str)) := upd_same
      have Fb := Fa.same f1
      have eb := ea.trans f1
      have pF : p ≠ F := by obtain ⟨_, q, _⟩ := Fa; exact (ne_of_none q hp).symm
      generalize upd Hb p (.lst (ys.map V.str)) = Hc at hp1 Fb eb ⊢
      refine for_it walk_list (fun j σ H' => (∃ o5, σ = [some (.ref t), some (.str (wS u)), some (.int most), some (.ref F), some (.int (k : Nat)), o5]) ∧ Same H H' ∧ H' p = some (.lst (ys.map V.str)) ∧ ∃ es, FAt H' F es ∧ es.length ≤ 11 * k + 2 * j ∧ ∀ e, e ∈ es ↔ (∃ k', k' < k ∧ NearIt (codesOf zs) g o ps u most k' e) ∨ ∃ j' a, j' < j ∧ ys[j']? = some (sgS a) ∧ RowIt g ps u most k a e) ⟨⟨_, rfl⟩, eb, hp1, es0, Fb, by omega, fun e => by rw [m0 e]; simp⟩ (fun j σ H' _ e => SqL.of e.2.2.1) (fun j y σ Hd0 Hd hj e hy => ?_) (fun σ H3 e => ?_)
      · obtain ⟨rfl, hy⟩ := hy
        obtain ⟨⟨o5, rfl⟩, ed, hpd, es, Fd, l1, m1⟩ := e
        rw [List.getElem?_map] at hy
        obtain ⟨z, hz, rfl⟩ := Option.map_eq_some_iff.mp hy
        have mz : z ∈ zs := hys.mem_iff.mp (List.mem_of_getElem? hz)
        obtain ⟨a, rfl⟩ : ∃ a, z = sgS a := ⟨codeOf z, (nS_code (N.sg z mz)).symm⟩
        have hj5 : j < 5 := by
          have h1 : j < (ys.map V.str).length := hj
          rw [List.length_map, hys.length_eq] at h1
          omega
        refine ⟨_, rfl, _, rfl, by omega, _, rfl, _, _, rfl, rfl, _, rfl, ?_⟩
        by_cases um : (u.length : Int) < most
        · rw [decide_eq_true (show ((wS u).length : Int) < most by omega)]
          obtain ⟨ts, hFd, hPr⟩ := Fd
          refine iteT ⟨_, rfl, .inl ⟨rfl, _, SqL.of hFd⟩, _, rfl, _, rfl, _, rfl, _, rfl, by omega, _, rfl, _, _, rfl, rfl, by have := lenC none (some ((k : Nat) : Int)); have := ls a; omega, _, rfl, _, rfl, _, rfl, _, rfl, by omega, _, _, rfl, rfl, by rw [Str.length_append]; have := lenC none (some ((k : Nat) : Int)); have := lenC (some ((k : Nat) : Int)) none; have := ls a; omega, _, rfl, t, _, _, _, rfl, rfl, SqL.of (ed _ _ T.t), rfl, _, rfl, TA, .int (g (sgS a)), rfl, .inl ⟨_, .inr (sgS a), .inl (ed _ _ T.a), rfl, (dkF_val N.nd g mz).symm⟩, two, fun t0 ht0 => ?_⟩
          rw [cutTo u ku, cutFrom u ku]
          rw [show wS (u.take k) ++ sgS a ++ wS (u.drop k) = wS (u.take k ++ a :: u.drop k) by
            rw [show sgS a = wS [a] from rfl, wS_app, wS_app]; simp]
          have f0 := same_new (o := .tup [.str (wS (u.take k ++ a :: u.drop k)), .int (g (sgS a))]) ht0
          have hFe := f0 _ _ hFd
          have hPe : PrsAt _ ts es := L2.Paired.mapP hPr fun _ _ q => f0 _ _ q
          refine ⟨F, _, _, rfl, rfl, hFe, ?_, ?_⟩
          · have := Paired.length hPr
            rw [List.length_map]
            omega
          have Fg := FAt.add hFe hPe upd_same
          have eg : Same H (upd (upd Hd t0 (.tup [.str (wS (u.take k ++ a :: u.drop k)), .int (g (sgS a))])) F (.lst (ts.map V.ref ++ [.ref t0]))) := fun b q z => by
            rw [upd_ne (ne_of_none z hF)]; exact f0 _ _ (ed _ _ z)
          have hpg : upd (upd Hd t0 (.tup [.str (wS (u.take k ++ a :: u.drop k)), .int (g (sgS a))])) F (.lst (ts.map V.ref ++ [.ref t0])) p = some (.lst (ys.map V.str)) := by
            rw [upd_ne pF]; exact f0 _ _ hpd
          have lg2 : (es ++ [(u.take k ++ a :: u.drop k, g (sgS a))]).length ≤ 11 * k + 2 * j + 1 := by
            rw [List.length_append, List.length_singleton]; omega
          have mg2 : ∀ e, e ∈ es ++ [(u.take k ++ a :: u.drop k, g (sgS a))] ↔ ((∃ k', k' < k ∧ NearIt (codesOf zs) g o ps u most k' e) ∨ ∃ j' a, j' < j ∧ ys[j']? = some (sgS a) ∧ RowIt g ps u most k a e) ∨ ((u.length : Int) < most ∧ e = (u.take k ++ a :: u.drop k, g (sgS a))) := fun e => by
            rw [List.mem_append, List.mem_singleton, m1 e]
            exact or_congr Iff.rfl ⟨fun h => ⟨um, h⟩, fun h => h.2⟩
          generalize es ++ [(u.take k ++ a :: u.drop k, g (sgS a))] = es2 at Fg lg2 mg2
          generalize upd (upd Hd t0 (.tup [.str (wS (u.take k ++ a :: u.drop k)), .int (g (sgS a))])) F (.lst (ts.map V.ref ++ [.ref t0])) = Hg at Fg eg hpg ⊢
          refine ⟨_, rfl, _, rfl, _, rfl, by omega, _, _, rfl, rfl, _, rfl, ?_⟩
          by_cases kl : k < u.length
          · rw [decide_eq_true (show ((k : Nat) : Int) < ((wS u).length : Int) by omega)]
            have gx := List.getElem?_eq_getElem kl
            refine iteT ⟨_, rfl, _, rfl, wS u, _, u[k], rfl, rfl, by omega, atI_nat gx, _, rfl, two, fun t1 ht1 => ?_⟩
            have f2 := same_new (o := .tup [.str (⟨#[u[k]]⟩ : Str), .str (sgS a)]) ht1
            have eh := eg.trans f2
            refine ⟨_, rfl, t, _, _, _, rfl, rfl, SqL.of (eh _ _ T.t), rfl, TW, (findP ps (sgS u[k]) (sgS a)).map V.int, rfl, .inr ⟨_, [.inr (sgS u[k]), .inr (sgS a)], t1, .inl (eh _ _ T.s), rfl, upd_same, (valV_dtF N.sn _ _).symm⟩, _, rfl, ?_⟩
            have Fh := Fg.same f2
            have hph := f2 _ _ hpg
            generalize upd Hg t1 (.tup [.str (⟨#[u[k]]⟩ : Str), .str (sgS a)]) = Hh at eh Fh hph ⊢
            cases fe : findP ps (sgS u[k]) (sgS a) with
            | none =>
              refine iteF ⟨⟨_, rfl⟩, eh, hph, es2, Fh, by omega, fun e => ?_⟩
              rw [rowStep hz, ← or_assoc, mg2 e]
              refine or_congr Iff.rfl ⟨.inl, ?_⟩
              rintro (h | ⟨x, s, h1, h2, h3⟩)
              · exact h
              · rw [gx] at h1
                cases h1
                rw [fe] at h2
                cases h2
            | some n =>
              obtain ⟨ts, hFh, hPr⟩ := Fh
              refine iteT ⟨_, rfl, .inl ⟨rfl, _, SqL.of hFh⟩, _, rfl, _, rfl, _, rfl, _, rfl, by omega, _, rfl, _, _, rfl, rfl, by have := lenC none (some ((k : Nat) : Int)); have := ls a; omega, _, rfl, _, rfl, _, _, rfl, rfl, _, rfl, _, rfl, by omega, _, _, rfl, rfl, by rw [Str.length_append]; have := lenC none (some ((k : Nat) : Int)); have := lenC (some (((k : Nat) : Int) + 1)) none; have := ls a; omega, _, rfl, t, _, _, _, rfl, rfl, SqL.of (eh _ _ T.t), rfl, _, rfl, _, rfl, wS u, _, u[k], rfl, rfl, by omega, atI_nat gx, _, rfl, two, fun t2 ht2 => ?_⟩
              have f3 := same_new (o := .tup [.str (⟨#[u[k]]⟩ : Str), .str (sgS a)]) ht2
              refine ⟨TW, .int n, rfl, .inr ⟨_, [.inr (sgS u[k]), .inr (sgS a)], t2, .inl (f3 _ _ (eh _ _ T.s)), rfl, upd_same, by rw [valV_dtF N.sn, fe]; rfl⟩, two, fun t3 ht3 => ?_⟩
              rw [cutTo u ku, cutBehind u kl]
              rw [show wS (u.take k) ++ sgS a ++ wS (u.drop (k + 1)) = wS (u.take k ++ a :: u.drop (k + 1)) by
                rw [show sgS a = wS [a] from rfl, wS_app, wS_app]; simp]
              have f4 := f3.trans (same_new (o := .tup [.str (wS (u.take k ++ a :: u.drop (k + 1))), .int n]) ht3)
              have hFi := f4 _ _ hFh
              have hPi : PrsAt _ ts es2 := L2.Paired.mapP hPr fun _ _ q => f4 _ _ q
              refine ⟨F, _, _, rfl, rfl, hFi, ?_, ⟨_, rfl⟩, fun b q z => ?_, ?_, _, FAt.add hFi hPi upd_same, ?_, fun e => ?_⟩
              · have := Paired.length hPr
                rw [List.length_map]
                omega
              · rw [upd_ne (ne_of_none z hF)]; exact f4 _ _ (eh _ _ z)
              · rw [upd_ne pF]; exact f4 _ _ hph
              · rw [List.length_append, List.length_singleton]; omega
              · rw [List.mem_append, List.mem_singleton, rowStep hz, ← or_assoc, mg2 e, or_assoc]
                refine or_congr Iff.rfl (or_congr Iff.rfl ⟨fun h => ⟨_, _, gx, fe, h⟩, ?_⟩)
                rintro ⟨x, s, h1, h2, h3⟩
                rw [gx] at h1
                cases h1
                rw [fe] at h2
                cases h2
                exact h3
          · rw [decide_eq_false (show ¬ ((k : Nat) : Int) < ((wS u).length : Int) by omega)]
            refine iteF (iteF ⟨⟨_, rfl⟩, eg, hpg, es2, Fg, by omega, fun e => ?_⟩)
            rw [rowStep hz, ← or_assoc, mg2 e]
            refine or_congr Iff.rfl ⟨.inl, ?_⟩
            rintro (h | ⟨x, s, h1, h2, h3⟩)
            · exact h
            · rw [List.getElem?_eq_none (by omega)] at h1
              cases h1
        · rw [decide_eq_false (show ¬ ((wS u).length : Int) < most by omega)]
          refine iteF ?_
          have eg := ed
          have hpg := hpd
          have Fg := Fd
          have lg2 : es.length ≤ 11 * k + 2 * j + 1 := by omega
          have mg2 : ∀ e, e ∈ es ↔ ((∃ k', k' < k ∧ NearIt (codesOf zs) g o ps u most k' e) ∨ ∃ j' a, j' < j ∧ ys[j']? = some (sgS a) ∧ RowIt g ps u most k a e) ∨ ((u.length : Int) < most ∧ e = (u.take k ++ a :: u.drop k, g (sgS a))) := fun e => by
            rw [m1 e]
            exact ⟨.inl, fun h => h.elim id fun q => absurd q.1 um⟩
          generalize es = es2 at Fg lg2 mg2
          generalize Hd = Hg at Fg eg hpg ⊢
          refine ⟨_, rfl, _, rfl, _, rfl, by omega, _, _, rfl, rfl, _, rfl, ?_⟩
          by_cases kl : k < u.length
          · rw [decide_eq_true (show ((k : Nat) : Int) < ((wS u).length : Int) by omega)]
            have gx := List.getElem?_eq_getElem kl
            refine iteT ⟨_, rfl, _, rfl, wS u, _, u[k], rfl, rfl, by omega, atI_nat gx, _, rfl, two, fun t1 ht1 => ?_⟩
            have f2 := same_new (o := .tup [.str (⟨#[u[k]]⟩ : Str), .str (sgS a)]) ht1
            have eh := eg.trans f2
            refine ⟨_, rfl, t, _, _, _, rfl, rfl, SqL.of (eh _ _ T.t), rfl, TW, (findP ps (sgS u[k]) (sgS a)).map V.int, rfl, .inr ⟨_, [.inr (sgS u[k]), .inr (sgS a)], t1, .inl (eh _ _ T.s), rfl, upd_same, (valV_dtF N.sn _ _).symm⟩, _, rfl, ?_⟩
            have Fh := Fg.same f2
            have hph := f2 _ _ hpg
            generalize upd Hg t1 (.tup [.str (⟨#[u[k]]⟩ : Str), .str (sgS a)]) = Hh at eh Fh hph ⊢
            cases fe : findP ps (sgS u[k]) (sgS a) with
            | none =>
              refine iteF ⟨⟨_, rfl⟩, eh, hph, es2, Fh, by omega, fun e => ?_⟩
              rw [rowStep hz, ← or_assoc, mg2 e]
              refine or_congr Iff.rfl ⟨.inl, ?_⟩
              rintro (h | ⟨x, s, h1, h2, h3⟩)
              · exact h
              · rw [gx] at h1
                cases h1
                rw [fe] at h2
                cases h2
            | some n =>
              obtain ⟨ts, hFh, hPr⟩ := Fh
              refine iteT ⟨_, rfl, .inl ⟨rfl, _, SqL.of hFh⟩, _, rfl, _, rfl, _, rfl, _, rfl, by omega, _, rfl, _, _, rfl, rfl, by have := lenC none (some ((k : Nat) : Int)); have := ls a; omega, _, rfl, _, rfl, _, _, rfl, rfl, _, rfl, _, rfl, by omega, _, _, rfl, rfl, by rw [Str.length_append]; have := lenC none (some ((k : Nat) : Int)); have := lenC (some (((k : Nat) : Int) + 1)) none; have := ls a; omega, _, rfl, t, _, _, _, rfl, rfl, SqL.of (eh _ _ T.t), rfl, _, rfl, _, rfl, wS u, _, u[k], rfl, rfl, by omega, atI_nat gx, _, rfl, two, fun t2 ht2 => ?_⟩
              have f3 := same_new (o := .tup [.str (⟨#[u[k]]⟩ : Str), .str (sgS a)]) ht2
              refine ⟨TW, .int n, rfl, .inr ⟨_, [.inr (sgS u[k]), .inr (sgS a)], t2, .inl (f3 _ _ (eh _ _ T.s)), rfl, upd_same, by rw [valV_dtF N.sn, fe]; rfl⟩, two, fun t3 ht3 => ?_⟩
              rw [cutTo u ku, cutBehind u kl]
              rw [show wS (u.take k) ++ sgS a ++ wS (u.drop (k + 1)) = wS (u.take k ++ a :: u.drop (k + 1)) by
                rw [show sgS a = wS [a] from rfl, wS_app, wS_app]; simp]
              have f4 := f3.trans (same_new (o := .tup [.str (wS (u.take k ++ a :: u.drop (k + 1))), .int n]) ht3)
              have hFi := f4 _ _ hFh
              have hPi : PrsAt _ ts es2 := L2.Paired.mapP hPr fun _ _ q => f4 _ _ q
              refine ⟨F, _, _, rfl, rfl, hFi, ?_, ⟨_, rfl⟩, fun b q z => ?_, ?_, _, FAt.add hFi hPi upd_same, ?_, fun e => ?_⟩
              · have := Paired.length hPr
                rw [List.length_map]
                omega
              · rw [upd_ne (ne_of_none z hF)]; exact f4 _ _ (eh _ _ z)
              · rw [upd_ne pF]; exact f4 _ _ hph
              · rw [List.length_append, List.length_singleton]; omega
              · rw [List.mem_append, List.mem_singleton, rowStep hz, ← or_assoc, mg2 e, or_assoc]
                refine or_congr Iff.rfl (or_congr Iff.rfl ⟨fun h => ⟨_, _, gx, fe, h⟩, ?_⟩)
                rintro ⟨x, s, h1, h2, h3⟩
                rw [gx] at h1
                cases h1
                rw [fe] at h2
                cases h2
                exact h3
          · rw [decide_eq_false (show ¬ ((k : Nat) : Int) < ((wS u).length : Int) by omega)]
            refine iteF (iteF ⟨⟨_, rfl⟩, eg, hpg, es2, Fg, by omega, fun e => ?_⟩)
            rw [rowStep hz, ← or_assoc, mg2 e]
            refine or_congr Iff.rfl ⟨.inl, ?_⟩
            rintro (h | ⟨x, s, h1, h2, h3⟩)
            · exact h
            · rw [List.getElem?_eq_none (by omega)] at h1
              cases h1
      · -- out
        obtain ⟨⟨o5, rfl⟩, ed, hpd, es, Fd, l1, m1⟩ := e
        have yl : (ys.map V.str).length = zs.length := by rw [List.length_map, hys.length_eq]
        have all : ∀ e, (∃ j' a, j' < (ys.map V.str).length ∧ ys[j']? = some (sgS a) ∧ RowIt g ps u most k a e) ↔ ∃ a ∈ codesOf zs, RowIt g ps u most k a e := fun e => by
          constructor
          · rintro ⟨j', a, _, h2, h3⟩
            exact ⟨a, (mem_codes N.sg).mpr (hys.mem_iff.mp (List.mem_of_getElem? h2)), h3⟩
          · rintro ⟨a, h1, h2⟩
            obtain ⟨j', h3⟩ := List.mem_iff_getElem?.mp (hys.mem_iff.mpr ((mem_codes N.sg).mp h1))
            refine ⟨j', a, ?_, h3, h2⟩
            rw [List.length_map]
            exact (List.getElem?_eq_some_iff.mp h3).1
        have step : ∀ e, (∃ k', k' < k + 1 ∧ NearIt (codesOf zs) g o ps u most k' e) ↔ ((∃ k', k' < k ∧ NearIt (codesOf zs) g o ps u most k' e) ∨ ∃ a ∈ codesOf zs, RowIt g ps u most k a e) ∨ OutIt o u k e := fun e => by
          constructor
          · rintro ⟨k', h1, h2⟩
            by_cases q : k' = k
            · subst q
              rcases h2 with h2 | h2
              · exact .inl (.inr h2)
              · exact .inr h2
            · exact .inl (.inl ⟨k', by omega, h2⟩)
          · rintro ((⟨k', h1, h2⟩ | h2) | h2)
            · exact ⟨k', by omega, h2⟩
            · exact ⟨k, by omega, .inl h2⟩
            · exact ⟨k, by omega, .inr h2⟩
        rw [yl] at l1
        refine ⟨_, rfl, _, rfl, _, rfl, by omega, _, _, rfl, rfl, _, rfl, ?_⟩
        by_cases kl : k < u.length
        · rw [decide_eq_true (show ((k : Nat) : Int) < ((wS u).length : Int) by omega)]
          have gx := List.getElem?_eq_getElem kl
          have mx : sgS u[k] ∈ zs := (mem_codes N.sg).mp (hu _ (List.getElem_mem kl))
          obtain ⟨ts, hFd, hPr⟩ := Fd
          refine iteT ⟨_, rfl, .inl ⟨rfl, _, SqL.of hFd⟩, _, rfl, _, rfl, _, rfl, _, rfl, by omega, _, rfl, _, rfl, _, _, rfl, rfl, _, rfl, _, rfl, by omega, _, _, rfl, rfl, by have := lenC none (some ((k : Nat) : Int)); have := lenC (some (((k : Nat) : Int) + 1)) none; omega, _, rfl, t, _, _, _, rfl, rfl, SqL.of (ed _ _ T.t), rfl, _, rfl, _, rfl, wS u, _, u[k], rfl, rfl, by omega, atI_nat gx, TB, .int (o (sgS u[k])), rfl, .inl ⟨_, .inr (sgS u[k]), .inl (ed _ _ T.b), rfl, (dkF_val N.nd o mx).symm⟩, two, fun t0 ht0 => ?_⟩
          rw [cutTo u ku, cutBehind u kl, wS_app]
          have f0 := same_new (o := .tup [.str (wS (u.take k ++ u.drop (k + 1))), .int (o (sgS u[k]))]) ht0
          have hFe := f0 _ _ hFd
          have hPe : PrsAt _ ts es := L2.Paired.mapP hPr fun _ _ q => f0 _ _ q
          refine ⟨F, _, _, rfl, rfl, hFe, ?_, ⟨_, _, rfl⟩, fun b q z => ?_, _, FAt.add hFe hPe upd_same, ?_, fun e => ?_⟩
          · have := Paired.length hPr
            rw [List.length_map]
            omega
          · rw [upd_ne (ne_of_none z hF)]; exact f0 _ _ (ed _ _ z)
          · rw [List.length_append, List.length_singleton]; omega
          · rw [List.mem_append, List.mem_singleton, step e, m1 e, all e]
            refine or_congr Iff.rfl ⟨fun h => ⟨_, gx, h⟩, ?_⟩
            rintro ⟨x, h1, h2⟩
            rw [gx] at h1
            cases h1
            exact h2
        · rw [decide_eq_false (show ¬ ((k : Nat) : Int) < ((wS u).length : Int) by omega)]
          refine iteF ⟨⟨_, _, rfl⟩, ed, es, Fd, by omega, fun e => ?_⟩
          rw [step e, m1 e, all e]
          refine ⟨.inl, fun h => h.elim id ?_⟩
          rintro ⟨x, h1, _⟩
          rw [List.getElem?_eq_none (by omega)] at h1
          cases h1
    · obtain ⟨⟨o4, o5, rfl⟩, ea, es0, Fa, l0, m0⟩ := e
      refine ⟨_, rfl, hQ F es0 H2 hF ea Fa ?_ fun e => ?_⟩
      · have : ((wS u).length : Int).toNat ≤ 8 := by omega
        exact Nat.le_trans l0 (Nat.le_trans (Nat.mul_le_mul_left 11 (show _ ≤ 9 by omega)) (by decide))
      · rw [m0 e]
        constructor
        · rintro ⟨k, h1, h2⟩; exact ⟨k, by omega, h2⟩
        · rintro ⟨k, h1, h2⟩; exact ⟨k, by omega, h2⟩
end
end MN
/-! plain law: single changes of words and their costs; rounds -/
namespace MN
open PySem PySem.Spec PyProof.Rows L2
theorem clo_exists {zs zs2 : List Str} {g o : Str → Int} {ps : List ((Str × Str) × Int)} (N : PrN zs zs2 g o ps) : ∃ c, Clo (codesOf zs) (rOf (codesOf zs) g o ps) c := by
  have rin : ∀ {x y p}, rOf (codesOf zs) g o ps x y = some p → InL (codesOf zs) x ∧ InL (codesOf zs) y ∧ x ≠ y := fun h => rOf_in N h
  have T0 : Tb (codesOf zs) (rOf (codesOf zs) g o ps) (fun _ => False) (rOf (codesOf zs) g o ps) := by
    refine ⟨fun x => ?_, fun x y t h => .one (rin h).1 (rin h).2.1 h, fun x y p _ _ h => ⟨p, h, Int.le_refl _⟩, fun m x y a b hm => hm.elim⟩
    cases e : rOf (codesOf zs) g o ps x x with
    | none => rfl
    | some p => exact absurd rfl (rin e).2.2
  have all : ∀ (l : List Nd) (M : Nd → Prop) (O : Nd → Nd → Option Int), Tb (codesOf zs) (rOf (codesOf zs) g o ps) M O → ∃ O', Tb (codesOf zs) (rOf (codesOf zs) g o ps) (fun z => M z ∨ z ∈ l) O' := by
    intro l
    induction l with
    | nil => intro M O T; exact ⟨O, T.dg, T.pa, T.le, fun m x y a b hm => T.tri m x y a b (by simpa using hm)⟩
    | cons m l ih =>
      intro M O T
      obtain ⟨O', T'⟩ := ih _ _ (T.phase (m := m) (rOf_pos N))
      exact ⟨O', T'.dg, T'.pa, T'.le, fun k x y a b hk => T'.tri k x y a b (by
        rcases hk with h | h
        · exact .inl (.inl h)
        · rcases List.mem_cons.mp h with h | h
          · exact .inl (.inr h)
          · exact .inr h)⟩
  obtain ⟨O, T⟩ := all (ndOf (codesOf zs)) _ _ T0
  have TL : Tb (codesOf zs) (rOf (codesOf zs) g o ps) (InL (codesOf zs)) O := ⟨T.dg, T.pa, T.le, fun m x y a b hm => T.tri m x y a b (.inr (mem_nd.mpr hm))⟩
  exact ⟨_, (TL.clo (rOf_pos N) rOf_all).1⟩
/-- a change: one place, one node for another one -/
theorem chg_split {L : List Nat} {f : Nd → Nd → Option Int} {v w : List Nat} {s : Int} (h : Chg L f v w s) : ∃ pre suf y z, v = pre ++ y.toList ++ suf ∧ w = pre ++ z.toList ++ suf ∧ InL L y ∧ InL L z ∧ f y z = some s ∧ ¬ (y = none ∧ z = none) := by
  induction h with
  | @put y v s hy e => exact ⟨[], v, none, some y, rfl, rfl, InL.no, InL.of hy, e, fun q => by cases q.2⟩
  | @out y v s hy e => exact ⟨[], v, some y, none, rfl, rfl, InL.of hy, InL.no, e, fun q => by cases q.1⟩
  | @swp y z v s hy hz e => exact ⟨[], v, some y, some z, rfl, rfl, InL.of hy, InL.of hz, e, fun q => by cases q.1⟩
  | @cons y v w s _ ih =>
    obtain ⟨pre, suf, a, b, rfl, rfl, h⟩ := ih
    exact ⟨y :: pre, suf, a, b, rfl, rfl, h⟩
theorem chg_join {L : List Nat} {f : Nd → Nd → Option Int} {suf : List Nat} {y z : Nd} {s : Int} (hy : InL L y) (hz : InL L z) (e : f y z = some s) (n : ¬ (y = none ∧ z = none)) : ∀ pre : List Nat, Chg L f (pre ++ y.toList ++ suf) (pre ++ z.toList ++ suf) s
  | [] => by
    cases y with
    | none =>
      cases z with
      | none => exact absurd ⟨rfl, rfl⟩ n
      | some b => exact .put (hz b rfl) e
    | some a =>
      cases z with
      | none => exact .out (hy a rfl) e
      | some b => exact .swp (hy a rfl) (hz b rfl) e
  | a :: pre => .cons (chg_join hy hz e n pre)
theorem rev_node (x : Nd) : x.toList.reverse = x.toList := by cases x <;> rfl
section
variable {zs zs2 : List Str} {g o : Str → Int} {ps : List ((Str × Str) × Int)}
/-- what is near is one change away -/
theorem near_chg (N : PrN zs zs2 g o ps) {u : List Nat} (hu : ∀ c ∈ u, c ∈ codesOf zs) {most : Int} {k : Nat} (hk : k ≤ u.length) {e : List Nat × Int} (h : NearIt (codesOf zs) g o ps u most k e) : Chg (codesOf zs) (rOf (codesOf zs) g o ps) u.reverse e.1.reverse e.2 := by
  have key : ∀ (y z : Nd) (suf : List Nat), InL (codesOf zs) y → InL (codesOf zs) z → rOf (codesOf zs) g o ps y z = some e.2 → ¬ (y = none ∧ z = none) → u = u.take k ++ y.toList ++ suf → e.1 = u.take k ++ z.toList ++ suf → Chg (codesOf zs) (rOf (codesOf zs) g o ps) u.reverse e.1.reverse e.2 := fun y z suf hy hz he n e1 e2 => by
    have := chg_join (suf := (u.take k).reverse) hy hz he n suf.reverse
    rw [e2]
    conv => arg 3; rw [e1]
    simp only [List.reverse_append, rev_node, ← List.append_assoc]
    exact this
  rcases h with ⟨a, ha, ⟨_, rfl⟩ | ⟨x, s, hx, hs, rfl⟩⟩ | ⟨x, hx, rfl⟩
  · refine key none (some a) (u.drop k) InL.no (InL.of ha) (if_pos ha) (fun q => by cases q.2) ?_ ?_
    · simp
    · simp
  · have hx' := hu x (List.mem_of_getElem? hx)
    refine key (some x) (some a) (u.drop (k + 1)) (InL.of hx') (InL.of ha) hs (fun q => by cases q.1) ?_ ?_
    · conv => lhs; rw [← List.take_append_drop k u, List.drop_eq_getElem?_toList_append, hx]
      simp
    · simp
  · have hx' := hu x (List.mem_of_getElem? hx)
    refine key (some x) none (u.drop (k + 1)) (InL.of hx') InL.no (if_pos hx') (fun q => by cases q.1) ?_ ?_
    · conv => lhs; rw [← List.take_append_drop k u, List.drop_eq_getElem?_toList_append, hx]
      simp
    · simp
theorem near_word (N : PrN zs zs2 g o ps) {u : List Nat} (hu : ∀ c ∈ u, c ∈ codesOf zs) {n k : Nat} (hn : u.length ≤ n) (hk : k ≤ u.length) {e : List Nat × Int} (h : NearIt (codesOf zs) g o ps u n k e) : e.1.length ≤ n ∧ ∀ c ∈ e.1, c ∈ codesOf zs := by
  rcases h with ⟨a, ha, ⟨hm, rfl⟩ | ⟨x, s, hx, hs, rfl⟩⟩ | ⟨x, hx, rfl⟩
  · refine ⟨?_, fun c hc => ?_⟩
    · simp; omega
    · rcases List.mem_append.mp hc with hc | hc
      · exact hu c (List.mem_of_mem_take hc)
      · rcases List.mem_cons.mp hc with rfl | hc
        · exact ha
        · exact hu c (List.mem_of_mem_drop hc)
  · have kl := (List.getElem?_eq_some_iff.mp hx).1
    refine ⟨?_, fun c hc => ?_⟩
    · simp; omega
    · rcases List.mem_append.mp hc with hc | hc
      · exact hu c (List.mem_of_mem_take hc)
      · rcases List.mem_cons.mp hc with rfl | hc
        · exact ha
        · exact hu c (List.mem_of_mem_drop hc)
  · have kl := (List.getElem?_eq_some_iff.mp hx).1
    refine ⟨?_, fun c hc => ?_⟩
    · simp; omega
    · rcases List.mem_append.mp hc with hc | hc
      · exact hu c (List.mem_of_mem_take hc)
      · exact hu c (List.mem_of_mem_drop hc)
/-- what is one change away is near -/
theorem chg_near (N : PrN zs zs2 g o ps) {u v : List Nat} {s : Int} (h : Chg (codesOf zs) (rOf (codesOf zs) g o ps) u.reverse v.reverse s) {n : Nat} (hn : v.length ≤ n) : ∃ k, k ≤ u.length ∧ NearIt (codesOf zs) g o ps u n k (v, s) := by
  obtain ⟨pre, suf, y, z, h1, h2, hy, hz, he, nn⟩ := chg_split h
  have e1 : u = suf.reverse ++ (y.toList ++ pre.reverse) := by
    have := congrArg List.reverse h1
    simpa [rev_node] using this
  have e2 : v = suf.reverse ++ (z.toList ++ pre.reverse) := by
    have := congrArg List.reverse h2
    simpa [rev_node] using this
  generalize suf.reverse = A at e1 e2
  generalize pre.reverse = B at e1 e2
  subst e1
  subst e2
  refine ⟨A.length, by simp, ?_⟩
  have tk : ∀ X : List Nat, (A ++ X).take A.length = A := fun X => by simp
  have dr : ∀ X : List Nat, (A ++ X).drop A.length = X := fun X => by simp
  have dr1 : ∀ (x : Nat) (X : List Nat), (A ++ x :: X).drop (A.length + 1) = X := fun x X => by
    rw [← List.drop_drop, dr]; rfl
  have gx : ∀ (x : Nat) (X : List Nat), (A ++ x :: X)[A.length]? = some x := fun x X => by simp
  cases y with
  | none =>
    cases z with
    | none => exact absurd ⟨rfl, rfl⟩ nn
    | some b =>
      have hb := hz b rfl
      refine .inl ⟨b, hb, .inl ⟨?_, ?_⟩⟩
      · simp at hn ⊢; omega
      · have he' : (if b ∈ codesOf zs then some (g (sgS b)) else none) = some s := he
        rw [if_pos hb] at he'
        rw [tk, dr, Option.some.inj he']
        rfl
  | some a =>
    cases z with
    | none =>
      have ha := hy a rfl
      refine .inr ⟨a, gx a B, ?_⟩
      have he' : (if a ∈ codesOf zs then some (o (sgS a)) else none) = some s := he
      rw [if_pos ha] at he'
      show _ = (((A ++ a :: B).take A.length) ++ (A ++ a :: B).drop (A.length + 1), _)
      rw [tk, dr1, Option.some.inj he']
      rfl
    | some b =>
      have hb := hz b rfl
      refine .inl ⟨b, hb, .inr ⟨a, s, gx a B, he, ?_⟩⟩
      show _ = (((A ++ a :: B).take A.length) ++ b :: (A ++ a :: B).drop (A.length + 1), _)
      rw [tk, dr1]
      rfl
end
/-! ### rounds -/
section
variable {α : Type} {D : α → Int} {W : List α} {E : α → α → Int → Prop} {b : α}
/-- costs and single changes -/
structure Net (D : α → Int) (W : List α) (E : α → α → Int → Prop) (b : α) : Prop where
  b0 : D b = 0
  bW : b ∈ W
  nn : ∀ v ∈ W, 0 ≤ D v ∧ (D v = 0 → v = b)
  ed : ∀ u ∈ W, ∀ v s, E u v s → v ∈ W ∧ D v ≤ D u + s ∧ 1 ≤ s
  pre : ∀ v ∈ W, v ≠ b → ∃ u ∈ W, ∃ s, E u v s ∧ D u + s ≤ D v
/-- what was found is no less than the cost -/
def Snd (D : α → Int) (W : List α) (b : α) (f : α → Option Int) : Prop := f b = some 0 ∧ ∀ v x, f v = some x → v ∈ W ∧ D v ≤ x
def LeF (f f' : α → Option Int) : Prop := ∀ v x, f v = some x → ∃ x', f' v = some x' ∧ x' ≤ x
theorem LeF.refl {f : α → Option Int} : LeF f f := fun _ x h => ⟨x, h, Int.le_refl _⟩
theorem LeF.trans {f f1 f2 : α → Option Int} (a : LeF f f1) (c : LeF f1 f2) : LeF f f2 := fun v x h => by
  obtain ⟨y, h1, l1⟩ := a v x h
  obtain ⟨z, h2, l2⟩ := c v y h1
  exact ⟨z, h2, by omega⟩
def rank (D : α → Int) (W : List α) (v : α) : Nat := W.countP fun x => decide (D x < D v)
theorem countP_lt {p q : α → Bool} : ∀ {l : List α}, (∀ a, p a = true → q a = true) → (∃ a ∈ l, q a = true ∧ p a = false) → l.countP p < l.countP q
  | [], _, ⟨_, h, _⟩ => nomatch h
  | x :: l, h, ⟨a, ha, h1, h2⟩ => by
    have le : l.countP p ≤ l.countP q := List.countP_mono_left fun y _ hy => h y hy
    rw [List.countP_cons, List.countP_cons]
    rcases List.mem_cons.mp ha with rfl | ha
    · rw [h1, h2]; simp; omega
    · have ih := countP_lt h ⟨a, ha, h1, h2⟩
      by_cases hp : p x = true
      · rw [if_pos hp, if_pos (h x hp)]; omega
      · rw [if_neg hp]
        split <;> omega
theorem rank_lt {u v : α} (hu : u ∈ W) (h : D u < D v) : rank D W u < rank D W v :=
  countP_lt (fun a q => by simp at q ⊢; omega) ⟨u, hu, by simpa using h, by simp⟩
theorem rank_le (v : α) : rank D W v ≤ W.length := List.countP_le_length
/-- right up to a rank -/
def ExR (D : α → Int) (W : List α) (i : Nat) (f : α → Option Int) : Prop := ∀ v ∈ W, rank D W v ≤ i → f v = some (D v)
theorem ExR.zero (n : Net D W E b) {f : α → Option Int} (S : Snd D W b f) : ExR D W 0 f := fun v hv h => by
  have : ¬ D b < D v := fun q => by have := rank_lt n.bW q; omega
  have h1 := n.nn v hv
  have : v = b := h1.2 (by rw [n.b0] at this; omega)
  rw [this, S.1, n.b0]
/-- behind a round -/
theorem ExR.next (n : Net D W E b) {i : Nat} {f0 f : α → Option Int} (X : ExR D W i f0) (S : Snd D W b f) (R : ∀ w ∈ W, f0 w = some (D w) → ∀ v s, E w v s → ∃ y, f v = some y ∧ y ≤ D w + s) : ExR D W (i + 1) f := fun v hv h => by
  classical
  by_cases e : v = b
  · rw [e, S.1, n.b0]
  · obtain ⟨u, hu, s, he, hs⟩ := n.pre v hv e
    have h1 := (n.ed u hu v s he).2.2
    have := rank_lt (W := W) hu (show D u < D v by omega)
    obtain ⟨y, hy, ly⟩ := R u hu (X u hu (by omega)) v s he
    have := (S.2 v y hy).2
    rw [hy]
    congr 1
    omega
theorem ExR.all {i : Nat} {f : α → Option Int} (X : ExR D W i f) (h : W.length ≤ i) : ∀ v ∈ W, f v = some (D v) := fun v hv => X v hv (Nat.le_trans (rank_le v) h)
/-- nothing gets cheaper -/
theorem fixed (n : Net D W E b) {f : α → Option Int} (S : Snd D W b f) (R : ∀ w ∈ W, ∀ x, f w = some x → ∀ v s, E w v s → ∃ y, f v = some y ∧ y ≤ x + s) : ∀ v ∈ W, f v = some (D v) := by
  classical
  have key : ∀ (k : Nat) (v : α), v ∈ W → D v ≤ k → f v = some (D v) := by
    intro k
    induction k with
    | zero =>
      intro v hv h
      have h1 := n.nn v hv
      have : v = b := h1.2 (by omega)
      rw [this, S.1, n.b0]
    | succ k ih =>
      intro v hv h
      by_cases e : v = b
      · rw [e, S.1, n.b0]
      · obtain ⟨u, hu, s, he, hs⟩ := n.pre v hv e
        have h1 := (n.ed u hu v s he).2.2
        obtain ⟨y, hy, ly⟩ := R u hu _ (ih u hu (by omega)) v s he
        have := (S.2 v y hy).2
        rw [hy]
        congr 1
        omega
  intro v hv
  exact key (D v).toNat v hv (by have := (n.nn v hv).1; omega)
end
/-- the net of words -/
theorem net_words {zs zs2 : List Str} {g o : Str → Int} {ps : List ((Str × Str) × Int)} {c : Nd → Nd → Int} (N : PrN zs zs2 g o ps) (C : Clo (codesOf zs) (rOf (codesOf zs) g o ps) c) {n : Nat} {b : List Nat} (hb : b ∈ allU (codesOf zs) n) :
    Net (fun v => Dc c b.reverse v.reverse) (allU (codesOf zs) n) (fun u v s => ∃ k, k ≤ u.length ∧ NearIt (codesOf zs) g o ps u n k (v, s)) b := by
  have ov : ∀ {v : List Nat}, v ∈ allU (codesOf zs) n → ∀ a ∈ v.reverse, a ∈ codesOf zs := fun hv a ha => (mem_allU.mp hv).2 a (List.mem_reverse.mp ha)
  refine ⟨?_, hb, fun v hv => ?_, fun u hu v s he => ?_, fun v hv ne => ?_⟩
  · have h1 := Dc_self C b.reverse
    have h2 := (Dc_nn C b.reverse b.reverse (ov hb) (ov hb)).1
    show Dc c b.reverse b.reverse = 0
    omega
  · have h := Dc_nn C b.reverse v.reverse (ov hb) (ov hv)
    exact ⟨h.1, fun e => (List.reverse_inj.mp (h.2 e)).symm⟩
  · obtain ⟨k, hk, hn⟩ := he
    obtain ⟨l1, l2⟩ := mem_allU.mp hu
    have ch := near_chg N l2 hk hn
    refine ⟨mem_allU.mpr (near_word N l2 l1 hk hn), Dc_lip C ch b.reverse (ov hb), ?_⟩
    obtain ⟨_, _, y, z, _, _, _, _, e, _⟩ := chg_split ch
    exact rOf_pos N _ _ _ e
  · obtain ⟨w, s, h1, h2, h3, h4⟩ := Dc_pre C b.reverse v.reverse (ov hb) (ov hv) fun e => ne (List.reverse_inj.mp e).symm
    obtain ⟨lb, _⟩ := mem_allU.mp hb
    obtain ⟨lv, _⟩ := mem_allU.mp hv
    have hw : w.reverse ∈ allU (codesOf zs) n := mem_allU.mpr ⟨by
      rw [List.length_reverse]
      simp only [List.length_reverse] at h4
      omega, fun a ha => h2 a (List.mem_reverse.mp ha)⟩
    refine ⟨w.reverse, hw, s, chg_near N (by rw [List.reverse_reverse]; exact h1) lv, ?_⟩
    show Dc c b.reverse w.reverse.reverse + s ≤ _
    rw [List.reverse_reverse]
    exact h3
end MN
/-! _law_forced -/
namespace MN
open PySem PySem.Spec PyProof.Rows L2
/-- a dict from words to numbers -/
structure FM (W : List (List Nat)) (kvs : List (Key × V)) (f : List Nat → Option Int) : Prop where
  nd : (kvs.map (·.1)).Nodup
  ks : ∀ k ∈ kvs.map (·.1), ∃ v ∈ W, k = Sum.inr (wS v)
  vl : ∀ v, valV kvs (.inr (wS v)) = (f v).map V.int
theorem FM.put {W : List (List Nat)} {kvs : List (Key × V)} {f : List Nat → Option Int} (F : FM W kvs f) {v : List Nat} (hv : v ∈ W) (n : Int) : FM W (putK kvs (.inr (wS v)) (.int n)) (fun x => if x = v then some n else f x) := by
  refine ⟨?_, ?_, fun a => ?_⟩
  · rw [putK_keys]
    split
    · exact F.nd
    · rename_i h
      rw [List.nodup_append]
      refine ⟨F.nd, by simp, fun a ha b hb => ?_⟩
      rw [List.mem_singleton.mp hb]
      exact fun e => h (by rw [← e]; exact ha)
  · intro k hk
    rw [putK_keys] at hk
    split at hk
    · exact F.ks k hk
    · rcases List.mem_append.mp hk with hk | hk
      · exact F.ks k hk
      · exact ⟨v, hv, List.mem_singleton.mp hk⟩
  · rw [valV_put]
    by_cases e : a = v
    · rw [if_pos (by rw [e]), if_pos e]; rfl
    · rw [if_neg fun q => e (wS_inj (Sum.inr.inj q)), if_neg e]
      exact F.vl a
theorem FM.len {W : List (List Nat)} {kvs : List (Key × V)} {f : List Nat → Option Int} (F : FM W kvs f) : kvs.length ≤ W.length := by
  have h := len_sub (m := W.map fun v => (Sum.inr (wS v) : Key)) F.nd fun k hk => by
    obtain ⟨v, hv, rfl⟩ := F.ks k hk
    exact List.mem_map.mpr ⟨v, hv, rfl⟩
  rwa [List.length_map, List.length_map] at h
theorem merge_val {Pk : Key → V → Prop} : ∀ (kvs acc : List (Key × V)), (∀ k v, valV acc k = some v → Pk k v) → (∀ kv ∈ kvs, Pk kv.1 kv.2) → ∀ k v, valV (mergeK acc kvs) k = some v → Pk k v
  | [], _, h, _, k, v, q => h k v q
  | a :: kvs, acc, h, h2, k, v, q => by
    refine merge_val kvs (putK acc a.1 a.2) (fun k v e => ?_) (fun kv hk => h2 kv (List.mem_cons_of_mem _ hk)) k v q
    rw [valV_put] at e
    split at e
    · rename_i z
      cases e
      rw [z]
      exact h2 a List.mem_cons_self
    · exact h k v e
theorem merge_has : ∀ (kvs acc : List (Key × V)) (k : Key), ((∃ v, valV acc k = some v) ∨ k ∈ kvs.map (·.1)) → ∃ v, valV (mergeK acc kvs) k = some v
  | [], _, _, h => h.elim id fun q => nomatch q
  | a :: kvs, acc, k, h => by
    refine merge_has kvs (putK acc a.1 a.2) k ?_
    by_cases e : k = a.1
    · exact .inl ⟨a.2, by rw [valV_put, if_pos e]⟩
    · rcases h with ⟨v, h⟩ | h
      · exact .inl ⟨v, by rw [valV_put, if_neg e]; exact h⟩
      · rw [List.map_cons] at h
        rcases List.mem_cons.mp h with h | h
        · exact absurd h e
        · exact .inr h
section
variable {P : Program} {w : World} {K : PySem.W.Frag} {mg : Str → Option Value} {base : Heap} {Cp Cc : Addr}
def spForced (K : PySem.W.Frag) : Sp := fun vs H Q _ => ∃ t A B S zs g o ps c b n lw, vs = [.ref t, .str (wS b), .ref lw, .int (n : Nat)] ∧ TblAt H t zs g o ps A B S ∧ PrN zs zs g o ps ∧ zs.length ≤ 3 ∧ n ≤ 8 ∧ Clo (codesOf zs) (rOf (codesOf zs) g o ps) c ∧ SqL K H lw (wordsV (allU (codesOf zs) n)) ∧ b ∈ allU (codesOf zs) n ∧
  ∀ Fd kvs H', H Fd = none → Same H H' → H' Fd = some (.dK kvs) → (∀ v ∈ allU (codesOf zs) n, valV kvs (.inr (wS v)) = some (.int (Dc c b.reverse v.reverse))) → Q (.ref Fd) H'
abbrev N_law_forced : List Str := ["_law_table", "_law_begin", "_law_words", "_law_most", "_law_found", "_law_nearby_here", "_law_word", "_law_turn", "_law_is_new", "_law_other", "_law_step"]
theorem sc_law_forced : FnScope N_law_forced ["_law_table", "_law_begin", "_law_words", "_law_most"] (defScope (top 41)) := ⟨rfl, rfl, rfl, by decide +kernel, rfl, by decide +kernel, by decide +kernel⟩
theorem c_law_forced (A : At K mg "_law_forced" (top 41)) (B : Blt mg) (c_law_nearby : Cal P w K mg base 1 "_law_nearby" spNearby) : Cal P w K mg base 2 "_law_forced" (spForced K) := by
  refine cal_of A sc_law_forced (fun _ _ _ _ _ _ us hl => match us, hl with | [_, _, _, _], _ => rfl) (fun vs H Q E h => ?_) (fun _ cdv A outer s H vs Q E hr h => ?_)
  · obtain ⟨_, _, _, _, _, _, _, _, _, _, _, _, rfl, _⟩ := h; rfl
  · obtain ⟨t, TA, TB, TW, zs, g, o, ps, c, b, n, lw, rfl, T, N, l3, n8, C, hlw, hb, hQ⟩ := h
    refine ⟨_, (pss_cons (ps_par (i := 4) (j := 5) (by rfl) sc_law_forced.nd rfl rfl (by decide) rfl rfl (pa_cons (pe_disp (pps_cons (pv 1) pe_int pps_nil) rfl rfl (by decide) (by decide)) (pa_cons (pe_callTy (call_dictP rfl) (by rfl) B.dict (by decide +kernel) (pa_cons (pe_lc (own := [("_law_word", 6)]) (g := gName 6) (tt := tYes) (by rfl) sc_law_forced.nd (pi_list (pv 2)) (blkOk_by (own := [("_law_word", 6)]) (N := N_law_forced) (sc := defScope (top 41)) (by decide +kernel)) (fun _ _ _ _ _ => (pg_name (i := 6) sc_law_forced.nd rfl (Or.inl rfl))) (fun _ _ _ _ _ => pts_nil) (fun _ _ _ _ _ => (pe_tup (pa_cons (pv 6) (pa_cons (pe_c c_law_nearby hr (by decide) (by rfl) (pa_cons (pv 0) (pa_cons (pv 6) (pa_cons (pv 3) pa_nil)))) pa_nil))))) pa_nil)) pa_nil)) (by rfl))
      (pss_cons (ps_for PassesOwn.never rfl (pi_range1 (by rfl) B.range (pa_cons (pe_op op_add (pe_callB call_len_seq (by rfl) B.len (by decide +kernel) (pa_cons (pv 2) pa_nil)) pe_int) pa_nil)) (pg_name (i := 7) sc_law_forced.nd rfl (Or.inl rfl))
        (pss_cons (ps_set (i := 8) sc_law_forced.nd rfl (Or.inl rfl) pe_bl)
        (pss_cons (ps_for PassesOwn.never rfl (pi_list (pv 2)) (pg_name (i := 6) sc_law_forced.nd rfl (Or.inl rfl))
          (pss_one (ps_for PassesOwn.never rfl (pi_list (pe_ifExp (pt_cmp (pc_din (hu_of hr) (pv 6) (pv 4))) (pe_dget (hu_of hr) (pv 5) (pv 6) (fun _ _ => rfl)) (pe_lst pa_nil))) (pg_tup rfl (pgs_cons (pg_name (i := 9) sc_law_forced.nd rfl (Or.inl rfl)) (pgs_cons (pg_name (i := 10) sc_law_forced.nd rfl (Or.inl rfl)) pgs_nil)))
            (pss_one (ps_if (PW.pt (pw_or (pt_cmp (pc_dnotin (hu_of hr) (pv 9) (pv 4))) (pw_or1 (pt_cmpR op_lt (pe_op op_add (pe_dget (hu_of hr) (pv 4) (pv 6) (fun _ _ => rfl)) (pv 10)) (pe_dget (hu_of hr) (pv 4) (pv 9) (fun _ _ => rfl)) (nomark _)))))
              (pss_cons (ps_dput (hu_of hr) (pv 4) (pv 9) (pe_op op_add (pe_dget (hu_of hr) (pv 4) (pv 6) (fun _ _ => rfl)) (pv 10)) (by rfl))
              (pss_one (ps_set (i := 8) sc_law_forced.nd rfl (Or.inl rfl) pe_bl)))
              pss_nil)))))
        (pss_one (ps_if (pt_not (pt_val (pv 8)))
          (pss_one (ps_ret (pv 4)))
          pss_nil)))))
      (pss_one (ps_ret (pv 4))))), ?_⟩
    have two : 2 ≤ sizeLine := by decide
    have big : 100000 < sizeLine := by decide
    have lc : (codesOf zs).length ≤ 3 := by simpa [codesOf] using l3
    have NT := net_words N C hb
    generalize hW : allU (codesOf zs) n = W at hlw hb hQ NT
    have wl : W.length ≤ 9 * 6561 := by
      rw [← hW]
      exact Nat.le_trans (allU_le lc n8) (Nat.mul_le_mul_right _ (by omega))
    have wov : ∀ v ∈ W, v.length ≤ n ∧ ∀ a ∈ v, a ∈ codesOf zs := fun v hv => by rw [← hW] at hv; exact mem_allU.mp hv
    -- {begin: 0}
    refine fun Fd hFd => ⟨_, rfl, ?_⟩
    refine ⟨upd_same, [(.inr (wS b), .int 0)], rfl, (by show 1 ≤ 15; decide), ?_⟩
    rw [upd_upd, show mergeK [] [((.inr (wS b) : Key), V.int 0)] = [(.inr (wS b), .int 0)] from rfl]
    have e1 := same_new (o := .dK [((.inr (wS b) : Key), V.int 0)]) hFd
    have hF1 : upd H Fd (.dK [((.inr (wS b) : Key), V.int 0)]) Fd = some (.dK [(.inr (wS b), .int 0)]) := upd_same
    generalize upd H Fd (.dK [((.inr (wS b) : Key), V.int 0)]) = H1 at e1 hF1 ⊢
    have FM0 : FM W [(.inr (wS b), .int 0)] (fun x => if x = b then some 0 else none) := by
      have := (⟨by simp, by simp, fun v => rfl⟩ : FM W [] fun _ => none).put hb 0
      exact this
    -- nearby words
    have hl1 := Same.seq e1 hlw
    have lw1 : (wordsV W).length = W.length := by simp [wordsV]
    refine ⟨_, rfl, lw, rfl, ⟨_, hl1⟩, fun D hD => ?_⟩
    refine lc_it walk_list (fun i H' => Same H1 H' ∧ ∃ (ts : List Addr) (kvs : List (Key × V)), H' D = some (.lst (ts.map V.ref)) ∧ ts.length = i ∧ Paired (fun t (kv : Key × V) => H' t = some (.tup [kV kv.1, kv.2])) ts kvs ∧ kvs.map (·.1) = (W.take i).map (fun v => (Sum.inr (wS v) : Key)) ∧ ∀ kv ∈ kvs, ∃ v ∈ W, ∃ F es, kv = (.inr (wS v), .ref F) ∧ F ≠ D ∧ FAt H' F es ∧ es.length ≤ 1000 ∧ ∀ e, e ∈ es ↔ ∃ k, k ≤ v.length ∧ NearIt (codesOf zs) g o ps v n k e) ⟨same_new hD, [], [], upd_same, rfl, .nil, by simp, by simp⟩ (fun i H' _ e => Same.seq e.1 hl1) (fun i x Ha Hb hi e y => ?_) (fun H2 e => ?_)
    · obtain ⟨rfl, hx⟩ := y
      obtain ⟨ea, ts, kvs, hDa, lt, pr, keys, good⟩ := e
      unfold wordsV at hx
      rw [List.getElem?_map] at hx
      obtain ⟨v, hv, rfl⟩ := Option.map_eq_some_iff.mp hx
      have mv := List.mem_of_getElem? hv
      obtain ⟨lv, ovv⟩ := wov v mv
      refine ⟨rfl, yes_q (iteT ⟨_, rfl, _, rfl, _, rfl, _, rfl, t, TA, TB, TW, zs, g, o, ps, v, n, rfl, T.same (e1.trans ea), N, ovv, by omega, fun F es Hc fF ec Fc lec mc => ⟨two, fun T0 hT0 => ⟨ts.map V.ref, ?_, ?_, ?_, ts ++ [T0], kvs ++ [(.inr (wS v), .ref F)], ?_, ?_, ?_, ?_, ?_⟩⟩⟩)⟩
      · have f := same_new (o := .tup [.str (wS v), .ref F]) hT0
        exact f _ _ (ec _ _ hDa)
      · rw [List.length_map, lt]
        have : i < (wordsV W).length := hi
        omega
      · intro b' u' q
        rw [upd_ne (ne_of_none q hD)]
        exact same_new hT0 _ _ (ec _ _ (ea _ _ q))
      · rw [upd_same, List.map_append]; rfl
      · rw [List.length_append, lt]; rfl
      · have f := same_new (o := .tup [.str (wS v), .ref F]) hT0
        have nD : ∀ {t' : Addr} {xs : List V}, upd Hc T0 (.tup [.str (wS v), .ref F]) t' = some (.tup xs) → t' ≠ D := fun h z => by
          have := f _ _ (ec _ _ hDa)
          rw [z, this] at h
          cases h
        refine paired_snoc (L2.Paired.mapP pr fun t' kv q => ?_) ?_
        · have := f _ _ (ec _ _ q)
          rw [upd_ne (nD this)]; exact this
        · rw [upd_ne (nD upd_same)]; exact upd_same
      · rw [List.map_append, keys, List.take_add_one, hv, List.map_append]; rfl
      · have f := same_new (o := .tup [.str (wS v), .ref F]) hT0
        have keep : ∀ {F' : Addr} {es' : List (List Nat × Int)}, F' ≠ D → FAt (upd Hc T0 (.tup [.str (wS v), .ref F])) F' es' → FAt (upd (upd Hc T0 (.tup [.str (wS v), .ref F])) D (.lst (ts.map V.ref ++ [.ref T0]))) F' es' := fun {F' es'} nF h => by
          obtain ⟨us, h1, h2⟩ := h
          refine ⟨us, by rw [upd_ne nF]; exact h1, L2.Paired.mapP h2 fun t' e q => ?_⟩
          have := f _ _ (ec _ _ hDa)
          have nD : t' ≠ D := fun z => by rw [z, this] at q; cases q
          rw [upd_ne nD]; exact q
        intro kv hkv
        rcases List.mem_append.mp hkv with hkv | hkv
        · obtain ⟨v', hv', F', es', rfl, nF, Fa, le', me'⟩ := good kv hkv
          exact ⟨v', hv', F', es', rfl, nF, keep nF ((Fa.same ec).same f), le', me'⟩
        · rw [List.mem_singleton.mp hkv]
          have nF : F ≠ D := fun z => by rw [z, hDa] at fF; cases fF
          exact ⟨v, mv, F, es, rfl, nF, keep nF (Fc.same f), lec, mc⟩
    obtain ⟨e2, ts, kvs, hD2, lt, pr, keys, good⟩ := e
    rw [lw1, List.take_length] at keys
    refine ⟨D, ts, kvs, rfl, SqL.of hD2, L2.Paired.mapP pr fun _ _ q => .inl (.inl q), fun NH hNH => ⟨_, _, rfl, ?_⟩⟩
    have f3 := same_new (o := .dK (mergeK [] kvs)) hNH
    have e3 := e2.trans f3
    have hN3 : upd H2 NH (.dK (mergeK [] kvs)) NH = some (.dK (mergeK [] kvs)) := upd_same
    have near3 : ∀ v ∈ W, ∃ F es, valV (mergeK [] kvs) (.inr (wS v)) = some (.ref F) ∧ FAt (upd H2 NH (.dK (mergeK [] kvs))) F es ∧ es.length ≤ 1000 ∧ ∀ e, e ∈ es ↔ ∃ k, k ≤ v.length ∧ NearIt (codesOf zs) g o ps v n k e := fun v hv => by
      obtain ⟨x, hx⟩ := merge_has kvs [] (.inr (wS v)) (.inr (by rw [keys]; exact List.mem_map.mpr ⟨v, hv, rfl⟩))
      have := merge_val (Pk := fun k x => ∀ v, k = Sum.inr (wS v) → ∃ F es, x = .ref F ∧ FAt H2 F es ∧ es.length ≤ 1000 ∧ ∀ e, e ∈ es ↔ ∃ k, k ≤ v.length ∧ NearIt (codesOf zs) g o ps v n k e) kvs [] (fun k x h => by cases h) (fun kv hkv v e => by
        obtain ⟨v', _, F, es, rfl, _, Fa, le, me⟩ := good kv hkv
        cases wS_inj (Sum.inr.inj e)
        exact ⟨F, es, rfl, Fa, le, me⟩) _ x hx v rfl
      obtain ⟨F, es, rfl, Fa, le, me⟩ := this
      exact ⟨F, es, hx, Fa.same f3, le, me⟩
    have hF3 := e3 _ _ hF1
    generalize upd H2 NH (.dK (mergeK [] kvs)) = H3 at e3 hN3 near3 hF3 ⊢
    generalize mergeK [] kvs = kN at hN3 near3
    have NF : NH ≠ Fd := fun z => by rw [z, e2 _ _ hF1] at hNH; cases hNH
    have lwF : lw ≠ Fd ∨ True := .inr trivial
    have hl3 : ∀ {H' : Hp}, But Fd H3 H' → SqL K H' lw (wordsV W) := fun {H'} bt => by
      rcases Same.seq (e1.trans e3) hlw with (q | ⟨od, q⟩) | q
      · refine .inl (.inl (bt _ _ ?_ q))
        intro z; rw [z, hF3] at q; cases q
      · refine .inl (.inr ⟨od, bt _ _ ?_ q⟩)
        intro z; rw [z, hF3] at q; cases q
      · exact .inr q
    have keep3 : ∀ {H' : Hp}, But Fd H3 H' → Same H H' := fun bt b' u' q => bt b' u' (ne_of_none q hFd) (e3 _ _ (e1 _ _ q))
    clear good keys pr hD2 lt f3 e2 hNH
    have S0 : Snd (fun v => Dc c b.reverse v.reverse) W b (fun x => if x = b then some 0 else none) := by
      refine ⟨if_pos rfl, fun v x h => ?_⟩
      have h' : (if v = b then some 0 else none) = some x := h
      by_cases e : v = b
      · rw [if_pos e] at h'
        cases h'
        rw [e]
        exact ⟨hb, Int.le_of_eq NT.b0⟩
      · rw [if_neg e] at h'
        cases h'
    -- rounds
    refine ⟨_, rfl, lw, _, rfl, .inl (hl3 But.refl), _, _, rfl, rfl, _, rfl, (by omega), (by rw [lw1]; omega), for_it (walk_range (lo := 0)) (fun i σ H' => (∃ o6 o7 o8 o9 o10, σ = [some (.ref t), some (.str (wS b)), some (.ref lw), some (.int (n : Nat)), some (.ref Fd), some (.ref NH), o6, o7, o8, o9, o10]) ∧ But Fd H3 H' ∧ ∃ kvs f, H' Fd = some (.dK kvs) ∧ FM W kvs f ∧ Snd (fun v => Dc c b.reverse v.reverse) W b f ∧ ExR (fun v => Dc c b.reverse v.reverse) W i f) ⟨⟨_, _, _, _, _, rfl⟩, But.refl, _, _, hF3, FM0, S0, ExR.zero NT S0⟩ (fun _ _ _ _ _ => trivial) (fun i y σ Ha Hb hi e hy => ?_) (fun σ H5 e => ?_)⟩
    · obtain ⟨rfl, rfl⟩ := hy
      obtain ⟨⟨o6, o7, o8, o9, o10, rfl⟩, ba, kv0, f0, hFa, M0, S1, X0⟩ := e
      refine ⟨_, rfl, lw, rfl, ⟨_, hl3 ba⟩, for_it walk_list (fun j σ H' => ∃ nw : Bool, (∃ o6 o9 o10, σ = [some (.ref t), some (.str (wS b)), some (.ref lw), some (.int (n : Nat)), some (.ref Fd), some (.ref NH), o6, some (.int ((0 : Nat) + i)), some (.bl nw), o9, o10]) ∧ But Fd H3 H' ∧ ∃ kvs f, H' Fd = some (.dK kvs) ∧ FM W kvs f ∧ Snd (fun v => Dc c b.reverse v.reverse) W b f ∧ LeF f0 f ∧
        (∀ u ∈ W.take j, f0 u = some (Dc c b.reverse u.reverse) → ∀ v s, (∃ k, k ≤ u.length ∧ NearIt (codesOf zs) g o ps u n k (v, s)) → ∃ y, f v = some y ∧ y ≤ Dc c b.reverse u.reverse + s) ∧
        (nw = false → f = f0 ∧ ∀ u ∈ W.take j, ∀ x, f u = some x → ∀ v s, (∃ k, k ≤ u.length ∧ NearIt (codesOf zs) g o ps u n k (v, s)) → ∃ y, f v = some y ∧ y ≤ x + s)) ⟨false, ⟨_, _, _, rfl⟩, ba, kv0, f0, hFa, M0, S1, LeF.refl, by simp, fun _ => ⟨rfl, by simp⟩⟩ (fun j σ H' _ e => by obtain ⟨_, _, bt, _⟩ := e; exact hl3 bt) (fun j y σ Hc0 Hc hj e hy => ?_) (fun σ H4 e => ?_)⟩
      · obtain ⟨rfl, hy⟩ := hy
        obtain ⟨nw, ⟨o6, o9, o10, rfl⟩, bc, kvs, f, hFc, M, S, LE, R, NN⟩ := e
        unfold wordsV at hy
        rw [List.getElem?_map] at hy
        obtain ⟨u, hu, rfl⟩ := Option.map_eq_some_iff.mp hy
        have mu := List.mem_of_getElem? hu
        have tk : ∀ x, x ∈ W.take (j + 1) ↔ x ∈ W.take j ∨ x = u := fun x => by rw [List.take_add_one, hu]; simp
        have hNc := bc _ _ NF hN3
        refine ⟨_, rfl, _, rfl, Fd, (f u).map V.int, rfl, .inl ⟨kvs, .inr (wS u), .inl hFc, rfl, (M.vl u).symm⟩, _, rfl, ?_⟩
        cases fu : f u with
        | none =>
          refine iteF ⟨Nat.zero_le _, fun p0 hp0 => ⟨p0, rfl, ⟨[], SqL.of upd_same⟩, ?_⟩⟩
          have g0 := same_new (o := .lst []) hp0
          refine for_it (walk_list (xs := [])) (fun _ σ H' => (∃ o6 o9 o10, σ = [some (.ref t), some (.str (wS b)), some (.ref lw), some (.int (n : Nat)), some (.ref Fd), some (.ref NH), o6, some (.int ((0 : Nat) + i)), some (.bl nw), o9, o10]) ∧ H' = upd Hc p0 (.lst [])) ⟨⟨_, _, _, rfl⟩, rfl⟩ (fun _ _ H' _ e => by rw [e.2]; exact SqL.of upd_same) (fun m _ _ _ _ hm => absurd hm (Nat.not_lt_zero _)) (fun σ H' e => ?_)
          obtain ⟨⟨o6, o9, o10, rfl⟩, rfl⟩ := e
          refine ⟨nw, ⟨_, _, _, rfl⟩, bc.same g0, kvs, f, g0 _ _ hFc, M, S, LE, fun v hv h0 => ?_, fun hn => ⟨(NN hn).1, fun v hv x hx => ?_⟩⟩
          · rcases (tk v).mp hv with hv | rfl
            · exact R v hv h0
            · obtain ⟨x', hx', _⟩ := LE v _ h0
              rw [fu] at hx'
              cases hx'
          · rcases (tk v).mp hv with hv | rfl
            · exact (NN hn).2 v hv x hx
            · rw [fu] at hx
              cases hx
        | some x =>
          obtain ⟨F, es, vF, FA, le, me⟩ := near3 u mu
          refine iteT ⟨_, rfl, _, rfl, NH, .ref F, rfl, .inl ⟨_, .inr (wS u), .inl hNc, rfl, vF.symm⟩, F, rfl, ?_⟩
          obtain ⟨us, hFF, hPP⟩ := FA
          have FF : F ≠ Fd := fun z => by rw [z, hF3] at hFF; cases hFF
          have lus : us.length = es.length := Paired.length hPP
          have sqF : ∀ {H' : Hp}, But Fd H3 H' → SqL K H' F (us.map V.ref) := fun bt => SqL.of (bt _ _ FF hFF)
          have Du : Dc c b.reverse u.reverse ≤ x := (S.2 u x fu).2
          have Du0 : 0 ≤ Dc c b.reverse u.reverse := (NT.nn u mu).1
          refine ⟨⟨_, sqF bc⟩, for_it walk_list (fun m σ H' => ∃ nw' : Bool, (∃ o9 o10, σ = [some (.ref t), some (.str (wS b)), some (.ref lw), some (.int (n : Nat)), some (.ref Fd), some (.ref NH), some (.str (wS u)), some (.int ((0 : Nat) + i)), some (.bl nw'), o9, o10]) ∧ But Fd H3 H' ∧ ∃ kvs f', H' Fd = some (.dK kvs) ∧ FM W kvs f' ∧ Snd (fun v => Dc c b.reverse v.reverse) W b f' ∧ LeF f f' ∧ f' u = some x ∧ (∀ e ∈ es.take m, ∃ y, f' e.1 = some y ∧ y ≤ x + e.2) ∧ (nw' = false → nw = false ∧ f' = f)) ⟨nw, ⟨_, _, rfl⟩, bc, kvs, f, hFc, M, S, LeF.refl, fu, by simp, fun h => ⟨h, rfl⟩⟩ (fun m σ H' _ e => by obtain ⟨_, _, bt, _⟩ := e; exact sqF bt) (fun m y σ Hd0 Hd hm e hy => ?_) (fun σ H' e => ?_)⟩
          · obtain ⟨rfl, hy⟩ := hy
            obtain ⟨nw', ⟨o9, o10, rfl⟩, bd, kvs', f', hFd', M', S', LE', fu', R', NN'⟩ := e
            rw [List.getElem?_map] at hy
            obtain ⟨te, hte, rfl⟩ := Option.map_eq_some_iff.mp hy
            have hm' : m < es.length := by
              have : m < (us.map V.ref).length := hm
              rw [List.length_map] at this
              omega
            obtain ⟨⟨v, s⟩, hvs, htup⟩ := LiI.paired_get hPP hte
            have mE : (v, s) ∈ es := List.mem_of_getElem? hvs
            obtain ⟨vW, vD, s1⟩ := NT.ed u mu v s ((me (v, s)).mp mE)
            have tF : te ≠ Fd := fun z => by rw [z, hF3] at htup; cases htup
            have htd := bd _ _ tF htup
            have tkm : ∀ e, e ∈ es.take (m + 1) ↔ e ∈ es.take m ∨ e = (v, s) := fun e => by rw [List.take_add_one, hvs]; simp
            have small : kvs'.length < sizeLine := by have := M'.len; omega
            have du : DGet Hd Fd (.str (wS u)) (some (.int x)) := .inl ⟨kvs', .inr (wS u), .inl hFd', rfl, by rw [M'.vl, fu']; rfl⟩
            refine ⟨te, _, rfl, .inl (.inl htd), rfl, _, _, rfl, _, _, rfl, rfl, ?_⟩
            refine ⟨_, rfl, _, rfl, Fd, (f' v).map V.int, rfl, .inl ⟨kvs', .inr (wS v), .inl hFd', rfl, (M'.vl v).symm⟩, _, rfl, ?_⟩
            have upd_ok : (∀ y, f' v = some y → x + s < y) → ∃ nw'' : Bool, (∃ o9 o10, [some (.ref t), some (.str (wS b)), some (.ref lw), some (.int (n : Nat)), some (.ref Fd), some (.ref NH), some (.str (wS u)), some (.int ((0 : Nat) + i)), some (.bl true), some (.str (wS v)), some (.int s)] = [some (.ref t), some (.str (wS b)), some (.ref lw), some (.int (n : Nat)), some (.ref Fd), some (.ref NH), some (.str (wS u)), some (.int ((0 : Nat) + i)), some (V.bl nw''), o9, o10]) ∧ But Fd H3 (upd Hd Fd (.dK (putK kvs' (.inr (wS v)) (.int (x + s))))) ∧ ∃ kvs f'', upd Hd Fd (.dK (putK kvs' (.inr (wS v)) (.int (x + s)))) Fd = some (.dK kvs) ∧ FM W kvs f'' ∧ Snd (fun v => Dc c b.reverse v.reverse) W b f'' ∧ LeF f f'' ∧ f'' u = some x ∧ (∀ e ∈ es.take (m + 1), ∃ y, f'' e.1 = some y ∧ y ≤ x + e.2) ∧ (nw'' = false → nw = false ∧ f'' = f) := fun hlt => by
              have L2f : LeF f' (fun z => if z = v then some (x + s) else f' z) := fun z y hz => by
                by_cases e : z = v
                · subst e
                  exact ⟨x + s, if_pos rfl, by have := hlt y hz; omega⟩
                · exact ⟨y, (if_neg e).trans hz, Int.le_refl _⟩
              refine ⟨true, ⟨_, _, rfl⟩, bd.put, _, fun z => if z = v then some (x + s) else f' z, upd_same, M'.put vW (x + s), ⟨?_, fun z y hz => ?_⟩, LE'.trans L2f, ?_, fun e he => ?_, fun h => by cases h⟩
              · show (if b = v then some (x + s) else f' b) = some 0
                by_cases e : b = v
                · have := hlt 0 (by rw [← e]; exact S'.1)
                  omega
                · rw [if_neg e]; exact S'.1
              · have hz' : (if z = v then some (x + s) else f' z) = some y := hz
                by_cases e : z = v
                · rw [if_pos e] at hz'
                  cases hz'
                  rw [e]
                  exact ⟨vW, by show Dc c b.reverse v.reverse ≤ x + s; have : Dc c b.reverse v.reverse ≤ Dc c b.reverse u.reverse + s := vD; have : Dc c b.reverse u.reverse ≤ x := Du; omega⟩
                · rw [if_neg e] at hz'
                  exact S'.2 z y hz'
              · show (if u = v then some (x + s) else f' u) = some x
                by_cases e : u = v
                · have := hlt x (by rw [← e]; exact fu')
                  omega
                · rw [if_neg e]; exact fu'
              · rcases (tkm e).mp he with he | rfl
                · obtain ⟨y, hy, ly⟩ := R' e he
                  obtain ⟨y', hy', ly'⟩ := L2f _ _ hy
                  exact ⟨y', hy', by omega⟩
                · exact ⟨x + s, if_pos rfl, Int.le_refl _⟩
            cases fv : f' v with
            | none =>
              refine iteT (iteT ⟨_, rfl, _, rfl, Fd, .int x, rfl, du, _, rfl, _, _, rfl, rfl, _, rfl, _, rfl, Fd, _, rfl, .inl ⟨kvs', .inr (wS v), hFd', rfl, small, rfl⟩, ?_⟩)
              exact upd_ok fun y h => by rw [fv] at h; cases h
            | some y =>
              have dv : DGet Hd Fd (.str (wS v)) (some (.int y)) := .inl ⟨kvs', .inr (wS v), .inl hFd', rfl, by rw [M'.vl, fv]; rfl⟩
              refine iteF ⟨_, rfl, _, rfl, Fd, .int x, rfl, du, _, rfl, _, _, rfl, rfl, _, rfl, _, rfl, Fd, .int y, rfl, dv, _, _, rfl, rfl, _, rfl, ?_⟩
              by_cases lt : x + s < y
              · rw [decide_eq_true lt]
                refine iteT ⟨_, rfl, _, rfl, Fd, .int x, rfl, du, _, rfl, _, _, rfl, rfl, _, rfl, _, rfl, Fd, _, rfl, .inl ⟨kvs', .inr (wS v), hFd', rfl, small, rfl⟩, ?_⟩
                exact upd_ok fun y' h => by rw [fv] at h; cases h; exact lt
              · rw [decide_eq_false lt]
                refine iteF ⟨nw', ⟨_, _, rfl⟩, bd, kvs', f', hFd', M', S', LE', fu', fun e he => ?_, NN'⟩
                rcases (tkm e).mp he with he | rfl
                · exact R' e he
                · exact ⟨y, fv, by show y ≤ x + s; omega⟩
          · obtain ⟨nw', ⟨o9, o10, rfl⟩, bd, kvs', f', hFd', M', S', LE', fu', R', NN'⟩ := e
            have lm : (us.map V.ref).length = es.length := by rw [List.length_map, lus]
            rw [lm, List.take_length] at R'
            refine ⟨nw', ⟨_, _, _, rfl⟩, bd, kvs', f', hFd', M', S', LE.trans LE', fun z hz h0 v s he => ?_, fun hn => ?_⟩
            · rcases (tk z).mp hz with hz | rfl
              · obtain ⟨y, hy, ly⟩ := R z hz h0 v s he
                obtain ⟨y', hy', ly'⟩ := LE' v y hy
                exact ⟨y', hy', by omega⟩
              · obtain ⟨x', hx', lx'⟩ := LE z _ h0
                rw [fu] at hx'
                cases hx'
                obtain ⟨y, hy, ly⟩ := R' (v, s) ((me (v, s)).mpr he)
                exact ⟨y, hy, by have : y ≤ x + s := ly; omega⟩
            · obtain ⟨hn1, rfl⟩ := NN' hn
              refine ⟨(NN hn1).1, fun z hz x' hx' v s he => ?_⟩
              rcases (tk z).mp hz with hz | rfl
              · exact (NN hn1).2 z hz x' hx' v s he
              · rw [fu] at hx'
                cases hx'
                exact R' (v, s) ((me (v, s)).mpr he)
      · obtain ⟨nw, ⟨o6, o9, o10, rfl⟩, bc, kvs, f, hFc, M, S, LE, R, NN⟩ := e
        rw [lw1, List.take_length] at R
        refine ⟨_, rfl, _, rfl, ?_⟩
        cases nw with
        | false =>
          obtain ⟨rfl, RR⟩ := NN rfl
          rw [lw1, List.take_length] at RR
          have fin := fixed NT S RR
          refine iteT ⟨_, rfl, hQ Fd kvs H4 hFd (keep3 bc) hFc fun v hv => ?_⟩
          rw [M.vl, fin v hv]; rfl
        | true =>
          exact iteF ⟨⟨_, _, _, _, _, rfl⟩, bc, kvs, f, hFc, M, S, X0.next NT S R⟩
    · obtain ⟨⟨o6, o7, o8, o9, o10, rfl⟩, ba, kv0, f0, hFa, M0, S1, X0⟩ := e
      have fin := X0.all (by rw [lw1]; omega)
      refine ⟨_, rfl, hQ Fd kv0 H5 hFd (keep3 ba) hFa fun v hv => ?_⟩
      rw [M0.vl, fin v hv]; rfl
end
end MN
/-! _law_closed_right -/
namespace MN
open PySem PySem.Spec PyProof.Rows L2
theorem rOf_perm {zs ys : List Str} {g o : Str → Int} {ps qs : List ((Str × Str) × Int)} (sn : (ps.map Prod.fst).Nodup) (pm : ys.Perm zs) (pq : qs.Perm ps) (x y : Nd) : rOf (codesOf ys) g o qs x y = rOf (codesOf zs) g o ps x y := by
  have mem : ∀ a, a ∈ codesOf ys ↔ a ∈ codesOf zs := fun a => (pm.map _).mem_iff
  cases x with
  | none =>
    cases y with
    | none => rfl
    | some b =>
      show (if b ∈ codesOf ys then _ else _) = (if b ∈ codesOf zs then _ else _)
      by_cases h : b ∈ codesOf zs
      · rw [if_pos h, if_pos ((mem b).mpr h)]
      · rw [if_neg h, if_neg fun q => h ((mem b).mp q)]
  | some a =>
    cases y with
    | none =>
      show (if a ∈ codesOf ys then _ else _) = (if a ∈ codesOf zs then _ else _)
      by_cases h : a ∈ codesOf zs
      · rw [if_pos h, if_pos ((mem a).mpr h)]
      · rw [if_neg h, if_neg fun q => h ((mem a).mp q)]
    | some b => exact findP_perm sn pq _ _
theorem clo_conv {zs ys : List Str} {g o : Str → Int} {ps qs : List ((Str × Str) × Int)} {c : Nd → Nd → Int} (sn : (ps.map Prod.fst).Nodup) (pm : ys.Perm zs) (pq : qs.Perm ps) (C : Clo (codesOf ys) (rOf (codesOf ys) g o qs) c) : Clo (codesOf zs) (rOf (codesOf zs) g o ps) c :=
  (C.perm fun a => ((pm.map _).mem_iff).symm).congr fun x y _ _ => (rOf_perm sn pm pq x y).symm
/-- costs of single signs -/
theorem Dc_put1 {c : Nd → Nd → Int} (b : Nat) : Dc c [] [b] = c none (some b) := by simp [Dc]
theorem Dc_out1 {c : Nd → Nd → Int} (a : Nat) : Dc c [a] [] = c (some a) none := by simp [Dc]
theorem Dc_swp1 {L : List Nat} {r : Nd → Nd → Option Int} {c : Nd → Nd → Int} (C : Clo L r c) {a b : Nat} (ha : a ∈ L) (hb : b ∈ L) : Dc c [a] [b] = c (some a) (some b) := by
  have h := C.tri (some a) none (some b) (InL.of ha) InL.no (InL.of hb)
  simp only [Dc]
  omega
section
variable {P : Program} {w : World} {K : PySem.W.Frag} {mg : Str → Option Value} {base : Heap} {Cp Cc : Addr}
def spClosedRight (Cp : Addr) : Sp := fun vs H Q _ => ∃ t A B S zs g o ps x dx ys ys2 qs, vs = [.ref t, .ref x] ∧ TblAt H t zs g o ps A B S ∧ PrN zs zs g o ps ∧ PrAt Cp H x dx ys ys2 g o qs ∧ PrN ys ys2 g o qs ∧ ys.Perm zs ∧ qs.Perm ps ∧ ∀ H', Same H H' → Q (.bl true) H'
abbrev N_law_closed_right : List Str := ["_law_table", "_law_prices", "_law_told", "_law_letters", "_law_one", "_law_other", "_law_pair"]
theorem sc_law_closed_right : FnScope N_law_closed_right ["_law_table", "_law_prices"] (defScope (top 42)) := ⟨rfl, rfl, rfl, by decide +kernel, rfl, by decide +kernel, by decide +kernel⟩
theorem c_law_closed_right (A : At K mg "_law_closed_right" (top 42)) (B : Blt mg) (PC : PrC K mg Cp Cc) (c_are_prices : Cal P w K mg base 3 "are_prices" spAreP) (c_closed_of : Cal P w K mg base 3 "closed_of" (spClosedOf Cp Cc)) (c_distance : Cal P w K mg base 4 "distance" (spDistance Cp)) : Cal P w K mg base 7 "_law_closed_right" (spClosedRight Cp) := by
  obtain ⟨gm, hM, hFM⟩ := r_pclosed (P := P) (w := w) (base := base) PC B c_are_prices c_closed_of
  obtain ⟨⟨pp, gp, hpp, Fp⟩, ⟨po, go, hpo, Fo⟩, ⟨pw, gw, hpw, Fw⟩⟩ := r_props (P := P) (w := w) (mg := mg) (base := base) PC B
  refine cal_of A sc_law_closed_right (fun _ _ _ _ _ _ us hl => match us, hl with | [_, _], _ => rfl) (fun vs H Q E h => ?_) (fun _ cdv A outer s H vs Q E hr h => ?_)
  · obtain ⟨_, _, _, _, _, _, _, _, _, _, _, _, _, rfl, _⟩ := h; rfl
  · obtain ⟨t, TA, TB, TW, zs, g, o, ps, x, dx, ys, ys2, qs, rfl, T, N, hP, NP, pm, pq, hQ⟩ := h
    refine ⟨_, (pss_cons (ps_par (i := 2) (j := 3) (by rfl) sc_law_closed_right.nd rfl rfl (by decide) rfl rfl (pa_cons (SlX.pe_methSl0 (E := E0) (pv 1) PC.sp.sc hM hFM (hr.mono (by decide)) pass0) (pa_cons (pe_callB (call_sortedD rfl) (by rfl) B.sorted (by decide +kernel) (pa_cons (pe_ix ix_list (pv 0) pe_int (fun _ _ => rfl)) pa_nil)) pa_nil)) (by rfl))
      (pss_cons (ps_for PassesOwn.never rfl (pi_list (pv 3)) (pg_name (i := 4) sc_law_closed_right.nd rfl (Or.inl rfl))
        (pss_cons (ps_if (PW.pt (pw_or (pt_cmpR op_ne (pe_dget (hu_of hr) (SlX.pe_propSl (E := E0) (pv 2) PC.sp.sc hpp.at_ hpp.get hpp.tak hpp.rec_ Fp (hr.mono (by decide)) (fun _ _ _ _ h => h)) (pv 4) (fun _ _ => rfl)) (pe_c c_distance hr (by decide) (by rfl) (pa_cons pe_str (pa_cons (pv 4) (pa_cons (pv 1) pa_nil)))) (nomark _)) (pw_or1 (pt_cmpR op_ne (pe_dget (hu_of hr) (SlX.pe_propSl (E := E0) (pv 2) PC.sp.sc hpo.at_ hpo.get hpo.tak hpo.rec_ Fo (hr.mono (by decide)) (fun _ _ _ _ h => h)) (pv 4) (fun _ _ => rfl)) (pe_c c_distance hr (by decide) (by rfl) (pa_cons (pv 4) (pa_cons pe_str (pa_cons (pv 1) pa_nil)))) (nomark _)))))
          (pss_one (ps_ret pe_bl))
          pss_nil)
        (pss_one (ps_for PassesOwn.never rfl (pi_list (pv 3)) (pg_name (i := 5) sc_law_closed_right.nd rfl (Or.inl rfl))
          (pss_cons (ps_set (i := 6) sc_law_closed_right.nd rfl (Or.inl rfl) (pe_tup (pa_cons (pv 4) (pa_cons (pv 5) pa_nil))))
          (pss_one (ps_if (PW.pt (pw_and (pt_cmpR op_ne (pv 4) (pv 5) (nomark _)) (pw_and1 (pt_cmpR op_ne (pe_dget (hu_of hr) (SlX.pe_propSl (E := E0) (pv 2) PC.sp.sc hpw.at_ hpw.get hpw.tak hpw.rec_ Fw (hr.mono (by decide)) (fun _ _ _ _ h => h)) (pv 6) (fun _ _ => rfl)) (pe_c c_distance hr (by decide) (by rfl) (pa_cons (pv 4) (pa_cons (pv 5) (pa_cons (pv 1) pa_nil)))) (nomark _)))))
            (pss_one (ps_ret pe_bl))
            pss_nil)))))))
      (pss_one (ps_ret pe_bl)))), ?_⟩
    have two : 2 ≤ sizeLine := by decide
    have lz5 := N.le
    obtain ⟨c, C⟩ := clo_exists N
    have conv : ∀ {c'}, Clo (codesOf ys) (rOf (codesOf ys) g o qs) c' → ∀ x y, InL (codesOf zs) x → InL (codesOf zs) y → c' x y = c x y := fun C' x y hx hy => (clo_conv N.sn pm pq C').uniq C x y hx hy
    have inl : ∀ {a}, sgS a ∈ zs → InL (codesOf zs) (some a) := fun h => InL.of ((mem_codes N.sg).mpr h)
    obtain ⟨PA, PB, PS, ws, hs, _⟩ := id hP
    refine ⟨_, rfl, x, dx, ws, rfl, .inr hs, x, dx, ys, ys2, g, o, qs, rfl, hP, NP, fun y dy ys' ys2' qs' c1 H1 e1 C1 hY NY pY AY => ?_⟩
    have T1 := T.same e1
    refine ⟨_, rfl, t, _, _, _, rfl, rfl, SqL.of T1.t, rfl, TA, _, zs, rfl, .inl T1.a, dkF_keys zs g, by omega, fun ls q hls _ hq => ⟨_, _, rfl, ?_⟩⟩
    have f1 := same_new (o := .lst (ls.map V.str)) hq
    have hq1 : upd H1 q (.lst (ls.map V.str)) q = some (.lst (ls.map V.str)) := upd_same
    have e2 := e1.trans f1
    have hY2 := hY.same f1
    generalize upd H1 q (.lst (ls.map V.str)) = H2 at f1 hq1 e2 hY2 ⊢
    obtain ⟨YA, YB, YS, wy, hsy, wy1, wy0, wy2, nYY, hYA, hYB, hYS⟩ := id hY2
    have getL : ∀ {i : Nat} {v : V}, (ls.map V.str)[i]? = some v → ∃ a, v = .str (sgS a) ∧ sgS a ∈ zs := fun h => by
      rw [List.getElem?_map] at h
      obtain ⟨z, hz, rfl⟩ := Option.map_eq_some_iff.mp h
      have mz := hls.mem_iff.mp (List.mem_of_getElem? hz)
      exact ⟨codeOf z, by rw [show sgS (codeOf z) = z from nS_code (N.sg z mz)], by rw [show sgS (codeOf z) = z from nS_code (N.sg z mz)]; exact mz⟩
    have my : ∀ {z}, z ∈ zs → z ∈ ys' := fun h => pY.mem_iff.mpr (pm.mem_iff.mpr h)
    have mcy : ∀ {a}, sgS a ∈ zs → a ∈ codesOf ys := fun h => (mem_codes NP.sg).mpr (pm.mem_iff.mpr h)
    have e0 : (("" : Str)) = wS [] := rfl
    refine ⟨_, rfl, q, rfl, ⟨_, SqL.of hq1⟩, for_it walk_list (fun i σ H' => (∃ o4 o5 o6, σ = [some (.ref t), some (.ref x), some (.ref y), some (.ref q), o4, o5, o6]) ∧ Same H2 H') ⟨⟨_, _, _, rfl⟩, Same.refl _⟩ (fun i σ H' _ e => SqL.of (e.2 _ _ hq1)) (fun i v σ Ha Hb hi e hv => ?_) (fun σ H5 e => hQ _ (e2.trans e.2))⟩
    obtain ⟨rfl, hv⟩ := hv
    obtain ⟨⟨o4, o5, o6, rfl⟩, ea⟩ := e
    obtain ⟨a, rfl, ma⟩ := getL hv
    have hYa := hY2.same ea
    -- put
    refine ⟨_, rfl, y, dy, wy, rfl, .inr ⟨ea _ _ hsy.1, ea _ _ hsy.2⟩, y, dy, ys', ys2', gC c1, oC c1, qs', rfl, hYa, NY, fun d1 Hc ec hd1 => ⟨_, rfl, d1, .int (c1 none (some a)), rfl, .inl ⟨_, .inr (sgS a), .inl hd1, rfl, (dkF_val NY.nd (gC c1) (my ma)).symm⟩, ?_⟩⟩
    have hPc : PrAt Cp Hc x dx ys ys2 g o qs := hP.same ((e2.trans ea).trans ec)
    refine ⟨_, rfl, _, rfl, [], [a], x, dx, ys, ys2, g, o, qs, rfl, hPc, NP, by simp, fun z hz => by rw [List.mem_singleton.mp hz]; exact mcy ma, by decide, (by show 1 ≤ 200; decide), fun c2 Hd C2 ed => ?_⟩
    refine ⟨rfl, _, rfl, ?_⟩
    rw [show Dc c2 ([] : List Nat).reverse [a].reverse = c1 none (some a) by
      show Dc c2 [] [a] = _
      rw [Dc_put1, conv C2 _ _ InL.no (inl ma), conv C1 _ _ InL.no (inl ma)], show (!decide (V.int (c1 none (some a)) = V.int (c1 none (some a)))) = false by simp]
    refine iteF ?_
    -- out
    have ead := (ec.trans ed)
    have hYd := hYa.same ead
    refine ⟨_, rfl, y, dy, wy, rfl, .inr ⟨ead _ _ (ea _ _ hsy.1), ead _ _ (ea _ _ hsy.2)⟩, y, dy, ys', ys2', gC c1, oC c1, qs', rfl, hYd, NY, fun d2 He ee hd2 => ⟨_, rfl, d2, .int (c1 (some a) none), rfl, .inl ⟨_, .inr (sgS a), .inl hd2, rfl, (dkF_val (NY.pm.nodup_iff.mpr NY.nd) (oC c1) (NY.pm.mem_iff.mpr (my ma))).symm⟩, ?_⟩⟩
    have hPe : PrAt Cp He x dx ys ys2 g o qs := hPc.same (ed.trans ee)
    refine ⟨_, rfl, _, rfl, [a], [], x, dx, ys, ys2, g, o, qs, rfl, hPe, NP, fun z hz => by rw [List.mem_singleton.mp hz]; exact mcy ma, by simp, (by show 1 ≤ 200; decide), by decide, fun c3 Hf C3 ef => ?_⟩
    refine ⟨rfl, _, rfl, ?_⟩
    rw [show Dc c3 [a].reverse ([] : List Nat).reverse = c1 (some a) none by
      show Dc c3 [a] [] = _
      rw [Dc_out1, conv C3 _ _ (inl ma) InL.no, conv C1 _ _ (inl ma) InL.no], show (!decide (V.int (c1 (some a) none) = V.int (c1 (some a) none))) = false by simp]
    refine iteF ?_
    -- swaps
    have eaf := (ea.trans ead).trans (ee.trans ef)
    refine ⟨_, rfl, q, rfl, ⟨_, SqL.of (eaf _ _ hq1)⟩, for_it walk_list (fun j σ H' => (∃ o5 o6, σ = [some (.ref t), some (.ref x), some (.ref y), some (.ref q), some (.str (sgS a)), o5, o6]) ∧ Same H2 H') ⟨⟨_, _, rfl⟩, eaf⟩ (fun j σ H' _ e => SqL.of (e.2 _ _ hq1)) (fun j v σ Hg0 Hg hj e hv => ?_) (fun σ H6 e => ?_)⟩
    · obtain ⟨rfl, hv⟩ := hv
      obtain ⟨⟨o5, o6, rfl⟩, eg⟩ := e
      obtain ⟨b, rfl, mb⟩ := getL hv
      refine ⟨_, rfl, _, rfl, two, fun t1 ht1 => ?_⟩
      have f2 := same_new (o := .tup [.str (sgS a), .str (sgS b)]) ht1
      have ht1' : upd Hg t1 (.tup [.str (sgS a), .str (sgS b)]) t1 = some (.tup [.str (sgS a), .str (sgS b)]) := upd_same
      have eh := eg.trans f2
      generalize upd Hg t1 (.tup [.str (sgS a), .str (sgS b)]) = Hh at ht1' eh ⊢
      refine ⟨_, rfl, _, rfl, rfl, _, rfl, ?_⟩
      by_cases n : a = b
      · rw [show (!decide (V.str (sgS a) = V.str (sgS b))) = false by simp [n]]
        exact iteF (iteF ⟨⟨_, _, rfl⟩, eh⟩)
      · have nsg : sgS a ≠ sgS b := fun e => n (Option.some.inj (nS_inj (x := some a) (y := some b) e))
        rw [show (!decide (V.str (sgS a) = V.str (sgS b))) = true by simp [nsg]]
        have hYh := hY2.same eh
        refine iteT ⟨_, rfl, y, dy, wy, rfl, .inr ⟨eh _ _ hsy.1, eh _ _ hsy.2⟩, y, dy, ys', ys2', gC c1, oC c1, qs', rfl, hYh, NY, fun d3 Hi ei hd3 => ⟨_, rfl, d3, .int (c1 (some a) (some b)), rfl, .inr ⟨_, [.inr (sgS a), .inr (sgS b)], t1, .inl hd3, rfl, ei _ _ ht1', ?_⟩, ?_⟩⟩
        · have := AY.find (pm.mem_iff.mpr ma) (pm.mem_iff.mpr mb) nsg
          rw [valV_dtF AY.nd, this]
          rfl
        have hPi : PrAt Cp Hi x dx ys ys2 g o qs := hP.same ((e2.trans eh).trans ei)
        refine ⟨_, rfl, _, rfl, _, rfl, [a], [b], x, dx, ys, ys2, g, o, qs, rfl, hPi, NP, fun z hz => by rw [List.mem_singleton.mp hz]; exact mcy ma, fun z hz => by rw [List.mem_singleton.mp hz]; exact mcy mb, (by show 1 ≤ 200; decide), (by show 1 ≤ 200; decide), fun c4 Hj C4 ej => ?_⟩
        refine ⟨rfl, _, rfl, ?_⟩
        rw [show Dc c4 [a].reverse [b].reverse = c1 (some a) (some b) by
          show Dc c4 [a] [b] = _
          rw [Dc_swp1 C4 (mcy ma) (mcy mb), conv C4 _ _ (inl ma) (inl mb), conv C1 _ _ (inl ma) (inl mb)], show (!decide (V.int (c1 (some a) (some b)) = V.int (c1 (some a) (some b)))) = false by simp]
        exact iteF ⟨⟨_, _, rfl⟩, eh.trans (ei.trans ej)⟩
    · obtain ⟨⟨o5, o6, rfl⟩, eg⟩ := e
      exact ⟨⟨_, _, _, rfl⟩, eg⟩
end
end MN
/-! the law -/
namespace MN
open PySem PySem.Spec PyProof.Rows L2
/-- costs are small -/
theorem Dc_small {L : List Nat} {r : Nd → Nd → Option Int} {c : Nd → Nd → Int} (C : Clo L r c) (ho : ∀ a ∈ L, c (some a) none ≤ 9) (hp : ∀ a ∈ L, c none (some a) ≤ 9) : ∀ u v : List Nat, (∀ a ∈ u, a ∈ L) → (∀ a ∈ v, a ∈ L) → Dc c u v ≤ 9 * (u.length + v.length)
  | [], [], _, _ => by simp [Dc]
  | [], y :: v, hu, hv => by
    have h1 := Dc_small C ho hp [] v hu fun a q => hv a (List.mem_cons_of_mem _ q)
    have h2 := hp y (hv y List.mem_cons_self)
    simp only [Dc]
    simp only [List.length_nil, List.length_cons] at h1 ⊢
    omega
  | x :: u, v, hu, hv => by
    have h1 := Dc_small C ho hp u v (fun a q => hu a (List.mem_cons_of_mem _ q)) hv
    have h2 := ho x (hu x List.mem_cons_self)
    have h3 := Dc_out C x u v
    simp only [List.length_cons] at h1 ⊢
    omega
/-- two numbers as data -/
theorem shI {n : Int} (h0 : 0 ≤ n) (h1 : n < 1000000) : isDisplay (.list [.int n, .int n]) = true ∧ (PyData.list [.int n, .int n]).showable = true ∧ (PyData.list [.int n, .int n]).hasDict = false ∧ (PyData.list [.int n, .int n]).depth ≤ 60 ∧ (PyData.list [.int n, .int n]).shown.length ≤ sizeLine := by
  have hn : n.natAbs < 10 ^ 12 := by omega
  have sm : n.natAbs.log2 < 1920 := by
    by_cases z : n.natAbs = 0
    · rw [z]; decide
    · rw [Nat.log2_lt z]
      exact Nat.lt_of_lt_of_le hn (by decide +kernel)
  refine ⟨rfl, PyData.showableAll_ints [n, n] (fun m hm => by rw [show m = n from by simpa using hm]; exact sm), by simp [PyData.hasDict, PyData.hasDictAll], by simp [PyData.depth, PyData.depthAll], ?_⟩
  exact PyData.shown_fits_of_layable0 (B := 13) (by decide) (by decide) (by simp [PyData.layable0, PyData.canLay0, PyData.canLayAll0, PyData.depth, PyData.depthAll, PyData.weight, PyData.weightAll]; split <;> omega) (PyData.intsShortAll_ints [n, n] (fun m hm => by rw [show m = n from by simpa using hm]; exact hn))
theorem dpII {K : PySem.W.Frag} {H : Hp} {a : Addr} {x y : Int} (h : SqL K H a [.int x, .int y]) : Dp K H (.ref a) (.list [.int x, .int y]) := .lst h (.cons (.int x) (.cons (.int y) .nil))
theorem PrAt.turn {C : Addr} {H : Hp} {x dx p : Addr} {ys ys2 : List Str} {g o : Str → Int} {qs : List ((Str × Str) × Int)} {a b c : Int} (h : PrAt C H x dx ys ys2 g o qs) (hp : Pot H p) : PrAt C (upd H p (potO a b c)) x dx ys ys2 g o qs := by
  obtain ⟨a0, b0, c0, hp⟩ := hp
  obtain ⟨A, B, S, ws, h1, h2, h3, h4, h5, h6, h7, h8⟩ := h
  have n1 : x ≠ p := fun z => by
    have q := h1.1
    rw [z, hp] at q
    injection q with q
    unfold SlX.SlO at q
    cases q
  have n2 : dx ≠ p := fun z => by have q := h1.2; rw [z, hp] at q; cases q
  have n3 : A ≠ p := fun z => by rw [z, hp] at h6; cases h6
  have n4 : B ≠ p := fun z => by rw [z, hp] at h7; cases h7
  have n5 : S ≠ p := fun z => by rw [z, hp] at h8; cases h8
  exact ⟨A, B, S, ws, ⟨by rw [upd_ne n1]; exact h1.1, by rw [upd_ne n2]; exact h1.2⟩, h2, h3, h4, h5, by rw [upd_ne n3]; exact h6, by rw [upd_ne n4]; exact h7, by rw [upd_ne n5]; exact h8⟩
theorem TblAt.turn {H : Hp} {t A B S p : Addr} {zs : List Str} {g o : Str → Int} {ps : List ((Str × Str) × Int)} {a b c : Int} (h : TblAt H t zs g o ps A B S) (hp : Pot H p) : TblAt (upd H p (potO a b c)) t zs g o ps A B S := by
  obtain ⟨a0, b0, c0, hp⟩ := hp
  have n1 : t ≠ p := fun z => by have q := h.t; rw [z, hp] at q; injection q with q; injection q with q; injection q with q _; cases q
  have n2 : A ≠ p := fun z => by have q := h.a; rw [z, hp] at q; cases q
  have n3 : B ≠ p := fun z => by have q := h.b; rw [z, hp] at q; cases q
  have n4 : S ≠ p := fun z => by have q := h.s; rw [z, hp] at q; cases q
  exact ⟨by rw [upd_ne n1]; exact h.t, by rw [upd_ne n2]; exact h.a, by rw [upd_ne n3]; exact h.b, by rw [upd_ne n4]; exact h.s⟩
section
variable {P : Program} {w : World} {K : PySem.W.Frag} {mg : Str → Option Value} {base : Heap} {Cp Cc : Addr}
def spLaw (K : PySem.W.Frag) : Sp := fun vs H Q _ => ∃ (a : Addr) (ns : List Int), vs = [.ref a] ∧ SqL K H a (ns.map V.int) ∧ ns.length ≤ 1000 ∧ ∀ H', Q (.bl true) H'
abbrev N_law : List Str := ["_law_script", "_law_at", "_law_cup_here", "_law_letters", "_law_most", "_law_table", "_law_prices", "_law_words", "_law_begin", "_law_due", "_law_other", "_law_word", "_law_told"]
theorem sc_law : FnScope N_law ["_law_script"] (defScope (top 43)) := ⟨rfl, rfl, rfl, by decide +kernel, rfl, by decide +kernel, by decide +kernel⟩
theorem f_law {f : Addr} {fd : FuncData} (F : FunD K "law" "law" (defArgs (top 43)) (defBody (top 43)) (defScope (top 43)) [] [] f fd) (B : Blt mg) (PC : PrC K mg Cp Cc) (c_law_cup : Cal P w K mg base 1 "_law_cup" (spFilled K)) (c_law_alphabet : Cal P w K mg base 3 "_law_alphabet" spAlpha) (c_law_rates : Cal P w K mg base 3 "_law_rates" (spRates K)) (c_law_priced : Cal P w K mg base 6 "_law_priced" (spPriced Cp)) (c_law_listed_words : Cal P w K mg base 1 "_law_listed_words" (spListed K)) (c_law_choice : Cal P w K mg base 2 "_law_choice" (spPick K)) (c_law_forced : Cal P w K mg base 2 "_law_forced" (spForced K)) (c_distance : Cal P w K mg base 4 "distance" (spDistance Cp)) (c_law_closed_right : Cal P w K mg base 7 "_law_closed_right" (spClosedRight Cp)) (c_are_prices : Cal P w K mg base 3 "are_prices" spAreP) (c_closed_of : Cal P w K mg base 3 "closed_of" (spClosedOf Cp Cc)) :
    FnG P w K mg base 8 f fd ["_law_script"] (spLaw K) := by
  obtain ⟨gm, hM, hFM⟩ := r_pclosed (P := P) (w := w) (base := base) PC B c_are_prices c_closed_of
  refine fnG_of F sc_law (fun vs H Q E h => ?_) (fun cdv A outer s H vs Q E gd hr h => ?_)
  · obtain ⟨_, _, rfl, _⟩ := h; rfl
  · obtain ⟨a, ns, rfl, ha, hns, hQ⟩ := h
    refine ⟨_, (pss_cons (ps_for PassesOwn.never rfl (pi_range1 (by rfl) B.range (pa_cons (pe_callB (call_max2 rfl) (by rfl) B.max (by decide +kernel) (pa_cons pe_int (pa_cons (pe_callB (call_min2 rfl) (by rfl) B.min (by decide +kernel) (pa_cons pe_int (pa_cons (pe_callB call_len_seq (by rfl) B.len (by decide +kernel) (pa_cons (pv 0) pa_nil)) pa_nil))) pa_nil))) pa_nil)) (pg_name (i := 1) sc_law.nd rfl (Or.inl rfl))
        (pss_cons (ps_set (i := 2) sc_law.nd rfl (Or.inl rfl) (pe_c c_law_cup hr (by decide) (by rfl) (pa_cons (pv 0) (pa_cons (pv 1) pa_nil))))
        (pss_cons (ps_set (i := 3) sc_law.nd rfl (Or.inl rfl) (pe_c c_law_alphabet hr (by decide) (by rfl) (pa_cons (pv 2) (pa_cons pe_int pa_nil))))
        (pss_cons (ps_set (i := 4) sc_law.nd rfl (Or.inl rfl) (pe_ix ix_list (pe_lst (pa_cons pe_int (pa_cons pe_int (pa_cons pe_int pa_nil)))) (pe_op op_sub (pe_callB call_len_seq (by rfl) B.len (by decide +kernel) (pa_cons (pv 3) pa_nil)) pe_int) (fun _ _ => rfl)))
        (pss_cons (ps_set (i := 5) sc_law.nd rfl (Or.inl rfl) (pe_c c_law_rates hr (by decide) (by rfl) (pa_cons (pv 2) (pa_cons (pv 3) (pa_cons pe_int pa_nil)))))
        (pss_cons (ps_par (i := 6) (j := 7) (by rfl) sc_law.nd rfl rfl (by decide) rfl rfl (pa_cons (pe_c c_law_priced hr (by decide) (by rfl) (pa_cons (pv 5) pa_nil)) (pa_cons (pe_c c_law_listed_words hr (by decide) (by rfl) (pa_cons (pv 3) (pa_cons (pv 4) pa_nil))) pa_nil)) (by rfl))
        (pss_cons (ps_set (i := 8) sc_law.nd rfl (Or.inl rfl) (pe_c c_law_choice hr (by decide) (by rfl) (pa_cons (pv 2) (pa_cons (pv 7) pa_nil))))
        (pss_cons (ps_par (i := 9) (j := 10) (by rfl) sc_law.nd rfl rfl (by decide) rfl rfl (pa_cons (pe_c c_law_forced hr (by decide) (by rfl) (pa_cons (pv 5) (pa_cons (pv 8) (pa_cons (pv 7) (pa_cons (pv 4) pa_nil))))) (pa_cons (SlX.pe_methSl0 (E := E0) (pv 6) PC.sp.sc hM hFM (hr.mono (by decide)) pass0) pa_nil)) (by rfl))
        (pss_cons (ps_for PassesOwn.never rfl (pi_list (pv 7)) (pg_name (i := 11) sc_law.nd rfl (Or.inl rfl))
          (pss_cons (ps_set (i := 12) sc_law.nd rfl (Or.inl rfl) (pe_lst (pa_cons (pe_c c_distance hr (by decide) (by rfl) (pa_cons (pv 8) (pa_cons (pv 11) (pa_cons (pv 6) pa_nil)))) (pa_cons (pe_c c_distance hr (by decide) (by rfl) (pa_cons (pv 8) (pa_cons (pv 11) (pa_cons (pv 10) pa_nil)))) pa_nil))))
          (pss_one (ps_if (PW.pt (pw_or (pt_cmpR op_ne (pe_callB (call_repr gd hr.units) (by rfl) B.repr (by decide +kernel) (pa_cons (pv 12) pa_nil)) (pe_callB (call_repr gd hr.units) (by rfl) B.repr (by decide +kernel) (pa_cons (pe_lst (pa_cons (pe_dget (hu_of hr) (pv 9) (pv 11) (fun _ _ => rfl)) (pa_cons (pe_dget (hu_of hr) (pv 9) (pv 11) (fun _ _ => rfl)) pa_nil))) pa_nil)) (nomark _)) (pw_or1 (pt_cmpR op_ne (pe_cmpR op_eq (pe_dget (hu_of hr) (pv 9) (pv 11) (fun _ _ => rfl)) pe_int (nomark _)) (pe_cmpR op_eq (pv 11) (pv 8) (nomark _)) (nomark _)))))
            (pss_one (ps_ret pe_bl))
            pss_nil))))
        (pss_one (ps_if (pt_not (pt_val (pe_c c_law_closed_right hr (by decide) (by rfl) (pa_cons (pv 5) (pa_cons (pv 6) pa_nil)))))
          (pss_one (ps_ret pe_bl))
          pss_nil)))))))))))
      (pss_one (ps_ret pe_bl))), ?_⟩
    have two : 2 ≤ sizeLine := by decide
    have three : 3 ≤ sizeLine := by decide
    have big : 100000 < sizeLine := by decide
    refine ⟨_, rfl, a, _, rfl, .inl ha, _, _, rfl, _, _, rfl, _, rfl, ?_, ?_, for_it (walk_range (lo := 0)) (fun i σ H' => SqL K H' a (ns.map V.int) ∧ ∃ o1 o2 o3 o4 o5 o6 o7 o8 o9 o10 o11 o12, σ = [some (.ref a), o1, o2, o3, o4, o5, o6, o7, o8, o9, o10, o11, o12]) ⟨ha, _, _, _, _, _, _, _, _, _, _, _, _, rfl⟩ (fun _ _ _ _ _ => trivial) (fun i y σ H1 H1' hi e hy => ?_) (fun σ H1 e => hQ _)⟩
    · rw [List.length_map]; split <;> split <;> omega
    · rw [List.length_map]; split <;> split <;> omega
    obtain ⟨rfl, rfl⟩ := hy
    obtain ⟨ha1, o1, o2, o3, o4, o5, o6, o7, o8, o9, o10, o11, o12, rfl⟩ := e
    have hi2 : i < 10 := by
      refine Nat.lt_of_lt_of_le hi ?_
      rw [List.length_map]
      split <;> split <;> omega
    -- cup, letters
    refine ⟨_, rfl, _, rfl, a, _, ns, rfl, ha1, by omega, by omega, fun p H2 hpn s2 hp2 => ?_⟩
    refine ⟨_, rfl, p, 3, rfl, hp2, by decide, by decide, fun zs l H3 ok l3 hl0 ex3 hl3 => ?_⟩
    have l3' : zs.length ≤ 3 := by omega
    have zpos := ok.pos
    have lp : l ≠ p := by obtain ⟨_, _, _, q⟩ := hp2; exact (ne_of_none q hl0).symm
    -- most
    refine ⟨three, fun q4 hq4 => ?_⟩
    have f4 := same_new (o := .lst [.int 8, .int 4, .int 3]) hq4
    have hq4' : upd H3 q4 (.lst [.int 8, .int 4, .int 3]) q4 = some (.lst [.int 8, .int 4, .int 3]) := upd_same
    have hl4 := f4 _ _ hl3
    have ex4 := ex3.same f4
    generalize upd H3 q4 (.lst [.int 8, .int 4, .int 3]) = H4 at hq4' hl4 ex4 ⊢
    obtain ⟨n, hn8, hat⟩ : ∃ n : Nat, n ≤ 8 ∧ atI [V.int 8, V.int 4, V.int 3] (((strsV zs).length : Int) - 1) = some (.int (n : Nat)) := by
      have : (strsV zs).length = zs.length := by simp [strsV]
      rw [this]
      have : zs.length = 1 ∨ zs.length = 2 ∨ zs.length = 3 := by omega
      rcases this with h | h | h
      · rw [h]; exact ⟨8, by decide, rfl⟩
      · rw [h]; exact ⟨4, by decide, rfl⟩
      · rw [h]; exact ⟨3, by decide, rfl⟩
    refine ⟨_, rfl, l, _, rfl, .inl (SqL.of hl4), _, _, rfl, rfl, q4, _, _, _, rfl, rfl, SqL.of hq4', hat, ?_⟩
    -- table
    refine ⟨_, rfl, _, rfl, p, l, 3, zs, rfl, ex4.pot, lp, SqL.of hl4, ok, by decide, by decide, fun t TA TB TW g o ps H5 N nAB ht0 hA0 hB0 hS0 ex5 ht5 hA5 hB5 hS5 => ?_⟩
    have T5 : TblAt H5 t zs g o ps TA TB TW := ⟨ht5, hA5, hB5, hS5⟩
    have hl5 := ex5.keep _ _ lp hl4
    have ex5' := ex4.trans ex5
    -- prices, words
    refine ⟨_, rfl, t, TA, TB, TW, zs, g, o, ps, rfl, T5, N, fun x dx ys ys2 qs H6 e6 hP6 NP pm pq => ?_⟩
    have T6 := T5.same e6
    refine ⟨_, rfl, _, rfl, l, n, zs, rfl, SqL.of (e6 _ _ hl5), ok.one, l3', hn8, fun lw H7 hlw0 e7 hlw7 => ⟨_, _, rfl, ?_⟩⟩
    have T7 := T6.same e7
    have hP7 := hP6.same e7
    have ex7 := (ex5'.same e6).same e7
    have lwp : lw ≠ p := by obtain ⟨_, _, _, q⟩ := (ex5'.same e6).pot; exact (ne_of_none q hlw0).symm
    have lc : (codesOf zs).length ≤ 3 := by simpa [codesOf] using l3'
    have wlen : (wordsV (allU (codesOf zs) n)).length ≤ 9 * 6561 := by
      unfold wordsV
      rw [List.length_map]
      exact Nat.le_trans (allU_le lc hn8) (Nat.mul_le_mul_right _ (by omega))
    have wpos : 0 < (wordsV (allU (codesOf zs) n)).length := by
      unfold wordsV
      rw [List.length_map]
      exact List.length_pos_of_mem (mem_allU.mpr ⟨Nat.zero_le _, fun _ h => nomatch h⟩ : ([] : List Nat) ∈ allU (codesOf zs) n)
    -- begin
    refine ⟨_, rfl, _, rfl, p, lw, _, rfl, ex7.pot, lwp, SqL.of hlw7, wpos, by omega, fun v a' b' c' hv => ?_⟩
    obtain ⟨b, hb, rfl⟩ := List.mem_map.mp (show v ∈ (allU (codesOf zs) n).map fun u => V.str (wS u) from hv)
    have T8 := T7.turn (a := a') (b := b') (c := c') ex7.pot
    have hP8 := hP7.turn (a := a') (b := b') (c := c') ex7.pot
    have hlw8 : upd H7 p (potO a' b' c') lw = some (.lst (wordsV (allU (codesOf zs) n))) := by rw [upd_ne lwp]; exact hlw7
    have ex8 := ex7.trans (Ex.turn (p := p) (H := H7) (a := a') (b := b') (c := c'))
    generalize upd H7 p (potO a' b' c') = H8 at T8 hP8 hlw8 ex8 ⊢
    obtain ⟨c, C⟩ := clo_exists N
    have conv : ∀ {c'}, Clo (codesOf ys) (rOf (codesOf ys) g o qs) c' → ∀ x y, InL (codesOf zs) x → InL (codesOf zs) y → c' x y = c x y := fun C' x y hx hy => (clo_conv N.sn pm pq C').uniq C x y hx hy
    -- due, other
    refine ⟨_, rfl, _, rfl, _, rfl, _, rfl, t, TA, TB, TW, zs, g, o, ps, c, b, n, lw, rfl, T8, N, l3', hn8, C, SqL.of hlw8, hb, fun Fd kvs H9 hFd0 e9 hFd due => ?_⟩
    have hP9 := hP8.same e9
    obtain ⟨PA, PB, PS, wp, hsp, _⟩ := id hP9
    refine ⟨_, rfl, x, dx, wp, rfl, .inr hsp, x, dx, ys, ys2, g, o, qs, rfl, hP9, NP, fun y dy ys' ys2' qs' c1 H10 e10 C1 hY NY pY AY => ⟨_, _, rfl, ?_⟩⟩
    have hPa := hP9.same e10
    have hFa := e10 _ _ hFd
    have hlwa := e10 _ _ (e9 _ _ hlw8)
    have Ta := (T8.same e9).same e10
    have exa := (ex8.same e9).same e10
    have NT := net_words N C hb
    have zy : ∀ {u : List Nat}, u ∈ allU (codesOf zs) n → ∀ c ∈ u, c ∈ codesOf ys := fun hu c hc => (pm.map _).mem_iff.mpr ((mem_allU.mp hu).2 c hc)
    have zy' : ∀ {u : List Nat}, u ∈ allU (codesOf zs) n → ∀ c ∈ u, c ∈ codesOf ys' := fun hu c hc => (pY.map _).mem_iff.mpr (zy hu c hc)
    have lenw : ∀ {u : List Nat}, u ∈ allU (codesOf zs) n → u.length ≤ 200 := fun hu => by have := (mem_allU.mp hu).1; omega
    have rv : ∀ {u : List Nat}, u ∈ allU (codesOf zs) n → ∀ a ∈ u.reverse, a ∈ codesOf zs := fun hu a ha => (mem_allU.mp hu).2 a (List.mem_reverse.mp ha)
    have cp : (∀ a ∈ codesOf zs, c (some a) none ≤ 9) ∧ ∀ a ∈ codesOf zs, c none (some a) ≤ 9 := by
      refine ⟨fun a ha => ?_, fun a ha => ?_⟩
      · have h1 := C.le (some a) none (o (sgS a)) (InL.of ha) InL.no (if_pos ha)
        have h2 := (N.po _ ((mem_codes N.sg).mp ha)).2
        omega
      · have h1 := C.le none (some a) (g (sgS a)) InL.no (InL.of ha) (if_pos ha)
        have h2 := (N.pg _ ((mem_codes N.sg).mp ha)).2
        omega
    refine ⟨_, rfl, lw, rfl, ⟨_, SqL.of hlwa⟩, for_it walk_list (fun j σ H' => (∃ o11 o12, σ = [some (.ref a), some (.int ((0 : Nat) + i)), some (.ref p), some (.ref l), some (.int (n : Nat)), some (.ref t), some (.ref x), some (.ref lw), some (.str (wS b)), some (.ref Fd), some (.ref y), o11, o12]) ∧ Same H10 H') ⟨⟨_, _, rfl⟩, Same.refl _⟩ (fun j σ H' _ e => SqL.of (e.2 _ _ hlwa)) (fun j v σ Hb0 Hb hj e hv2 => ?_) (fun σ H11 e => ?_)⟩
    · obtain ⟨rfl, hv2⟩ := hv2
      obtain ⟨⟨o11, o12, rfl⟩, eb⟩ := e
      have hv3 : ((allU (codesOf zs) n).map fun u => V.str (wS u))[j]? = some v := hv2
      rw [List.getElem?_map] at hv3
      obtain ⟨u, hu, rfl⟩ := Option.map_eq_some_iff.mp hv3
      have mu := List.mem_of_getElem? hu
      have du := due u mu
      -- told
      refine ⟨_, rfl, _, rfl, _, rfl, b, u, x, dx, ys, ys2, g, o, qs, rfl, hPa.same eb, NP, zy hb, zy mu, lenw hb, lenw mu, fun c2 Hc C2 ec => ?_⟩
      rw [Dc_congr (L := codesOf zs) (fun x y hx hy => conv C2 x y hx hy) _ _ (rv hb) (rv mu)]
      refine ⟨_, rfl, _, rfl, _, rfl, b, u, y, dy, ys', ys2', gC c1, oC c1, qs', rfl, hY.same (eb.trans ec), NY, zy' hb, zy' mu, lenw hb, lenw mu, fun c3 Hd C3 ed => ?_⟩
      rw [Dc_congr (L := codesOf zs) (c := c3) (c' := c) (fun x y hx hy => by
        have hx' : InL (codesOf ys) x := fun a e => (pm.map _).mem_iff.mpr (hx a e)
        have hy' : InL (codesOf ys) y := fun a e => (pm.map _).mem_iff.mpr (hy a e)
        rw [clo_again NP C1 pY AY C3 x y hx' hy']
        exact conv C1 x y hx hy) _ _ (rv hb) (rv mu)]
      have nn := NT.nn u mu
      have bnd : 0 ≤ Dc c b.reverse u.reverse ∧ Dc c b.reverse u.reverse < 1000000 := by
        refine ⟨nn.1, ?_⟩
        have h1 := Dc_small C cp.1 cp.2 b.reverse u.reverse (rv hb) (rv mu)
        have h2 := (mem_allU.mp hb).1
        have h3 := (mem_allU.mp mu).1
        simp only [List.length_reverse] at h1
        omega
      have nn2 : Dc c b.reverse u.reverse = 0 ↔ u = b := ⟨nn.2, fun e => by rw [e]; exact NT.b0⟩
      generalize Dc c b.reverse u.reverse = X at du bnd nn2 ⊢
      have e14 := (eb.trans ec).trans ed
      refine ⟨two, fun q1 hq1 => ?_⟩
      have f1 := same_new (o := .lst [.int X, .int X]) hq1
      have hq1' : upd Hd q1 (.lst [.int X, .int X]) q1 = some (.lst [.int X, .int X]) := upd_same
      have e15 := e14.trans f1
      generalize upd Hd q1 (.lst [.int X, .int X]) = He at hq1' e15 ⊢
      obtain ⟨w1, w2, w3, w4, w5⟩ := shI bnd.1 bnd.2
      have dg : ∀ {H' : Hp}, Same He H' → DGet H' Fd (.str (wS u)) (some (.int X)) := fun ef => .inl ⟨kvs, .inr (wS u), .inl (ef _ _ (e15 _ _ hFa)), rfl, du.symm⟩
      refine ⟨_, rfl, .ref q1, _, rfl, dpII (SqL.of hq1'), w1, w2, w3, w4, w5, _, rfl, _, rfl, Fd, _, rfl, dg (Same.refl _), _, rfl, _, rfl, Fd, _, rfl, dg (Same.refl _), two, fun q2 hq2 => ?_⟩
      have f2 := same_new (o := .lst [.int X, .int X]) hq2
      have hq2' : upd He q2 (.lst [.int X, .int X]) q2 = some (.lst [.int X, .int X]) := upd_same
      have e16 := e15.trans f2
      have dg2 := dg f2
      generalize upd He q2 (.lst [.int X, .int X]) = Hf at hq2' e16 dg2 ⊢
      refine ⟨.ref q2, _, rfl, dpII (SqL.of hq2'), w1, w2, w3, w4, w5, rfl, _, rfl, ?_⟩
      rw [show ∀ z : Str, (!decide (V.str z = V.str z)) = false from fun z => by simp]
      refine iteF ⟨_, rfl, _, rfl, Fd, _, rfl, dg2, rfl, _, rfl, _, rfl, rfl, rfl, _, rfl, ?_⟩
      have eqb : decide (V.int X = V.int 0) = decide (V.str (wS u) = V.str (wS b)) := by
        by_cases z : u = b
        · rw [decide_eq_true (show V.str (wS u) = V.str (wS b) by rw [z]), decide_eq_true (show V.int X = V.int 0 by rw [nn2.mpr z])]
        · rw [decide_eq_false (show ¬ V.str (wS u) = V.str (wS b) from fun q => z (wS_inj (by injection q))), decide_eq_false (show ¬ V.int X = V.int 0 from fun q => z (nn2.mp (by injection q)))]
      rw [eqb, show ∀ z : Bool, (!decide (V.bl z = V.bl z)) = false from fun z => by simp]
      exact iteF ⟨⟨_, _, rfl⟩, e16⟩
    · obtain ⟨⟨o11, o12, rfl⟩, eb⟩ := e
      refine ⟨_, rfl, _, rfl, t, TA, TB, TW, zs, g, o, ps, x, dx, ys, ys2, qs, rfl, Ta.same eb, N, hPa.same eb, NP, pm, pq, fun H12 e12 => ⟨_, rfl, iteF ⟨?_, _, _, _, _, _, _, _, _, _, _, _, _, rfl⟩⟩⟩
      have exz := (exa.same eb).same e12
      rcases ha1 with (h | ⟨od, h⟩) | h
      · exact .inl (.inl (exz.keep _ _ (ne_of_none h hpn) (s2 _ _ h)))
      · exact .inl (.inr ⟨od, exz.keep _ _ (ne_of_none h hpn) (s2 _ _ h)⟩)
      · exact .inr h
end
end MN
/-! the classes Prices and Closed in the head's run -/
namespace MN
open PySem PySem.Spec PyProof.Rows L2
theorem slB_at {K : PySem.W.Frag} {C : Addr} {f : Str} {i : Nat} (h : slB K C f = true) (hi : PySem.W.slotIn K (He.ma K C f) C = some i) : ∃ p, SlX.Slot1 K C f p i := by
  obtain ⟨h1, h⟩ := He.ba h
  obtain ⟨h2, h⟩ := He.ba h
  obtain ⟨h3, h⟩ := He.ba h
  obtain ⟨h4, h5⟩ := He.ba h
  rw [hi] at h5
  exact ⟨_, He.eqO_ok h1, He.eqO_ok h2, of_decide_eq_true h3, of_decide_eq_true h4, hi, of_decide_eq_true h5⟩
def slotCB (K : PySem.W.Frag) (C : Addr) : Bool := scB K C && ((slB K C "own_out" && decide (PySem.W.slotIn K (He.ma K C "own_out") C = some 0)) && ((slB K C "own_put" && decide (PySem.W.slotIn K (He.ma K C "own_put") C = some 1)) && (slB K C "own_swap" && decide (PySem.W.slotIn K (He.ma K C "own_swap") C = some 2))))
theorem slotCB_ok {K : PySem.W.Frag} {C : Addr} (h : slotCB K C = true) : SlotC K C := by
  obtain ⟨h0, h⟩ := He.ba h
  obtain ⟨h1, h⟩ := He.ba h
  obtain ⟨h2, h3⟩ := He.ba h
  obtain ⟨a1, b1⟩ := He.ba h1
  obtain ⟨a2, b2⟩ := He.ba h2
  obtain ⟨a3, b3⟩ := He.ba h3
  exact ⟨scB_ok h0, slB_at a1 (of_decide_eq_true b1), slB_at a2 (of_decide_eq_true b2), slB_at a3 (of_decide_eq_true b3)⟩
def propB (K : PySem.W.Frag) (C : Addr) (f : Str) : Bool := He.eqO (PySem.W.findIn K (.ref C) f) (some (some (.ref (He.ma K C f)))) && (He.eqO (PySem.W.specialIn K (.ref (He.ma K C f)) "__get__") (some (some (.builtin "property.__get__"))) && (decide (PySem.W.takesIn K (.ref (He.ma K C f)) = some true) && (match PySem.W.recIn K (He.ma K C f) "property" with
  | some (.ref _ :: _) => true
  | _ => false)))
theorem propB_ok {K : PySem.W.Frag} {C : Addr} {f : Str} (h : propB K C f = true) : PropOf K C f (He.ma K C f) (He5.wf K C "property" f) := by
  obtain ⟨h1, h⟩ := He.ba h
  obtain ⟨h2, h⟩ := He.ba h
  obtain ⟨h3, h4⟩ := He.ba h
  refine ⟨He.eqO_ok h1, He.eqO_ok h2, of_decide_eq_true h3, ?_⟩
  unfold He5.wf
  split at h4
  · rename_i g r e
    exact ⟨r, by rw [e]⟩
  · cases h4
abbrev gP (K : PySem.W.Frag) : Addr := He.ga K "Prices"
def prB (K : PySem.W.Frag) : Bool := slotCB K (gP K) && (slotCB K (He.ga K "Closed") && ((He.Fa.mkr "Prices").ok K && ((He.Fa.mkr "Closed").ok K && (siB K (gP K) && (decide (PySem.W.kitOne K (.ref (gP K)) (.ref (gP K)) = some true) && (He.eqO (PySem.W.findIn K (.ref (gP K)) "__contains__") (some (some (.ref (He.ma K (gP K) "__contains__")))) && (PySem.W.isFn K (.ref (He.ma K (gP K) "__contains__")) && ((He.Fa.meth "Prices" "closed").ok K && (propB K (gP K) "put" && (propB K (gP K) "out" && propB K (gP K) "swap"))))))))))
theorem prB_ok {K : PySem.W.Frag} {mg : Str → Option Value} {f1 f2 f3 f4 f5 f6 f7 : FuncData} (h : prB K = true) (gp : mg "Prices" = some (.ref (He.ga K "Prices"))) (gc : mg "Closed" = some (.ref (He.ga K "Closed")))
    (F1 : FunAt K "__init__" "Prices.__init__" (inClass (top 23) 1) [] (He.ma K (gP K) "__init__") f1) (F2 : FunAt K "__init__" "Closed.__init__" (inClass (top 21) 1) [] (He.ma K (He.ga K "Closed") "__init__") f2) (F3 : FunAt K "__contains__" "Prices.__contains__" (inClass (top 23) 14) [] (He.ma K (gP K) "__contains__") f3)
    (F4 : FunAt K "closed" "Prices.closed" (inClass (top 23) 8) [] (He.ma K (gP K) "closed") f4) (F5 : FunAt K "put" "Prices.put" (inClass (top 23) 4) [] (He5.wf K (gP K) "property" "put") f5) (F6 : FunAt K "out" "Prices.out" (inClass (top 23) 5) [] (He5.wf K (gP K) "property" "out") f6) (F7 : FunAt K "swap" "Prices.swap" (inClass (top 23) 6) [] (He5.wf K (gP K) "property" "swap") f7) :
    PrC K mg (He.ga K "Prices") (He.ga K "Closed") := by
  obtain ⟨e1, h⟩ := He.ba h
  obtain ⟨e2, h⟩ := He.ba h
  obtain ⟨e3, h⟩ := He.ba h
  obtain ⟨e4, h⟩ := He.ba h
  obtain ⟨e5, h⟩ := He.ba h
  obtain ⟨e6, h⟩ := He.ba h
  obtain ⟨e7, h⟩ := He.ba h
  obtain ⟨e8, h⟩ := He.ba h
  obtain ⟨e9, h⟩ := He.ba h
  obtain ⟨e10, h⟩ := He.ba h
  obtain ⟨e11, e12⟩ := He.ba h
  exact ⟨slotCB_ok e1, slotCB_ok e2, gp, gc, ⟨_, f1, He.mkr_ok e3, F1⟩, ⟨_, f2, He.mkr_ok e4, F2⟩, siB_ok e5, of_decide_eq_true e6, ⟨_, f3, He.eqO_ok e7, e8, F3⟩, ⟨_, f4, He.meth_ok e9, F4⟩, ⟨_, _, f5, propB_ok e10, F5⟩, ⟨_, _, f6, propB_ok e11, F6⟩, ⟨_, _, f7, propB_ok e12, F7⟩⟩
end MN
/-! the run of the head -/
namespace MN
open PySem PySem.Spec PyProof.Rows L2
def defs06 : List He5.DefA := [gDef "is_integer" (top 11),
  gDef "is_sign" (top 12),
  gDef "is_word" (top 13),
  gDef "require_word" (top 14),
  gDef "is_price" (top 18),
  gDef "is_pair" (top 19),
  gDef "are_prices" (top 20),
  gDef "closed_of" (top 22),
  gDef "require_prices" (top 24),
  gDef "require_two" (top 27),
  gDef "costs_with" (top 28),
  gDef "cost_table" (top 29),
  gDef "distance" (top 30),
  gDef "_law_cup" (top 32),
  gDef "_law_toss" (top 33),
  gDef "_law_choices" (top 34),
  gDef "_law_alphabet" (top 35),
  gDef "_law_choice" (top 36),
  gDef "_law_rates" (top 37),
  gDef "_law_priced" (top 38),
  gDef "_law_listed_words" (top 39),
  gDef "_law_nearby" (top 40),
  gDef "_law_forced" (top 41),
  gDef "_law_closed_right" (top 42),
  gDef "law" (top 43),
  { at_ := fun K => He.ma K (He.ga K "Prices") "__init__", name := "__init__", qual := "Prices.__init__", params := defArgs (inClass (top 23) 1), body := defBody (inClass (top 23) 1), scope := defScope (inClass (top 23) 1) },
  { at_ := fun K => He.ma K (He.ga K "Closed") "__init__", name := "__init__", qual := "Closed.__init__", params := defArgs (inClass (top 21) 1), body := defBody (inClass (top 21) 1), scope := defScope (inClass (top 21) 1) },
  { at_ := fun K => He.ma K (He.ga K "Prices") "__contains__", name := "__contains__", qual := "Prices.__contains__", params := defArgs (inClass (top 23) 14), body := defBody (inClass (top 23) 14), scope := defScope (inClass (top 23) 14) },
  { at_ := fun K => He.ma K (He.ga K "Prices") "closed", name := "closed", qual := "Prices.closed", params := defArgs (inClass (top 23) 8), body := defBody (inClass (top 23) 8), scope := defScope (inClass (top 23) 8) },
  { at_ := fun K => He5.wf K (He.ga K "Prices") "property" "put", name := "put", qual := "Prices.put", params := defArgs (inClass (top 23) 4), body := defBody (inClass (top 23) 4), scope := defScope (inClass (top 23) 4) },
  { at_ := fun K => He5.wf K (He.ga K "Prices") "property" "out", name := "out", qual := "Prices.out", params := defArgs (inClass (top 23) 5), body := defBody (inClass (top 23) 5), scope := defScope (inClass (top 23) 5) },
  { at_ := fun K => He5.wf K (He.ga K "Prices") "property" "swap", name := "swap", qual := "Prices.swap", params := defArgs (inClass (top 23) 6), body := defBody (inClass (top 23) 6), scope := defScope (inClass (top 23) 6) }]
def glo06 : List Str := ([("is_integer" : Str), ("is_sign" : Str), ("is_word" : Str), ("require_word" : Str), ("is_price" : Str), ("is_pair" : Str), ("are_prices" : Str), ("closed_of" : Str)] : List Str) ++ ([("require_prices" : Str), ("require_two" : Str), ("costs_with" : Str), ("cost_table" : Str), ("distance" : Str), ("_law_cup" : Str), ("_law_toss" : Str), ("_law_choices" : Str)] : List Str) ++ ([("_law_alphabet" : Str), ("_law_choice" : Str), ("_law_rates" : Str), ("_law_priced" : Str), ("_law_listed_words" : Str), ("_law_nearby" : Str), ("_law_forced" : Str), ("_law_closed_right" : Str)] : List Str) ++ ([("law" : Str), ("Prices" : Str), ("Closed" : Str)] : List Str)
def ex06 (K : PySem.W.Frag) : Bool := gloAll K glo06 && (freeAll K bltNames && ((He.Fa.str "SIGNS" "abcde").ok K && ((He.Fa.int "GREATEST" (10 ^ 60)).ok K && ((He.Fa.int "MAX_WORD" 1000).ok K && ((He.Fa.int "MAX_PRICE" 9).ok K && ((He.Fa.int "MAX_SWAP" 18).ok K && ((He.Fa.int "MAX_SIGNS" 200).ok K && prB K)))))))
end MN
/-! the facts and the end -/
namespace MN
open PySem PySem.Spec PyProof.Rows L2
section
variable {P : Program} {w : World} {K : PySem.W.Frag} {h : Heap} {mg : Str → Option Value}
theorem at06 (X : K.In h) (G : h.Ns mainGlobals mg) (c : SaysX ex06 defs06 K) (i : Nat) (x : Str) (st : Stmt) (hi : defs06[i]? = some (gDef x st)) (hx : x ∈ glo06) : At K mg x st := by
  obtain ⟨fd, F⟩ := c.def_ i hi
  exact ⟨_, fd, F, gloAll_ok X G (He.ba c.all).1 hx⟩
theorem facts06 {f : Addr} (X : K.In h) (G : h.Ns mainGlobals mg) (hfa : mg ("law" : Str) = some (.ref f)) (c : SaysX ex06 defs06 K) :
    ∃ fd : FuncData, (∀ (s : Shared) (v : Value), BindsTo s fd ⟨[v], []⟩ [("_law_script", v)]) ∧ ∀ base : Heap, K.In base → base.Ns mainGlobals mg → FnG P w K mg base 8 f fd ["_law_script"] (spLaw K) := by
  obtain ⟨e0, e⟩ := He.ba c.all
  obtain ⟨e1, e⟩ := He.ba e
  obtain ⟨e2, e⟩ := He.ba e
  obtain ⟨e3, e⟩ := He.ba e
  obtain ⟨e4, e⟩ := He.ba e
  obtain ⟨e5, e⟩ := He.ba e
  obtain ⟨e6, e⟩ := He.ba e
  obtain ⟨e7, e8⟩ := He.ba e
  have B : Blt mg := Blt.of (freeAll_ok X G e1) (strC_ok X G e2)
  have GG : GlC mg "GREATEST" (.int big) := intC_ok X G e3
  have GW : GlC mg "MAX_WORD" (.int 1000) := intC_ok X G e4
  have GP : GlC mg "MAX_PRICE" (.int 9) := intC_ok X G e5
  have GS : GlC mg "MAX_SWAP" (.int 18) := intC_ok X G e6
  have GM : GlC mg "MAX_SIGNS" (.int 200) := intC_ok X G e7
  obtain ⟨f1, F1⟩ := c.def_ 25
  obtain ⟨f2, F2⟩ := c.def_ 26
  obtain ⟨f3, F3⟩ := c.def_ 27
  obtain ⟨f4, F4⟩ := c.def_ 28
  obtain ⟨f5, F5⟩ := c.def_ 29
  obtain ⟨f6, F6⟩ := c.def_ 30
  obtain ⟨f7, F7⟩ := c.def_ 31
  have PC := prB_ok (mg := mg) e8 (gloAll_ok X G e0 (by decide +kernel)) (gloAll_ok X G e0 (by decide +kernel)) F1 F2 F3 F4 F5 F6 F7
  obtain ⟨fd, F⟩ := c.def_ 24
  have e := hfa.symm.trans (gloAll_ok X G e0 (x := "law") (by decide +kernel))
  cases e
  have b := FunD.bindsA (ps := ["_law_script"]) F fun _ _ _ _ _ _ us hl => match us, hl with | [_], _ => rfl
  refine ⟨fd, fun s v => b s [v] rfl, fun base _ _ => ?_⟩
  have a := fun i x st hi hx => at06 (mg := mg) X G c i x st hi hx
  have c_is_integer : Cal P w K mg base 1 "is_integer" (spIsInt K) := MN.c_is_integer (a 0 _ _ rfl (by decide +kernel)) B GG
  have c_is_sign : Cal P w K mg base 1 "is_sign" (spIsSign K) := MN.c_is_sign (a 1 _ _ rfl (by decide +kernel)) B
  have c_is_word : Cal P w K mg base 1 "is_word" (spIsWord K) := MN.c_is_word (a 2 _ _ rfl (by decide +kernel)) B
  have c_require_word : Cal P w K mg base 2 "require_word" spReqWord := MN.c_require_word (a 3 _ _ rfl (by decide +kernel)) B GW c_is_word
  have c_is_price : Cal P w K mg base 2 "is_price" (spIsPrice K) := MN.c_is_price (a 4 _ _ rfl (by decide +kernel)) c_is_integer
  have c_is_pair : Cal P w K mg base 2 "is_pair" (spIsPair K) := MN.c_is_pair (a 5 _ _ rfl (by decide +kernel)) B c_is_sign
  have c_are_prices : Cal P w K mg base 3 "are_prices" spAreP := MN.c_are_prices (a 6 _ _ rfl (by decide +kernel)) B GP GS c_is_sign c_is_price c_is_pair
  have c_closed_of : Cal P w K mg base 3 "closed_of" (spClosedOf (He.ga K "Prices") (He.ga K "Closed")) := MN.c_closed_of (a 7 _ _ rfl (by decide +kernel)) B PC
  have c_require_prices : Cal P w K mg base 1 "require_prices" (spReqPrices (He.ga K "Prices")) := MN.c_require_prices (a 8 _ _ rfl (by decide +kernel)) B PC
  have c_require_two : Cal P w K mg base 3 "require_two" (spReqTwo (He.ga K "Prices")) := MN.c_require_two (a 9 _ _ rfl (by decide +kernel)) B PC GM c_is_sign c_require_word c_require_prices
  have c_costs_with : Cal P w K mg base 1 "costs_with" (spCostsWith (He.ga K "Closed")) := MN.c_costs_with (a 10 _ _ rfl (by decide +kernel)) B PC
  have c_cost_table : Cal P w K mg base 2 "cost_table" (spCostTable (He.ga K "Closed")) := MN.c_cost_table (a 11 _ _ rfl (by decide +kernel)) B PC c_costs_with
  have c_distance : Cal P w K mg base 4 "distance" (spDistance (He.ga K "Prices")) := MN.c_distance (a 12 _ _ rfl (by decide +kernel)) B PC c_require_two c_closed_of c_cost_table
  have c_law_cup : Cal P w K mg base 1 "_law_cup" (spFilled K) := MN.c_law_cup (a 13 _ _ rfl (by decide +kernel)) B
  have c_law_toss : Cal P w K mg base 1 "_law_toss" spDip := MN.c_law_toss (a 14 _ _ rfl (by decide +kernel)) B
  have c_law_choices : Cal P w K mg base 2 "_law_choices" (spChoices K) := MN.c_law_choices (a 15 _ _ rfl (by decide +kernel)) B c_law_toss
  have c_law_alphabet : Cal P w K mg base 3 "_law_alphabet" spAlpha := MN.c_law_alphabet (a 16 _ _ rfl (by decide +kernel)) B c_law_toss c_law_choices
  have c_law_choice : Cal P w K mg base 2 "_law_choice" (spPick K) := MN.c_law_choice (a 17 _ _ rfl (by decide +kernel)) B c_law_toss
  have c_law_rates : Cal P w K mg base 3 "_law_rates" (spRates K) := MN.c_law_rates (a 18 _ _ rfl (by decide +kernel)) B c_law_toss c_law_choice
  have c_law_priced : Cal P w K mg base 6 "_law_priced" (spPriced (He.ga K "Prices")) := MN.c_law_priced (a 19 _ _ rfl (by decide +kernel)) B PC c_are_prices
  have c_law_listed_words : Cal P w K mg base 1 "_law_listed_words" (spListed K) := MN.c_law_listed_words (a 20 _ _ rfl (by decide +kernel)) B
  have c_law_nearby : Cal P w K mg base 1 "_law_nearby" spNearby := MN.c_law_nearby (a 21 _ _ rfl (by decide +kernel)) B
  have c_law_forced : Cal P w K mg base 2 "_law_forced" (spForced K) := MN.c_law_forced (a 22 _ _ rfl (by decide +kernel)) B c_law_nearby
  have c_law_closed_right : Cal P w K mg base 7 "_law_closed_right" (spClosedRight (He.ga K "Prices")) := MN.c_law_closed_right (a 23 _ _ rfl (by decide +kernel)) B PC c_are_prices c_closed_of c_distance
  exact f_law F B PC c_law_cup c_law_alphabet c_law_rates c_law_priced c_law_listed_words c_law_choice c_law_forced c_distance c_law_closed_right c_are_prices c_closed_of
end
end MN
open PySem PySem.W PySem.Calls PyProof.Rows
set_option maxHeartbeats 0 in
theorem PySem.Challenge.cw_mendnumber_k06_whole_costs_by_force_holds : PySem.Challenge.rw_mendnumber_k06_whole_costs_by_force.Holds := by
  w_on; o_law
  k_head
  case hw => w_witness2
  case hc =>
    refine MN.walk_g (l := PySem.Challenge.rw_mendnumber_k06_whole_costs_by_force) (n := 63) (k := 8) (x := "_law_script") rfl (by decide) (by kernel_rfl) ⟨rfl, by decide, by decide⟩ ?F
    intro w mg fa h Y G hmg0
    have KX := kIn_of Y
    have hmg : mg ("law" : PySem.Str) = some (.ref fa) := by
      have e : (HandSHeadRun.topDef (OpenLaw.row PySem.Challenge.rw_mendnumber_k06_whole_costs_by_force).prog 43).name = ("law" : PySem.Str) := by kernel_rfl
      rw [← e]
      exact hmg0
    obtain ⟨fd, hb, hF⟩ := MN.facts06 (P := (PySem.Challenge.rw_mendnumber_k06_whole_costs_by_force).prog) (w := w) KX G hmg (by unfold MN.SaysX; kernel_rfl)
    exact ⟨_, fd, MN.spLaw _, KX, hb, fun H a ns hl _ hS => ⟨a, ns, rfl, hS, Nat.le_trans hl (by decide), fun _ => rfl⟩, hF⟩
