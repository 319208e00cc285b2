import PyProof.Rows.All
import Wide.All
import OpenK.AllK
import Wide.FinOn
import KE.KStateDown
import KE.SortKeyHeap
import KE.GoesMore
import KE.GoesNew
import KE.KDictZip
import Lean
import HandS.ForMost
import HandS.More
import HandS.Walk
import HandS.Flow
import HandS.Style
import HandS.Conv
import HandS.Defaults
import HandS.IsInst
import HandS.DictComp
import HandS.SortKw
import HandS.Slots
import HandS.SlotsOwn
import HandS.ClsMeth
import HandS.MakeKwOnly
import HandS.Zip
import HandS.TupAny
import HandS.ListItems
import HandS.SetFor
import HandS.Strs
import HandS.CallLocal
import HandS.WordsExc
import HandS.WordsDict
import HandS.Small
import HandS.Head0
import HandS.Head1
import HandS.Head2
import HandS.HeadEnd
import HandS.HeadHook1
import HandS.HeadHook2
import HandS.HeadNt
import PySem.Challenge.RW_mendnumber_k28_near_rows
set_option Elab.async false
set_option linter.all false
set_option maxRecDepth 100000
set_option maxHeartbeats 4000000
/-! defs by their names; promises that hold while nothing is being shown (repr) -/
namespace MN
open PySem PySem.Spec PyProof.Rows L2
/-- the def x of the text st, under its name -/
def At (K : PySem.W.Frag) (mg : Str → Option Value) (x : Str) (st : Stmt) : Prop := ∃ f fd, FunD K x x (defArgs st) (defBody st) (defScope st) [] [] f fd ∧ mg x = some (.ref f)
abbrev BindEq (x : Str) (st : Stmt) (ps : List Str) : Prop := ∀ (kV doc pm : Value) (an : Option Addr) (cdv ct : Value) (us : List Value), us.length = ps.length → bindArgs (PySem.W.fnOf x x (defArgs st) (defBody st) (defScope st) .none kV doc pm an cdv ct) ⟨us, []⟩ = pure (ps.zip us)
/-- a def that may be called by its name -/
structure Cal (P : Program) (w : World) (K : PySem.W.Frag) (mg : Str → Option Value) (base : Heap) (k : Nat) (x : Str) (sp : Sp) : Prop where
  ex : ∃ (f : Addr) (fd : FuncData) (ps : List Str), FnOk P w K mg base CX0 k f fd ps sp ∧ mg x = some (.ref f) ∧ PySem.W.keepIn K (.ref f) = true ∧ Binds K fd ps []
/-- FnOk for calls under which nothing is being shown -/
structure FnG (P : Program) (w : World) (K : PySem.W.Frag) (mg : Str → Option Value) (base : Heap) (k : Nat) (f : Addr) (fd : FuncData) (ps : List Str) (sp : Sp) : Prop where
  len : ∀ vs H Q E, sp vs H Q E → vs.length = ps.length
  run : ∀ (A : Around) (outer : List Env) (s : Shared) (H : Hp) (args : Args) (us : List Value) (vs : List V) (Q : VK) (E : XK), A.guards = some [] → Room k A → Env0 P w K mg base A outer s H →
    BindsTo s fd args (ps.zip us) → Vals vs us → sp vs H Q E → codeAny (model P w) A (.call (.ref f) args) (CR CX0 outer P w H s Q E) s
structure CalG (P : Program) (w : World) (K : PySem.W.Frag) (mg : Str → Option Value) (base : Heap) (k : Nat) (x : Str) (sp : Sp) : Prop where
  ex : ∃ (f : Addr) (fd : FuncData) (ps : List Str), FnG P w K mg base k f fd ps sp ∧ mg x = some (.ref f) ∧ PySem.W.keepIn K (.ref f) = true ∧ Binds K fd ps []
section
variable {X : Cx} {k j : Nat} {x : Str} {sp : Sp} {p pos : Pos} {e : Expr} {es : List Expr} {t : TA}
theorem pe_c (c : Cal X.prog X.w X.K X.mg X.base k x sp) (hr : Room j X.A) (hk : k ≤ j) (hg : Gl X x) (ha : PA X (e :: es) t)
    (hdb : (x == ("__debug__" : Str)) = false := by decide) (he : starEach (e :: es) X.env = (false, eval e X.env) :: starEach es X.env := by rfl)
    (hpl : (backTo pos (starEach es X.env)).any (·.1) = false := by rfl) : PE X (.Call (.Name x p) (e :: es) [] pos) (tCall sp [] E0 t) := by
  obtain ⟨f, fd, ps, F, hm, kp, b⟩ := c.ex
  exact pe_call F (hr.mono hk) hg hm kp b .nil pass0 ha hdb he hpl
theorem run_g {f : Addr} {fd : FuncData} {ps : List Str} {pins : List (Addr × Obj)} {σ : L2.St} {H : Hp} {s : Shared} {Q : VK} {us : List Value} {vs : List V} (F : FnG X.prog X.w X.K X.mg X.base k f fd ps sp) (gd : X.A.guards = some []) (hr : Room k X.A)
    (hb : Binds X.K fd ps []) (I : Inv X pins σ H s) (r : Vals vs us) (h : sp vs H Q E0) : wpAny (model X.prog X.w) X.A (call (.ref f) us) (EP X pins σ Q) X.xe s := by
  have hl : us.length = ps.length := r.length.symm.trans (F.len _ _ _ _ h)
  have hb' := hb s us I.kIn (by rw [List.append_nil]; exact hl)
  rw [List.append_nil] at hb'
  refine wpAny_call (codeAny_mono (F.run X.A X.stack s H ⟨us, []⟩ us vs Q E0 gd hr I.env0 hb' r h) fun r s' hq => ?_)
  match r, hq with
  | .ok (.ret u), hq => exact I.after hq
theorem pe_cG (c : CalG X.prog X.w X.K X.mg X.base k x sp) (gd : X.A.guards = some []) (hr : Room j X.A) (hk : k ≤ j) (hg : Gl X x) (ha : PA X (e :: es) t)
    (hdb : (x == ("__debug__" : Str)) = false := by decide) (he : starEach (e :: es) X.env = (false, eval e X.env) :: starEach es X.env := by rfl)
    (hpl : (backTo pos (starEach es X.env)).any (·.1) = false := by rfl) : PE X (.Call (.Name x p) (e :: es) [] pos) (tCall sp [] E0 t) := by
  obtain ⟨f, fd, ps, F, hm, kp, b⟩ := c.ex
  refine ⟨fun pins s σ H Q I h => ?_⟩
  refine wpAny_Call_Name_kw (ld_glob I hg hm ?_ hdb)
  refine PySem.W.callWith_K (h₀ := X.base) I.ok.mod.kin kp (thn (ha.run pos pins s σ H _ I h) fun us s1 ⟨vs, H1, I1, r, q⟩ => ⟨I1.kIn, ?_⟩) he hpl
  exact run_g F gd (hr.mono hk) b I1 r (List.append_nil vs ▸ (show sp (vs ++ []) H1 Q E0 from q))
/-- a constant of the module -/
theorem pe_gl {v : V} (hg : Gl X x) (h : ∃ u, X.mg x = some u ∧ RelV v u) (hd : (x == ("__debug__" : Str)) = false := by decide) : PE X (.Name x pos) (tC v) := by
  obtain ⟨u, hm, r⟩ := h
  exact pe_glob hg hm r hd
end
section
variable {P : Program} {w : World} {K : PySem.W.Frag} {mg : Str → Option Value} {base : Heap}
theorem Cal.g {k : Nat} {x : Str} {sp : Sp} (c : Cal P w K mg base k x sp) : CalG P w K mg base k x sp := by
  obtain ⟨f, fd, ps, F, hm, kp, b⟩ := c.ex
  exact ⟨f, fd, ps, ⟨F.len, fun A outer s H args us vs Q E _ => F.run A outer s H args us vs Q E⟩, hm, kp, b⟩
theorem cal_of {x : Str} {st : Stmt} {N ps : List Str} {k : Nat} {sp : Sp} (A : At K mg x st) (S : FnScope N ps (defScope st)) (hb : BindEq x st ps)
    (len : ∀ vs H Q E, sp vs H Q E → vs.length = ps.length)
    (hbody : ∀ (f : Addr) (cdv : Value) (A : Around) (outer : List Env) (s : Shared) (H : Hp) (vs : List V) (Q : VK) (E : XK), Room k (A.deeper (envOfC x (defScope st) s.heap.objs.size f cdv)) → sp vs H Q E →
      ∃ t, PSs (cxOf CX0 P w K mg base N x (defScope st) f cdv A outer s H E).nox (defBody st) t ∧ t { nx := fun _ H' => Q .non H', rt := Q } (start N vs) H) : Cal P w K mg base (k + 1) x sp := by
  obtain ⟨f, fd, F, hm⟩ := A
  refine ⟨f, fd, ps, F.ok S len fun cdv A outer s H vs Q E hr h => ?_, hm, F.kp, F.bindsN hb⟩
  obtain ⟨t, h1, h2⟩ := hbody f cdv A outer s H vs Q E hr h
  exact ⟨t, h1.nox, h2⟩
theorem fnG_of {x : Str} {st : Stmt} {N ps : List Str} {k : Nat} {sp : Sp} {f : Addr} {fd : FuncData} (F : FunD K x x (defArgs st) (defBody st) (defScope st) [] [] f fd) (S : FnScope N ps (defScope st))
    (len : ∀ vs H Q E, sp vs H Q E → vs.length = ps.length)
    (hbody : ∀ (cdv : Value) (A : Around) (outer : List Env) (s : Shared) (H : Hp) (vs : List V) (Q : VK) (E : XK), (A.deeper (envOfC x (defScope st) s.heap.objs.size f cdv)).guards = some [] → Room k (A.deeper (envOfC x (defScope st) s.heap.objs.size f cdv)) → sp vs H Q E →
      ∃ t, PSs (cxOf CX0 P w K mg base N x (defScope st) f cdv A outer s H E).nox (defBody st) t ∧ t { nx := fun _ H' => Q .non H', rt := Q } (start N vs) H) : FnG P w K mg base (k + 1) f fd ps sp := by
  refine ⟨len, fun A outer s H args us vs Q E gd hr e0 hb r hsp => ?_⟩
  obtain ⟨oc, od, dV, kV, doc, pm, an, cdv, ct, osl, rfl, lk, hcd, -, -⟩ := F.ex
  have kin : ∀ b o, base.get? b = some o → s.heap.get? b = some o := fun b o e => (e0.bs b o e).1
  have KX : K.In s.heap := e0.mod.kin.keeps kin
  refine codeAny_call_function hr.depth (KX _ _ lk) rfl S.co S.gen rfl (PySem.W.codeRec_of KX hcd) (hb _ _ _ _ ?_)
  refine wpAny_newFunctionEnv_cells S.kind (fun y hy => (S.par y.1 (List.of_mem_zip hy).1).imp id fun q => ⟨q, PySem.W.cellsFrom_some _ _ _ (.inl q)⟩) fun env he s1 ic => ?_
  cases he
  refine ⟨(e0.mod.nolimit.keeps kin).keeps ic.toInCall.keep, codeAny_func ?_⟩
  obtain ⟨t, ht, hq⟩ := hbody cdv A outer s H vs Q E gd (hr.deeper _) hsp
  have I : Inv (cxOf CX0 P w K mg base N x (defScope st) f cdv A outer s H E) [] (start N vs) H s1 := inv_start S hr.hd e0 (len _ _ _ _ hsp) r ic
  refine wpAny_mono (ht.nox.run [] s1 (start N vs) H _ I hq) (fun fl s' hs => ?_) fun _ _ hs => hs
  match fl, hs with
  | .ret u, ⟨v, σ', H', J, rv, q⟩ => exact ⟨v, H', J.os, J.bare, J.base, J.hok, rv, q⟩
  | .next, ⟨σ', H', J, q⟩ => exact ⟨V.non, H', J.os, J.bare, J.base, J.hok, rfl, q⟩
  | .brk, ⟨_, _, _, q⟩ => exact q.elim
  | .cont, ⟨_, _, _, q⟩ => exact q.elim
theorem calG_of {x : Str} {st : Stmt} {N ps : List Str} {k : Nat} {sp : Sp} (A : At K mg x st) (S : FnScope N ps (defScope st)) (hb : BindEq x st ps)
    (len : ∀ vs H Q E, sp vs H Q E → vs.length = ps.length)
    (hbody : ∀ (f : Addr) (cdv : Value) (A : Around) (outer : List Env) (s : Shared) (H : Hp) (vs : List V) (Q : VK) (E : XK), (A.deeper (envOfC x (defScope st) s.heap.objs.size f cdv)).guards = some [] → Room k (A.deeper (envOfC x (defScope st) s.heap.objs.size f cdv)) → sp vs H Q E →
      ∃ t, PSs (cxOf CX0 P w K mg base N x (defScope st) f cdv A outer s H E).nox (defBody st) t ∧ t { nx := fun _ H' => Q .non H', rt := Q } (start N vs) H) : CalG P w K mg base (k + 1) x sp := by
  obtain ⟨f, fd, F, hm⟩ := A
  exact ⟨f, fd, ps, fnG_of F S len (hbody f), hm, F.kp, F.bindsN hb⟩
end
end MN
/-! the end of a law's row: its def called where nothing is being shown -/
namespace MN
open PySem PySem.Spec PyProof.Rows L2
theorem law_g {P : Program} {w : World} {K : PySem.W.Frag} {mg mb : Str → Option Value} {k : Nat} {fa a : Addr} {fd : FuncData} {x : Str} {sp : Sp} {s₁ : Shared} {vs : List Value} {ns : List Int}
    (KX : K.In s₁.heap) (hns : s₁.heap.Ns mainGlobals mg) (hb : s₁.heap.Ns builtinsNs mb) (hbb : ∀ x : Str, x ≠ "__name__" → mb x = bootBuiltins x) (hlim : s₁.heap.NoLimit) (hg : s₁.gens = #[])
    (ha : s₁.heap.get? a = some { cls := .type "list", data := .seq vs.toArray }) (hi : IntsAre vs ns) (hl : ns.length ≤ sizeLine) (hr : Room k callerA)
    (F : ∀ base : Heap, K.In base → base.Ns mainGlobals mg → FnG P w K mg base k fa fd [x] sp) (hbind : ∀ (s : Shared) (u : Value), BindsTo s fd ⟨[u], []⟩ [(x, u)])
    (hsp : ∀ H : Hp, Only H → SqL K H a (ns.map V.int) → sp [.ref a] H (fun v _ => v = .bl true) E0) :
    codeAny (model P w) callerA (.call (.ref fa) ⟨[.ref a], []⟩) (fun r s' => r = .ok (.ret (.bool true)) ∧ OldK s₁.heap s'.heap ∧ s'.os = s₁.os ∧ AllBare s'.gens) s₁ := by
  have rv := vals_ints hi
  have core : ∀ H : Hp, Only H → SqL K H a (ns.map V.int) → HOk P w H s₁.heap → (∀ b u, H b = some u → b = a ∧ K.lookup a = none) →
      codeAny (model P w) callerA (.call (.ref fa) ⟨[.ref a], []⟩) (fun r s' => r = .ok (.ret (.bool true)) ∧ OldK s₁.heap s'.heap ∧ s'.os = s₁.os ∧ AllBare s'.gens) s₁ := by
    intro H hO hS hok hA
    have free : ∀ {b : Addr}, b ≠ a → H b = none := fun {b} hb => by
      cases q : H b with
      | none => rfl
      | some u => exact absurd (hA b u q).1 hb
    have nsK : ∀ {b : Addr} {m : Str → Option Value}, s₁.heap.Ns b m → (hidT s₁.heap H).Ns b m := fun {b m} ⟨o, es, ep, e, d, r⟩ => by
      refine ⟨o, es, ep, hidT_get e (free fun z => ?_), d, r⟩
      rw [z, ha] at e
      cases e
      cases (show Data.seq vs.toArray _ = Data.dict es ep from d)
    have hKb : K.In (hidT s₁.heap H) := fun b o e => by
      refine hidT_get (KX b o e) ?_
      cases q : H b with
      | none => rfl
      | some u =>
        obtain ⟨z, zk⟩ := hA b u q
        rw [z, zk] at e
        cases e
    have hM : Mod K mg (hidT s₁.heap H) := by
      obtain ⟨mc, h1, h2⟩ := hlim
      exact ⟨hKb, nsK hns, ⟨mb, nsK hb, hbb⟩, ⟨mc, nsK h1, h2⟩⟩
    have e0 : Env0 P w K mg (hidT s₁.heap H) callerA [] s₁ H := by
      refine ⟨rfl, hM, fun b o e => of_hidT e, Nat.le_of_eq (hidT_size _ _), trivial, fun b hb => ?_, hok, .of_eq hg⟩
      cases (show b ∈ ([] : List Addr) from hb)
    refine codeAny_mono ((F _ hKb (nsK hns)).run callerA [] s₁ H ⟨[.ref a], []⟩ [.ref a] [.ref a] _ _ rfl hr e0 (hbind s₁ (.ref a)) (.cons rfl .nil) (hsp H hO hS)) fun r s' h => ?_
    match r, h with
    | .ok (.ret u), ⟨v, H', os, bare, un, hok', r', q⟩ =>
      cases (show v = .bl true from q)
      cases (show u = Value.bool true from r')
      refine ⟨rfl, OldK.of_keep fun b o e => ?_, os, bare⟩
      rcases hO b with z | ⟨ob, xs, z⟩
      · exact un.keep b o e z (fun y => nomatch (show b ∈ ([] : List Addr) from y)) (fun y => nomatch (show b ∈ ([] : List Addr) from y))
      · have e1 := (hok b _ z).1
        have e2 := (hok' b _ (un.frzs b ob _ z)).1
        rw [e] at e1
        cases e1
        exact e2
  cases hk : K.lookup a with
  | some o =>
    have e := KX a o hk
    rw [ha] at e
    cases e
    refine core (fun _ => none) (fun _ => .inl rfl) (.inr ⟨_, vs.toArray, _, hk, rfl, rfl, rfl, ?_, by simpa using rv⟩) (fun _ _ z => nomatch z) (fun _ _ z => nomatch z)
    rw [List.size_toArray, hi.length]
    exact hl
  | none =>
    let o : Obj := { cls := .type "list", data := .seq vs.toArray }
    have at_ : ∀ b u, upd (fun _ => none) a (.frz o (.lst (ns.map V.int))) b = some u → b = a ∧ u = .frz o (.lst (ns.map V.int)) := fun b u q => by
      by_cases z : b = a
      · subst z
        rw [upd_same] at q
        exact ⟨rfl, (Option.some.inj q).symm⟩
      · rw [upd_ne z] at q
        cases q
    refine core (upd (fun _ => none) a (.frz o (.lst (ns.map V.int)))) (fun b => ?_) (.inl (.inr ⟨o, upd_same⟩)) (fun b u q => ?_) (fun b u q => ⟨(at_ b u q).1, hk⟩)
    · by_cases z : b = a
      · subst z; exact .inr ⟨_, _, upd_same⟩
      · exact .inl (upd_ne z)
    · obtain ⟨rfl, rfl⟩ := at_ b u q
      exact ⟨ha, by rw [List.length_map]; exact hl, vs, _, rv, ha⟩
theorem walk_g {l : PySem.W.OpenLaw} {n k : Nat} {q : Program} {loose : List Str} {XP : (Str → Option Value) → Heap → Prop} {YP : World → Heap → Prop} {d : DefRec} {x : Str}
    (hn : l.most = some n) (hn2 : n ≤ sizeLine) (hdf : d.params.defaults = []) (hr : Room k callerA)
    (F : ∀ (w : World) (mg : Str → Option Value) (fa : Addr) (h : Heap), YP w h → h.Ns mainGlobals mg → mg d.name = some (.ref fa) →
      ∃ (K : PySem.W.Frag) (fd : FuncData) (sp : Sp), K.In h ∧ (∀ (s : Shared) (u : Value), BindsTo s fd ⟨[u], []⟩ [(x, u)]) ∧
        (∀ (H : Hp) (a : Addr) (ns : List Int), ns.length ≤ n → Only H → SqL K H a (ns.map V.int) → sp [.ref a] H (fun v _ => v = .bl true) E0) ∧
        ∀ base : Heap, K.In base → base.Ns mainGlobals mg → FnG l.prog w K mg base k fa fd [x] sp) :
    PySem.W.WalkO q loose XP YP l.row.toRowW d [] (fun f vs => PySem.call f vs) := by
  refine Att.attach_call hn hdf fun w s₀ s₁ mg mb fa o pm cd doc a vs ns G Y ho hd hcd hmg hobj hints hlen hg => ?_
  obtain ⟨K, fd, sp, KX, hb, hsp, hF⟩ := F w mg fa _ Y G.T.g hmg
  exact law_g KX G.T.g G.T.b G.T.builtins G.T.nolimit hg hobj hints (Nat.le_trans hlen hn2) hr hF hb fun H hO hS => hsp H a ns hlen hO hS
end MN
namespace MN
open PySem L2
def top (i : Nat) : Stmt := PySem.Challenge.pw_mendnumber_k28_near_rows.main.body.getD i (.Pass ⟨0, 0, 0, 0⟩)
end MN
/-! comprehensions whose tests and items leave the heap as it is -/
namespace MN
open PySem PySem.Spec PyProof.Rows L2
theorem seqL_upd {K : PySem.W.Frag} {H : Hp} {a D : Addr} {xs : List V} {o : HO} (h : SqL K H a xs) (hD : H D = none) : SqL K (upd H D o) a xs := by
  rcases h with (h | ⟨o, h⟩) | h
  · exact .inl (.inl (by rw [upd_ne (ne_of_none h hD)]; exact h))
  · exact .inl (.inr ⟨o, by rw [upd_ne (ne_of_none h hD)]; exact h⟩)
  · exact .inr h
theorem seqT_upd {K : PySem.W.Frag} {H : Hp} {a D : Addr} {xs : List V} {o : HO} (h : SqT K H a xs) (hD : H D = none) : SqT K (upd H D o) a xs := by
  rcases h with (h | ⟨o, h⟩) | h
  · exact .inl (.inl (by rw [upd_ne (ne_of_none h hD)]; exact h))
  · exact .inl (.inr ⟨o, by rw [upd_ne (ne_of_none h hD)]; exact h⟩)
  · exact .inr h
theorem Same.seqT {K : PySem.W.Frag} {H H' : Hp} {a : Addr} {xs : List V} (e : Same H H') (h : SqT K H a xs) : SqT K H' a xs := by
  rcases h with (h | ⟨o, h⟩) | h
  · exact .inl (.inl (e _ _ h))
  · exact .inl (.inr ⟨o, e _ _ h⟩)
  · exact .inr h
/-- the reading of a comprehension, from where its source's walk is known -/
abbrev LcGoal (J : It) (g : TG) (tt : TT) (te : TE) (vs : List Nat) (σ : L2.St) (H1 : Hp) (D : Addr) (Qd : Hp → Prop) : Prop := ∃ W : Nat → Nat → Hp → Prop, (∃ m, W 0 m (upd H1 D (.lst []))) ∧ ∀ i m H, W i m H →
  (J.stop i H ∧ Qd H) ∨ (J.go i H ∧ ∃ Nx : Hp → Prop, (∀ H', Nx H' → ∃ m', m' < m ∧ W (i + 1) m' H') ∧ ∀ x H', J.yld i H x H' → g x (wipe σ vs) H' fun σ2 H2 => wipe σ2 vs = wipe σ vs ∧ tt σ2 H2 fun b H3 =>
    if b = true then te σ2 H3 fun y H4 => ∃ acc, H4 D = some (.lst acc) ∧ acc.length < sizeLine ∧ Nx (upd H4 D (.lst (acc ++ [y]))) else Nx H3)
theorem lc_pure {J : It} {n : Nat} {G : Hp → Prop} {Y : Nat → Hp → V → Hp → Prop} (w : Walk J n G Y) (xs : List V) (hn : xs.length = n) (hz : n ≤ 1000000) (hY : ∀ i H x H', i < n → Y i H x H' → H' = H ∧ xs[i]? = some x)
    {j : Nat} {tt : TT} {te : TE} {vs : List Nat} {σ : L2.St} {H1 : Hp} {D : Addr} {Qd : Hp → Prop} (f : V → Bool) (v : V → V) (hG : ∀ acc, G (upd H1 D (.lst acc)))
    (hw : ∀ x ∈ xs, wipe ((wipe σ vs).set j (some x)) vs = wipe σ vs)
    (ht : ∀ x ∈ xs, ∀ (acc : List V) (Q : Bool → Hp → Prop), Q (f x) (upd H1 D (.lst acc)) → tt ((wipe σ vs).set j (some x)) (upd H1 D (.lst acc)) Q)
    (he : ∀ x ∈ xs, f x = true → ∀ (acc : List V) (Q : VK), Q (v x) (upd H1 D (.lst acc)) → te ((wipe σ vs).set j (some x)) (upd H1 D (.lst acc)) Q)
    (hd : Qd (upd H1 D (.lst ((xs.filter f).map v)))) : LcGoal J (gName j) tt te vs σ H1 D Qd := by
  refine lc_it w (fun i H' => H' = upd H1 D (.lst (((xs.take i).filter f).map v))) (by rw [List.take_zero]; rfl) (fun i H' _ e => by rw [e]; exact hG _) (fun i x H H' hi e y => ?_) (fun H' e => ?_)
  · obtain ⟨rfl, hx⟩ := hY i H x H' hi y
    subst e
    have hm : x ∈ xs := List.mem_of_getElem? hx
    have tk : xs.take (i + 1) = xs.take i ++ [x] := by rw [List.take_add_one, hx]; rfl
    refine ⟨hw x hm, ht x hm _ _ ?_⟩
    cases hf : f x with
    | false =>
      refine iteF ?_
      rw [tk, List.filter_append, List.filter_cons, hf]
      simp
    | true =>
      refine iteT (he x hm hf _ _ ⟨_, upd_same, ?_, ?_⟩)
      · rw [List.length_map]
        refine Nat.lt_of_le_of_lt (List.length_filter_le _ _) (Nat.lt_of_le_of_lt (List.length_take_le _ _) ?_)
        have : 1000000 < sizeLine := by decide
        omega
      · rw [upd_upd, tk, List.filter_append, List.filter_cons, hf]
        simp
  · rw [e, ← hn, List.take_length]
    exact hd
section
variable {K : PySem.W.Frag} {j : Nat} {tt : TT} {te : TE} {vs : List Nat} {σ : L2.St} {H1 : Hp} {D a : Addr} {Qd : Hp → Prop}
def signsOf (z : Str) : List V := z.cps.toList.map fun c => V.str ⟨#[c]⟩
theorem lc_str {z : Str} (hz : z.length ≤ 1000000) (f : V → Bool) (v : V → V) (hw : ∀ x ∈ signsOf z, wipe ((wipe σ vs).set j (some x)) vs = wipe σ vs)
    (ht : ∀ x ∈ signsOf z, ∀ (acc : List V) (Q : Bool → Hp → Prop), Q (f x) (upd H1 D (.lst acc)) → tt ((wipe σ vs).set j (some x)) (upd H1 D (.lst acc)) Q)
    (he : ∀ x ∈ signsOf z, f x = true → ∀ (acc : List V) (Q : VK), Q (v x) (upd H1 D (.lst acc)) → te ((wipe σ vs).set j (some x)) (upd H1 D (.lst acc)) Q)
    (hd : Qd (upd H1 D (.lst (((signsOf z).filter f).map v)))) : LcGoal (Its z) (gName j) tt te vs σ H1 D Qd := by
  refine lc_pure walk_str (signsOf z) (by simp [signsOf]) hz (fun i H x H' hi y => ?_) f v (fun _ => trivial) hw ht he hd
  obtain ⟨e, c, hc, rfl⟩ := y
  refine ⟨e, ?_⟩
  simp [signsOf, hc]
theorem lc_lst {xs : List V} (hs : SqL K H1 a xs) (hD : H1 D = none) (hz : xs.length ≤ 1000000) (f : V → Bool) (v : V → V) (hw : ∀ x ∈ xs, wipe ((wipe σ vs).set j (some x)) vs = wipe σ vs)
    (ht : ∀ x ∈ xs, ∀ (acc : List V) (Q : Bool → Hp → Prop), Q (f x) (upd H1 D (.lst acc)) → tt ((wipe σ vs).set j (some x)) (upd H1 D (.lst acc)) Q)
    (he : ∀ x ∈ xs, f x = true → ∀ (acc : List V) (Q : VK), Q (v x) (upd H1 D (.lst acc)) → te ((wipe σ vs).set j (some x)) (upd H1 D (.lst acc)) Q)
    (hd : Qd (upd H1 D (.lst ((xs.filter f).map v)))) : LcGoal (Itl K a) (gName j) tt te vs σ H1 D Qd :=
  lc_pure walk_list xs rfl hz (fun _ _ _ _ _ y => y) f v (fun _ => seqL_upd hs hD) hw ht he hd
theorem lc_tpl {xs : List V} (hs : SqT K H1 a xs) (hD : H1 D = none) (hz : xs.length ≤ 1000000) (f : V → Bool) (v : V → V) (hw : ∀ x ∈ xs, wipe ((wipe σ vs).set j (some x)) vs = wipe σ vs)
    (ht : ∀ x ∈ xs, ∀ (acc : List V) (Q : Bool → Hp → Prop), Q (f x) (upd H1 D (.lst acc)) → tt ((wipe σ vs).set j (some x)) (upd H1 D (.lst acc)) Q)
    (he : ∀ x ∈ xs, f x = true → ∀ (acc : List V) (Q : VK), Q (v x) (upd H1 D (.lst acc)) → te ((wipe σ vs).set j (some x)) (upd H1 D (.lst acc)) Q)
    (hd : Qd (upd H1 D (.lst ((xs.filter f).map v)))) : LcGoal (Itt K a) (gName j) tt te vs σ H1 D Qd :=
  lc_pure walk_tup xs rfl hz (fun _ _ _ _ _ y => y) f v (fun _ => seqT_upd hs hD) hw ht he hd
def rangeV (n : Nat) : List V := (List.range n).map fun (i : Nat) => V.int (i : Int)
theorem lc_rng {n : Nat} (hz : n ≤ 1000000) (f : V → Bool) (v : V → V) (hw : ∀ x ∈ rangeV n, wipe ((wipe σ vs).set j (some x)) vs = wipe σ vs)
    (ht : ∀ x ∈ rangeV n, ∀ (acc : List V) (Q : Bool → Hp → Prop), Q (f x) (upd H1 D (.lst acc)) → tt ((wipe σ vs).set j (some x)) (upd H1 D (.lst acc)) Q)
    (he : ∀ x ∈ rangeV n, f x = true → ∀ (acc : List V) (Q : VK), Q (v x) (upd H1 D (.lst acc)) → te ((wipe σ vs).set j (some x)) (upd H1 D (.lst acc)) Q)
    (hd : Qd (upd H1 D (.lst (((rangeV n).filter f).map v)))) : LcGoal (Itr 0 n) (gName j) tt te vs σ H1 D Qd := by
  refine lc_pure (walk_range (lo := 0)) (rangeV n) (by simp [rangeV]) hz (fun i H x H' hi y => ?_) f v (fun _ => trivial) hw ht he hd
  obtain ⟨e1, e2⟩ := y
  refine ⟨e1, ?_⟩
  simp [rangeV, hi, e2]
end
/-- tests and items may lay new objects -/
theorem lc_ext {J : It} {n : Nat} {G : Hp → Prop} {Y : Nat → Hp → V → Hp → Prop} (w : Walk J n G Y) (xs : List V) (hn : xs.length = n) (hz : n ≤ 1000000) (hY : ∀ i H x H', i < n → Y i H x H' → H' = H ∧ xs[i]? = some x)
    {j : Nat} {tt : TT} {te : TE} {vs : List Nat} {σ : L2.St} {H1 : Hp} {D : Addr} {Qd : Hp → Prop} (hD : H1 D = none) (f : V → Bool) (v : V → V) (hG : ∀ H', Same H1 H' → G H')
    (hw : ∀ x ∈ xs, wipe ((wipe σ vs).set j (some x)) vs = wipe σ vs)
    (ht : ∀ x ∈ xs, ∀ H2, Same H1 H2 → ∀ (Q : Bool → Hp → Prop), (∀ H3, Same H2 H3 → Q (f x) H3) → tt ((wipe σ vs).set j (some x)) H2 Q)
    (he : ∀ x ∈ xs, f x = true → ∀ H2, Same H1 H2 → ∀ (Q : VK), (∀ H3, Same H2 H3 → Q (v x) H3) → te ((wipe σ vs).set j (some x)) H2 Q)
    (hd : ∀ H', Same H1 H' → H' D = some (.lst ((xs.filter f).map v)) → Qd H') : LcGoal J (gName j) tt te vs σ H1 D Qd := by
  refine lc_it w (fun i H' => Same H1 H' ∧ H' D = some (.lst (((xs.take i).filter f).map v))) ⟨fun b o e => by rw [upd_ne (ne_of_none e hD)]; exact e, by rw [List.take_zero]; exact upd_same⟩ (fun i H' _ e => hG _ e.1) (fun i x H H' hi e y => ?_) (fun H' e => ?_)
  · obtain ⟨rfl, hx⟩ := hY i H x H' hi y
    obtain ⟨e1, e2⟩ := e
    have hm : x ∈ xs := List.mem_of_getElem? hx
    have tk : xs.take (i + 1) = xs.take i ++ [x] := by rw [List.take_add_one, hx]; rfl
    refine ⟨hw x hm, ht x hm _ e1 _ fun H3 e3 => ?_⟩
    cases hf : f x with
    | false =>
      refine iteF ⟨e1.trans e3, ?_⟩
      rw [tk, List.filter_append, List.filter_cons, hf]
      simpa using e3 _ _ e2
    | true =>
      refine iteT (he x hm hf _ (e1.trans e3) _ fun H4 e4 => ⟨_, e4 _ _ (e3 _ _ e2), ?_, fun b o q => ?_, ?_⟩)
      · rw [List.length_map]
        refine Nat.lt_of_le_of_lt (List.length_filter_le _ _) (Nat.lt_of_le_of_lt (List.length_take_le _ _) ?_)
        have : 1000000 < sizeLine := by decide
        omega
      · rw [upd_ne (ne_of_none q hD)]
        exact e4 _ _ (e3 _ _ (e1 _ _ q))
      · rw [upd_same, tk, List.filter_append, List.filter_cons, hf]
        simp
  · rw [← hn, List.take_length] at e
    exact hd H' e.1 e.2
section
variable {K : PySem.W.Frag} {j : Nat} {tt : TT} {te : TE} {vs : List Nat} {σ : L2.St} {H1 : Hp} {D a : Addr} {Qd : Hp → Prop}
theorem lc_tplE {xs : List V} (hs : SqT K H1 a xs) (hD : H1 D = none) (hz : xs.length ≤ 1000000) (f : V → Bool) (v : V → V) (hw : ∀ x ∈ xs, wipe ((wipe σ vs).set j (some x)) vs = wipe σ vs)
    (ht : ∀ x ∈ xs, ∀ H2, Same H1 H2 → ∀ (Q : Bool → Hp → Prop), (∀ H3, Same H2 H3 → Q (f x) H3) → tt ((wipe σ vs).set j (some x)) H2 Q)
    (he : ∀ x ∈ xs, f x = true → ∀ H2, Same H1 H2 → ∀ (Q : VK), (∀ H3, Same H2 H3 → Q (v x) H3) → te ((wipe σ vs).set j (some x)) H2 Q)
    (hd : ∀ H', Same H1 H' → H' D = some (.lst ((xs.filter f).map v)) → Qd H') : LcGoal (Itt K a) (gName j) tt te vs σ H1 D Qd :=
  lc_ext walk_tup xs rfl hz (fun _ _ _ _ _ y => y) hD f v (fun _ e => Same.seqT e hs) hw ht he hd
theorem lc_lstE {xs : List V} (hs : SqL K H1 a xs) (hD : H1 D = none) (hz : xs.length ≤ 1000000) (f : V → Bool) (v : V → V) (hw : ∀ x ∈ xs, wipe ((wipe σ vs).set j (some x)) vs = wipe σ vs)
    (ht : ∀ x ∈ xs, ∀ H2, Same H1 H2 → ∀ (Q : Bool → Hp → Prop), (∀ H3, Same H2 H3 → Q (f x) H3) → tt ((wipe σ vs).set j (some x)) H2 Q)
    (he : ∀ x ∈ xs, f x = true → ∀ H2, Same H1 H2 → ∀ (Q : VK), (∀ H3, Same H2 H3 → Q (v x) H3) → te ((wipe σ vs).set j (some x)) H2 Q)
    (hd : ∀ H', Same H1 H' → H' D = some (.lst ((xs.filter f).map v)) → Qd H') : LcGoal (Itl K a) (gName j) tt te vs σ H1 D Qd :=
  lc_ext walk_list xs rfl hz (fun _ _ _ _ _ y => y) hD f v (fun _ e => Same.seq e hs) hw ht he hd
end
theorem yes_q {σ : L2.St} {H : Hp} {Q : Bool → Hp → Prop} (h : Q true H) : tYes σ H Q := h
theorem filter_all {xs : List V} : xs.filter (fun _ => true) = xs := by simp
end MN
namespace MN
open PySem PySem.Spec PyProof.Rows L2
/-- the built-in names that no def of the module hides; the signs -/
structure Blt (mg : Str → Option Value) : Prop where
  isinstance : mg "isinstance" = none
  str : mg "str" = none
  len : mg "len" = none
  all : mg "all" = none
  tuple : mg "tuple" = none
  int : mg "int" = none
  bool : mg "bool" = none
  list : mg "list" = none
  dict : mg "dict" = none
  range : mg "range" = none
  sorted : mg "sorted" = none
  zip : mg "zip" = none
  max : mg "max" = none
  min : mg "min" = none
  abs : mg "abs" = none
  repr : mg "repr" = none
  sum : mg "sum" = none
  any : mg "any" = none
  set : mg "set" = none
  enumerate : mg "enumerate" = none
  SIGNS : ∃ u, mg "SIGNS" = some u ∧ RelV (.str "abcde") u
def bltNames : List Str := ([("isinstance" : Str), ("str" : Str), ("len" : Str), ("all" : Str), ("tuple" : Str), ("int" : Str), ("bool" : Str), ("list" : Str)] : List Str) ++ ([("dict" : Str), ("range" : Str), ("sorted" : Str), ("zip" : Str), ("max" : Str), ("min" : Str), ("abs" : Str), ("repr" : Str)] : List Str) ++ ([("sum" : Str), ("any" : Str), ("set" : Str), ("enumerate" : Str)] : List Str)
theorem Blt.of {mg : Str → Option Value} (h : ∀ x ∈ bltNames, mg x = none) (hs : ∃ u, mg "SIGNS" = some u ∧ RelV (.str "abcde") u) : Blt mg := by
  refine ⟨h _ ?_, h _ ?_, h _ ?_, h _ ?_, h _ ?_, h _ ?_, h _ ?_, h _ ?_, h _ ?_, h _ ?_, h _ ?_, h _ ?_, h _ ?_, h _ ?_, h _ ?_, h _ ?_, h _ ?_, h _ ?_, h _ ?_, h _ ?_, hs⟩ <;> simp [bltNames]
end MN
/-! rules of one's own: repr of data, powers, texts repeated, a tuple turned round -/
namespace MN
open PySem PySem.Spec PyProof.Rows L2
section
variable {X : Cx}
/-- repr of lists and tuples of data -/
def rRepr (K : PySem.W.Frag) : List V → Hp → VK → Prop := fun xs H Q => ∃ (x : V) (d : PyData), xs = [x] ∧ Dp K H x d ∧ isDisplay d = true ∧ d.showable = true ∧ d.hasDict = false ∧ d.depth ≤ 60 ∧ d.shown.length ≤ sizeLine ∧ Q (.str d.shown) H
theorem call_repr (gd : X.A.guards = some []) (hu : X.A.units + 64 < cLine) : CallR X (.builtin "repr") (rRepr X.K) := by
  intro pins s σ H vs us Q I r h
  obtain ⟨x, d, rfl, hd, h1, h2, h3, h4, h5, q⟩ := h
  cases r with
  | cons rx rn =>
    cases rn
    obtain ⟨as, rd⟩ := Dp.reads I d x _ hd rx
    obtain ⟨a, rfl⟩ := isRef_of_reads rd h1
    refine repr_of_reads' rd h2 (PyData.noDict_hsm h3) gd (by omega) (fun _ _ e => e) (fun h' u tk hk => ?_) h5
    exact ⟨.str d.shown, H, I.kept hk, ⟨u, rfl⟩, q⟩
/-- i ** j, as far as the bits go -/
theorem op_powB : OpR X (binaryOp .Pow) (rI (fun i j => 0 ≤ j ∧ (Builtin.Int.intBits i : Int) * j ≤ 2 ^ 27) fun i j => .int (i ^ j.toNat)) := opI fun _ _ _ _ _ _ _ hc q => pow_int hc.1 hc.2 q
/-- s * n -/
def repS (z : Str) (n : Int) : Str := ⟨((List.replicate n.toNat z.cps.toList).flatten).toArray⟩
theorem foldl_app (l : List (Array Nat)) : ∀ a : Array Nat, (l.foldl (· ++ ·) a).toList = a.toList ++ (l.map Array.toList).flatten := by
  induction l with
  | nil => intro a; simp
  | cons x l ih => intro a; rw [List.foldl_cons, ih]; simp
theorem repS_length (z : Str) (n : Int) : (repS z n).length = n.toNat * z.length := by
  simp [repS, Str.length]
def rRepS : R2 := fun x y H Q => ∃ (z : Str) (n : Int), x = .str z ∧ y = .int n ∧ 0 ≤ n ∧ n ≤ 100000 ∧ z.length ≤ 100 ∧ Q (.str (repS z n)) H
theorem op_repS : OpR X (binaryOp .Mult) rRepS := by
  intro pins s σ H x y v u Q I rx ry h
  obtain ⟨z, n, rfl, rfl, h0, h1, h2, q⟩ := h
  obtain ⟨t, rfl⟩ := rx
  obtain ⟨t2, rfl⟩ := ry
  have hb : z.length * n.toNat ≤ 100 * 100000 := Nat.mul_le_mul h2 (by omega)
  have hl : Builtin.Str.tooLong (z.length * n.toNat) = false := by
    have h9 : z.length * n.toNat ≤ sizeLine := Nat.le_trans hb (by decide)
    exact decide_eq_false (by omega)
  have hdiv : ¬ n < 1 → ¬ ((z.length : Int) > (2 ^ 63 - 1) / n) := fun hn => by
    have e : (100 : Int) ≤ (2 ^ 63 - 1) / n := (Int.le_ediv_iff_mul_le (by omega)).mpr (by omega)
    omega
  refine P.mul_str (by simp only [Bool.or_eq_false_iff, decide_eq_false_iff_not]; omega) (fun hn _ => hdiv hn) (fun _ _ => hl) ?_
  by_cases c1 : n < 1
  · have e : repS z n = Str.empty := by
      have : n.toNat = 0 := by omega
      simp [repS, this, Str.empty]
    rw [if_pos c1]
    rw [e] at q
    exact ⟨by decide, .str Str.empty, H, I.tok _, ⟨_, rfl⟩, q⟩
  · rw [if_neg c1]
    by_cases c2 : (n == 1 || z.length == 0) = true
    · rw [if_pos c2]
      have e : repS z n = z := by
        rw [Bool.or_eq_true] at c2
        rcases c2 with c2 | c2
        · have : n = 1 := eq_of_beq c2
          subst this
          simp [repS]
        · have hz : z.cps.toList = [] := by
            have : z.cps.size = 0 := eq_of_beq c2
            simpa using this
          obtain ⟨⟨l⟩⟩ := z
          cases hz
          simp [repS]
      rw [e] at q
      exact ⟨.str z, H, I, ⟨_, rfl⟩, q⟩
    · rw [if_neg c2]
      have e : (⟨(List.replicate n.toNat z.cps).foldl (· ++ ·) #[]⟩ : Str) = repS z n := by
        have := foldl_app (List.replicate n.toNat z.cps) #[]
        simp only [repS]
        congr 1
        apply Array.toList_inj.mp
        rw [this]
        simp
      rw [e]
      refine ⟨?_, .str (repS z n), H, I.tok _, ⟨_, rfl⟩, q⟩
      show (repS z n).length ≤ sizeLine
      rw [repS_length, Nat.mul_comm]
      exact Nat.le_trans hb (by decide)
/-! ### rules in a comprehension's block: the text's facts K are given by name -/
section
variable {K : PySem.W.Frag} (hK : X.K = K)
include hK
theorem lenK : CallR X (.builtin "len") (fun xs H Q => ∃ p ys, xs = [.ref p] ∧ (SqL K H p ys ∨ SqT K H p ys) ∧ Q (.int (ys.length : Nat)) H) := hK ▸ call_len_seq
theorem allK (hc : X.calm = true) : CallR X (.builtin "all") (rAll K) := hK ▸ cr_all hc
theorem isiK : CallR X (.builtin "isinstance") (rIsi K) := hK ▸ call_isi
theorem ixLK : IxR X (rIxL K) := hK ▸ ix_list
theorem ixTK : IxR X (rIxT K) := hK ▸ ix_tup
theorem inSeqK : OpR X (compareOp .In) (rIn K false) := hK ▸ op_in_seq
theorem notInSeqK : OpR X (compareOp .NotIn) (rIn K true) := hK ▸ op_notIn_seq
end
/-! ### methods of lists, the context a letter -/
section
variable {o e : Expr} {to te : TE} {apos cpos : Pos}
theorem pe_popAt (K : PySem.W.Frag) (hK : X.K = K) (ho : PE X o to) (he : PE X e te)
    (hbase : attributeBase o "pop" X.env (eval o X.env) = eval o X.env := by rfl)
    (hfew : ((backTo cpos (starEach [e] X.env)).all (fun x => !x.1) && (backToKw cpos (keywordEach [] X.env)).all (fun x => x.1.isSome) && decide ([e].length + ([] : List Keyword).length + (if ([] : List Keyword).isEmpty then 0 else 1) < 30)) = true := by rfl)
    (hline : (apos.endLine == cpos.line) = true := by rfl) (hs : starEach [e] X.env = (false, eval e X.env) :: starEach [] X.env := by rfl) : PE X (.Call (.Attribute o "pop" apos) [e] [] cpos) (tBM K "list" rPopAt to (tCons te tNil)) := hK ▸ pe_bm PySem.F.plainAttrs_list PySem.F.slot_list_pop PySem.F.type_list_pop mt_popAt ho (pa_cons he pa_nil hs) hbase hfew hline hs rfl
theorem pe_append (K : PySem.W.Frag) (hK : X.K = K) (ho : PE X o to) (he : PE X e te)
    (hbase : attributeBase o "append" X.env (eval o X.env) = eval o X.env := by rfl)
    (hfew : ((backTo cpos (starEach [e] X.env)).all (fun x => !x.1) && (backToKw cpos (keywordEach [] X.env)).all (fun x => x.1.isSome) && decide ([e].length + ([] : List Keyword).length + (if ([] : List Keyword).isEmpty then 0 else 1) < 30)) = true := by rfl)
    (hline : (apos.endLine == cpos.line) = true := by rfl) (hs : starEach [e] X.env = (false, eval e X.env) :: starEach [] X.env := by rfl) : PE X (.Call (.Attribute o "append" apos) [e] [] cpos) (tBM K "list" rAppend to (tCons te tNil)) := hK ▸ pe_bm PySem.F.plainAttrs_list PySem.F.slot_list_append PySem.F.type_list_append mt_append ho (pa_cons he pa_nil hs) hbase hfew hline hs rfl
end
end
end MN
/-! list(d.values()); a class called through a local name; what is never evaluated -/
namespace MN
open PySem PySem.Spec PyProof.Rows L2
section
variable {X : Cx}
def tNo : TE := fun _ _ _ => False
theorem pe_no {e : Expr} : PE X e tNo := ⟨fun _ _ _ _ _ _ h => h.elim⟩
theorem pi_no {tg e : Expr} : PI X tg e (fun _ _ _ => False) := ⟨fun _ _ _ _ _ _ h => h.elim⟩
def tListVals (te : TE) : TE := fun σ H Q => te σ H fun x H1 => ∃ (d : Addr) (kvs : List (Key × V)), x = .ref d ∧ H1 d = some (.dK kvs) ∧ ∀ q, H1 q = none → Q (.ref q) (upd H1 q (.lst (kvs.map (·.2))))
theorem kv_vals : ∀ {kvs : List (Key × V)} {vs : List (Key × Value)}, KV kvs vs → Vals (kvs.map (·.2)) (vs.map (·.2))
  | [], [], _ => .nil
  | _ :: _, _ :: _, .cons h t => .cons h.2 (kv_vals t)
variable {e : Expr} {te : TE} {p apos cpos pos : Pos}
/-- list(e.values()) -/
theorem pe_listVals (hc : X.calm = true) (he : PE X e te) (hg : Gl X "list") (hm : X.mg "list" = none) (hbase : attributeBase e "values" X.env (eval e X.env) = eval e X.env := by rfl) (hline : (apos.endLine == cpos.line) = true := by rfl)
    (hs : starEach [.Call (.Attribute e "values" apos) [] [] cpos] X.env = (false, eval (.Call (.Attribute e "values" apos) [] [] cpos) X.env) :: starEach [] X.env := by rfl) :
    PE X (.Call (.Name "list" p) [.Call (.Attribute e "values" apos) [] [] cpos] [] pos) (tListVals te) := by
  refine ⟨fun pins s σ H Q I hq => ?_⟩
  refine wpAny_Call_Name_kw (ld_blt I hg hm boot_list ?_)
  refine PyProof.Rows.callWith_type1 ?_ hs rfl
  rw [hs]
  show wpAny _ _ (spliced ((false, eval (.Call (.Attribute e "values" apos) [] [] cpos) X.env) :: backTo pos (starEach [] X.env))) _ _ s
  refine Calls.spliced_cons ?_
  refine wpAny_Call_method (T := "dict") (id := "dict.values") hbase rfl hline F.plainAttrs_dict F.slot_dict_values F.type_dict_values (thn (he.run pins s σ H _ I hq) fun u s1 ⟨x, H1, I1, rx, d, kvs, ex, hd, q⟩ => ?_)
  subst ex
  obtain rfl : u = Value.ref d := rx
  obtain ⟨hz, hs0, vs, kv, hdo⟩ := I1.hok d _ hd
  obtain ⟨ep, hat⟩ := hdo.dictAt
  have lk : kvs.length = vs.length := Paired.length kv
  have I2 : Inv X pins σ H1 { s1 with heap := s1.heap.push { cls := .type "dict_values", data := .fields #[.ref d] } } := I1.kept (t' := s1.toks) fun b ob q => Heap.get?_push_of_some _ q
  refine ⟨hdo.typeIs, hdo.mapOf.noDict, ?_⟩
  show wpAny _ _ (callWith cpos (.builtin "dict.values") [.ref d] [] []) _ X.xe s1
  refine method_meetsIn F.slot_dict_values F.entry_dict_values rfl (PySem.evalArgs_none ⟨rfl, hdo.typeIs, F.args_dict_values_1 _, _, meets_dict_values (mixKind X.prog X.w) d hs0, ⟨vs, hdo⟩, ?_⟩)
  refine Calls.spliced_nil ?_
  refine PySem.W.kdl_call (PySem.W.kdl_values (knd := mixKind X.prog X.w) (kvs := vs) (ep := ep)) (I1.ok.hd hc) ⟨⟨_, Heap.get?_push_size _ rfl, rfl, rfl⟩, hat.push _⟩ (by rw [← lk]; exact hz) fun h' tk acc' c' hkeep hS hacc => ?_
  have el : acc'.toList.length = acc'.size := by simp
  have ev : acc'.toList = vs.map (·.2) := PySem.W.kdl_vals_eq acc'.toList (by rw [el, hacc.1]) fun j v h2 => hacc.2 j v (by rw [← Array.getElem?_toList]; exact h2)
  refine ⟨.ref _, upd H1 _ (.lst (kvs.map (·.2))), I2.laid hkeep (Nat.le_refl _) (show ObjOk X.prog X.w _ _ _ (.lst (kvs.map (·.2))) from ⟨?_, acc'.toList, c', ?_, ?_⟩), rfl, q _ (I2.hok.fresh (Nat.le_refl _))⟩
  · rw [List.length_map]; exact hz
  · rw [ev]; exact kv_vals kv
  · rw [Array.toArray_toList]; exact hS
end
section
variable {X : Cx} {CX : CXT} {k i : Nat} {f C : Addr} {fd : FuncData} {ps ks : List Str} {sp : Sp} {E : XK} {x : Str} {p pos : Pos} {kws : List Keyword} {tk : TA} {g : List Value → List Value → List Value} {gV : List V → List V → List V}
/-- the class that the i-th slot holds, called by keywords alone -/
def tMakeKL (i : Nat) (C : Addr) (m : Nat) (sp : Sp) (gV : List V → List V → List V) (E : XK) (tk : TA) : TE := fun σ H Q => σ[i]? = some (some (.ref C)) ∧ tMakeK C 0 m sp gV E tNil tk σ H Q
theorem pe_makeKL (M : Mk X.K C f) (F : FnOk X.prog X.w X.K X.mg X.base CX k f fd ps sp) (hr : Room (k + 1) X.A) (hN : X.N[i]? = some x) (hv : Vis X.env.scope x) (hb : KBn X.K fd ps 1 ks g gV) (hx : Passes CX X E) (hkw : PK X kws tk)
    (hall : (backToKw pos (keywordEach kws X.env)).all (·.1.isSome) = true := by rfl) (hks : (backToKw pos (keywordEach kws X.env)).filterMap (·.1) = ks := by rfl) (hdb : (x == ("__debug__" : Str)) = false := by decide) (hcd : (x == ("__classdict__" : Str)) = false := by decide)
    (hpl : ((backTo pos (starEach [] X.env)).any (·.1) || (backToKw pos (keywordEach kws X.env)).any (·.1.isNone)) = false := by rfl) :
    PE X (.Call (.Name x p) [] kws pos) (tMakeKL i C ks.length sp gV E tk) := by
  refine ⟨fun pins s σ H Q I h => ?_⟩
  obtain ⟨hs, h⟩ := h
  refine wpAny_Call_Name_kw (thn ((pe_var (pos := p) hN hv hdb hcd).run pins s σ H (fun v H1 => v = .ref C ∧ H1 = H) I ⟨.ref C, hs, rfl, rfl⟩) fun u s1 ⟨v, H1, I1, r1, q1⟩ => ?_)
  obtain ⟨rfl, rfl⟩ := q1
  cases r1
  refine PySem.W.callWith_KW0 (h₀ := X.base) I.ok.mod.kin M.kp hall ?_ hpl
  refine thn (hkw.run pos pins s1 σ _ _ I1 h) fun ws s2 ⟨zs, H2, I2, rz, l1, l2, q2⟩ => ⟨I2.kIn, ?_⟩
  rw [hks]
  exact run_makeK (us := []) (vs := []) M F hr hb hx I2 .nil rz rfl l2 q2
end
/-! ### isinstance(value, str) where value may be an instance with slots -/
/-- an instance with slots, of a class that is no text -/
def SlNo (K : PySem.W.Frag) (H : Hp) (v : V) (u : Value) : Prop := ∃ a C dx vs, v = .ref a ∧ SlX.Slt H a C dx vs ∧ SlX.SCls K C ∧ SlX.SIsi K C ∧ PySem.W.kitOne K (.ref C) u = some false
def IsX (K : PySem.W.Frag) (H : Hp) (v : V) (c : String) (b : Bool) : Prop := (∃ t, TyX K H v t ∧ PySem.W.kitOne K t (.type c) = some b) ∨ (b = false ∧ SlNo K H v (.type c))
theorem IsX.str {K : PySem.W.Frag} {H : Hp} {z : Str} : IsX K H (.str z) "str" true := .inl ⟨_, .base (.str z), kit_ty (by decide +kernel)⟩
def rIsS (K : PySem.W.Frag) : List V → Hp → VK → Prop := fun xs H Q => ∃ x c b, xs = [x, .ty c] ∧ IsX K H x c b ∧ Q (.bl b) H
theorem call_isS {X : Cx} : CallR X (.builtin "isinstance") (rIsS X.K) := by
  intro pins s σ H xs us Q I r h
  obtain ⟨x, c, b, rfl, h | ⟨rfl, a, C, dx, vs, rfl, h1, h2, h3, h4⟩, q⟩ := h
  · obtain ⟨t, h1, h2⟩ := h
    exact call_isi pins s σ H _ us Q I r ⟨x, .ty c, t, .type c, b, rfl, .ty _, h1, h2, q⟩
  · refine SlX.call_isiSl (.type c) pins s σ H _ us Q I r ⟨a, C, dx, vs, .ty c, false, rfl, rfl, fun w e => e, h1, h2, h3, h4, q⟩
end MN
/-! lemmas that hang on no law: walks, locked dicts, instances with slots -/
namespace MN
open PySem PySem.Spec PyProof.Rows L2
theorem same_new {H : Hp} {p : Addr} {o : HO} (h : H p = none) : Same H (upd H p o) := fun b u e => by rw [upd_ne (ne_of_none e h)]; exact e
theorem tyT {K : PySem.W.Frag} {H : Hp} {t : Addr} {xs : List V} (h : SqT K H t xs) : TyX K H (.ref t) (.type "tuple") := by
  rcases h with (h | ⟨o, h⟩) | h
  · exact .base (.tup h)
  · exact .fTuple h
  · obtain ⟨o, its, n, e1, e2, _⟩ := h
    exact .kTuple e1 e2
abbrev GlC (mg : Str → Option Value) (x : Str) (v : V) : Prop := ∃ u, mg x = some u ∧ RelV v u
theorem IsX.ty {K : PySem.W.Frag} {H : Hp} {v : V} {a c : String} {b : Bool} (h : TyX K H v (.type a)) (hk : kitB a c = some b) : IsX K H v c b := .inl ⟨_, h, kit_ty hk⟩
theorem pg_tupK {X : Cx} {pos : Pos} {K : PySem.W.Frag} (hK : X.K = K) {es : List Expr} {k : Nat} {t : TGs} {n : Nat} (hc : X.calm = true) (h : PGs X es t)
    (hn : (assignEach es X.env).length = n := by rfl) (hst : (assignEach es X.env).findIdx? (·.1) = none := by rfl) : PG X (.Tuple es k pos) (gTup K n t) := hK ▸ pg_tup hc h hn hst
theorem isSK {X : Cx} {K : PySem.W.Frag} (hK : X.K = K) : CallR X (.builtin "isinstance") (rIsS K) := hK ▸ call_isS
theorem walk_zipT {K : PySem.W.Frag} {a b : Addr} {xs ys : List V} {n : Nat} (hn : n = min xs.length ys.length) : Walk (RZ.ItzT K a b) n (fun H => SqT K H a xs ∧ SqT K H b ys) (YPair (fun i => xs[i]?) (fun i => ys[i]?)) := by
  subst hn
  refine ⟨fun i _ hi q => ?_, fun _ q => ⟨xs, ys, q.1, q.2, by omega⟩, fun i H v H' _ q y => ?_⟩
  · have h1 : i < xs.length := by omega
    have h2 : i < ys.length := by omega
    exact ⟨xs, ys, xs[i], ys[i], q.1, q.2, by simp [h1], by simp [h2]⟩
  · obtain ⟨T, x, y, h1, h2, h3, h4, h5⟩ := y
    exact ⟨T, x, y, h1, h2, h3, h4 xs q.1, h5 ys q.2⟩
section
variable {j : Nat} {tt : TT} {te : TE} {vs : List Nat} {σ : L2.St} {H1 : Hp} {D d : Addr} {o : Obj} {Qd : Hp → Prop}
theorem lc_keys {kvs : List (Key × V)} (hs : H1 d = some (.frz o (.dK kvs))) (hD : H1 D = none) (hz : kvs.length ≤ 1000000) (f : V → Bool) (v : V → V) (hw : ∀ x ∈ kvs.map (fun kv => kV kv.1), wipe ((wipe σ vs).set j (some x)) vs = wipe σ vs)
    (ht : ∀ x ∈ kvs.map (fun kv => kV kv.1), ∀ (acc : List V) (Q : Bool → Hp → Prop), Q (f x) (upd H1 D (.lst acc)) → tt ((wipe σ vs).set j (some x)) (upd H1 D (.lst acc)) Q)
    (he : ∀ x ∈ kvs.map (fun kv => kV kv.1), f x = true → ∀ (acc : List V) (Q : VK), Q (v x) (upd H1 D (.lst acc)) → te ((wipe σ vs).set j (some x)) (upd H1 D (.lst acc)) Q)
    (hd : Qd (upd H1 D (.lst (((kvs.map fun kv => kV kv.1).filter f).map v)))) : LcGoal (Itk d o kvs) (gName j) tt te vs σ H1 D Qd := by
  refine lc_pure walk_keys (kvs.map fun kv => kV kv.1) (by simp) hz (fun i H x H' hi y => ?_) f v (fun _ => by rw [upd_ne (ne_of_none hs hD)]; exact hs) hw ht he hd
  obtain ⟨e, k, v', h1, rfl⟩ := y
  exact ⟨e, by simp [h1]⟩
theorem dc_it {J : It} {n : Nat} {G : Hp → Prop} {Y : Nat → Hp → V → Hp → Prop} (w : Walk J n G Y) {g : TG} {tk tv : TE} (Pv : Nat → Hp → Prop) (h0 : Pv 0 (upd H1 D (.dK []))) (hG : ∀ i H, i ≤ n → Pv i H → G H)
    (hs : ∀ i x H H', i < n → Pv i H → Y i H x H' → g x (wipe σ vs) H' fun σ2 H2 => wipe σ2 vs = wipe σ vs ∧ tt σ2 H2 fun b H3 =>
      if b = true then tk σ2 H3 fun y H4 => tv σ2 H4 fun z H5 => ∃ kvs k, y = kV k ∧ H5 D = some (.dK kvs) ∧ kvs.length < sizeLine ∧ Pv (i + 1) (upd H5 D (.dK (putK kvs k z))) else Pv (i + 1) H3) (hd : ∀ H, Pv n H → Qd H) :
    ∃ W : Nat → Nat → Hp → Prop, (∃ m, W 0 m (upd H1 D (.dK []))) ∧ ∀ i m H, W i m H →
      (J.stop i H ∧ Qd H) ∨ (J.go i H ∧ ∃ Nx : Hp → Prop, (∀ H', Nx H' → ∃ m', m' < m ∧ W (i + 1) m' H') ∧ ∀ x H', J.yld i H x H' → g x (wipe σ vs) H' fun σ2 H2 => wipe σ2 vs = wipe σ vs ∧ tt σ2 H2 fun b H3 =>
        if b = true then tk σ2 H3 fun y H4 => tv σ2 H4 fun z H5 => ∃ kvs k, y = kV k ∧ H5 D = some (.dK kvs) ∧ kvs.length < sizeLine ∧ Nx (upd H5 D (.dK (putK kvs k z))) else Nx H3) := by
  refine ⟨fun i m H => m = n - i ∧ i ≤ n ∧ Pv i H, ⟨n, by simp, Nat.zero_le _, h0⟩, ?_⟩
  rintro i m H ⟨rfl, hi, p⟩
  have q := hG i H hi p
  by_cases hlt : i < n
  · exact .inr ⟨w.goes i H hlt q, Pv (i + 1), fun H' p' => ⟨n - (i + 1), by omega, rfl, hlt, p'⟩, fun x H' y => hs i x H H' hlt p (w.yields i H x H' hlt q y)⟩
  · obtain rfl : i = n := by omega
    exact .inl ⟨w.stops H q, hd H p⟩
theorem dp_it {J : It} {n : Nat} {G : Hp → Prop} {Y : Nat → Hp → V → Hp → Prop} {o0 : HO} (w : Walk J n G Y) {g : TG} {tk tv : TE} (Pv : Nat → Hp → Prop) (h0 : Pv 0 (upd H1 D o0)) (hG : ∀ i H, i ≤ n → Pv i H → G H)
    (hs : ∀ i x H H', i < n → Pv i H → Y i H x H' → g x (wipe σ vs) H' fun σ2 H2 => wipe σ2 vs = wipe σ vs ∧ tt σ2 H2 fun b H3 =>
      if b = true then tk σ2 H3 fun y H4 => tv σ2 H4 fun z H5 => ∃ H6, DPut H5 D y z H6 ∧ Pv (i + 1) H6 else Pv (i + 1) H3) (hd : ∀ H, Pv n H → Qd H) :
    ∃ W : Nat → Nat → Hp → Prop, (∃ m, W 0 m (upd H1 D o0)) ∧ ∀ i m H, W i m H →
      (J.stop i H ∧ Qd H) ∨ (J.go i H ∧ ∃ Nx : Hp → Prop, (∀ H', Nx H' → ∃ m', m' < m ∧ W (i + 1) m' H') ∧ ∀ x H', J.yld i H x H' → g x (wipe σ vs) H' fun σ2 H2 => wipe σ2 vs = wipe σ vs ∧ tt σ2 H2 fun b H3 =>
        if b = true then tk σ2 H3 fun y H4 => tv σ2 H4 fun z H5 => ∃ H6, DPut H5 D y z H6 ∧ Nx H6 else Nx H3) := by
  refine ⟨fun i m H => m = n - i ∧ i ≤ n ∧ Pv i H, ⟨n, by simp, Nat.zero_le _, h0⟩, ?_⟩
  rintro i m H ⟨rfl, hi, p⟩
  have q := hG i H hi p
  by_cases hlt : i < n
  · exact .inr ⟨w.goes i H hlt q, Pv (i + 1), fun H' p' => ⟨n - (i + 1), by omega, rfl, hlt, p'⟩, fun x H' y => hs i x H H' hlt p (w.yields i H x H' hlt q y)⟩
  · obtain rfl : i = n := by omega
    exact .inl ⟨w.stops H q, hd H p⟩
end
/-- nothing to walk over -/
theorem lc_none {J : It} {g : TG} {tt : TT} {te : TE} {vs : List Nat} {σ : L2.St} {H1 : Hp} {D : Addr} {Qd : Hp → Prop} (h : J.stop 0 (upd H1 D (.lst []))) (q : Qd (upd H1 D (.lst []))) : LcGoal J g tt te vs σ H1 D Qd :=
  ⟨fun i _ H => i = 0 ∧ H = upd H1 D (.lst []), ⟨0, rfl, rfl⟩, fun _ _ _ e => by
    obtain ⟨rfl, rfl⟩ := e
    exact .inl ⟨h, q⟩⟩
/-- locked, a list laid, unlocked -/
theorem same_lock {H : Hp} {a D : Addr} {u : HO} {o : Obj} {x : HO} (h : H a = some u) (hD : (upd H a (.frz o u)) D = none) : Same H (upd (upd (upd H a (.frz o u)) D x) a u) ∧ (upd (upd (upd H a (.frz o u)) D x) a u) D = some x ∧ D ≠ a := by
  have n : D ≠ a := fun z => by rw [z, upd_same] at hD; cases hD
  refine ⟨fun b y e => ?_, by rw [upd_ne n, upd_same], n⟩
  by_cases z : b = a
  · rw [z, upd_same]; rw [z, h] at e; exact e
  · rw [upd_ne z]
    have n2 : b ≠ D := fun q => by rw [upd_ne n] at hD; rw [q, hD] at e; cases e
    rw [upd_ne n2, upd_ne z]; exact e
theorem lc_keysL {j : Nat} {tt : TT} {te : TE} {vs : List Nat} {σ : L2.St} {H1 : Hp} {D a : Addr} {od : Obj} {kvs : List (Key × V)} {Qd : Hp → Prop} (h : H1 a = some (.dK kvs)) (hD : (upd H1 a (.frz od (.dK kvs))) D = none) (hz : kvs.length ≤ 1000000) (f : V → Bool) (v : V → V) (hw : ∀ x ∈ kvs.map (fun kv => kV kv.1), wipe ((wipe σ vs).set j (some x)) vs = wipe σ vs)
    (ht : ∀ x ∈ kvs.map (fun kv => kV kv.1), ∀ H2, H2 a = some (.frz od (.dK kvs)) → (∀ b o, b ≠ a → H1 b = some o → H2 b = some o) → ∀ (Q : Bool → Hp → Prop), Q (f x) H2 → tt ((wipe σ vs).set j (some x)) H2 Q)
    (he : ∀ x ∈ kvs.map (fun kv => kV kv.1), f x = true → ∀ H2, H2 a = some (.frz od (.dK kvs)) → (∀ b o, b ≠ a → H1 b = some o → H2 b = some o) → ∀ (Q : VK), Q (v x) H2 → te ((wipe σ vs).set j (some x)) H2 Q)
    (hd : ∀ H', H' a = some (.frz od (.dK kvs)) → Same H1 (upd H' a (.dK kvs)) → upd H' a (.dK kvs) D = some (.lst (((kvs.map fun kv => kV kv.1).filter f).map v)) → Qd H') :
    LcGoal (Itk a od kvs) (gName j) tt te vs σ (upd H1 a (.frz od (.dK kvs))) D Qd := by
  have n : D ≠ a := fun z => by rw [z, upd_same] at hD; cases hD
  have k1 : ∀ acc, upd (upd H1 a (.frz od (.dK kvs))) D (.lst acc) a = some (.frz od (.dK kvs)) := fun acc => by rw [upd_ne n.symm, upd_same]
  have k2 : ∀ acc b o, b ≠ a → H1 b = some o → upd (upd H1 a (.frz od (.dK kvs))) D (.lst acc) b = some o := fun acc b o nb e => by
    have n2 : b ≠ D := fun q => by rw [upd_ne n] at hD; rw [q, hD] at e; cases e
    rw [upd_ne n2, upd_ne nb]; exact e
  refine lc_keys upd_same hD hz f v hw (fun x hx acc Q q => ht x hx _ (k1 _) (k2 _) Q q) (fun x hx hf acc Q q => he x hx hf _ (k1 _) (k2 _) Q q) ?_
  obtain ⟨s, sD, _⟩ := same_lock (x := .lst (((kvs.map fun kv => kV kv.1).filter f).map v)) h hD
  exact hd _ (k1 _) s sD
theorem slt_same {H H' : Hp} {a C dx : Addr} {vs : List (Option V)} (e : Same H H') (h : SlX.Slt H a C dx vs) : SlX.Slt H' a C dx vs := by
  rcases h with ⟨h, rfl⟩ | ⟨h1, h2⟩
  · exact .inl ⟨e _ _ h, rfl⟩
  · exact .inr ⟨e _ _ h1, e _ _ h2⟩
theorem piTupK {X : Cx} {K : PySem.W.Frag} (hK : X.K = K) {tg l : Expr} {tl : TE} (hl : PE X l tl) : PI X tg l (iTup K tl) := hK ▸ pi_tup hl
theorem putK_le (kvs : List (Key × V)) (k : Key) (v : V) : (putK kvs k v).length ≤ kvs.length + 1 := by
  unfold putK
  split <;> simp
/-- an instance with slots, laid -/
def Sl2 (H : Hp) (a C dx : Addr) (vs : List (Option V)) : Prop := H a = some (SlX.SlO a C dx vs) ∧ H dx = some (.xd [])
theorem slH_sl2 {H : Hp} {a C dx : Addr} {vs : List (Option V)} (h : dx ≠ a) : Sl2 (SlX.slH H a C dx vs) a C dx vs := ⟨upd_same, by unfold SlX.slH; rw [upd_ne h, upd_same]⟩
/-- all but x and dx stays -/
def Kp (x dx : Addr) (H H' : Hp) : Prop := ∀ b o, b ≠ x → b ≠ dx → H b = some o → H' b = some o
theorem Kp.same {x dx : Addr} {H H1 H2 : Hp} (h : Kp x dx H H1) (e : Same H1 H2) : Kp x dx H H2 := fun b o n1 n2 q => e _ _ (h b o n1 n2 q)
theorem Kp.sl {x dx C : Addr} {vs : List (Option V)} {H H1 : Hp} (h : Kp x dx H H1) : Kp x dx H (SlX.slH H1 x C dx vs) := fun b o n1 n2 q => by
  rw [SlX.slH_ne n1 n2]; exact h b o n1 n2 q
section
variable {P : Program} {w : World} {K : PySem.W.Frag} {mg : Str → Option Value} {base : Heap}
theorem fnok_of {x qual : Str} {params : Arguments} {body : List Stmt} {scope : Scope} {dvs : List V} {kws : List (Str × V)} {f : Addr} {fd : FuncData} {N ps : List Str} {k : Nat} {sp : Sp} (F : FunD K x qual params body scope dvs kws f fd) (S : FnScope N ps scope) (len : ∀ vs H Q E, sp vs H Q E → vs.length = ps.length)
    (hbody : ∀ (cdv : Value) (A : Around) (outer : List Env) (s : Shared) (H : Hp) (vs : List V) (Q : VK) (E : XK), Room k (A.deeper (envOfC qual scope s.heap.objs.size f cdv)) → sp vs H Q E →
      ∃ t, PSs (cxOf CX0 P w K mg base N qual scope f cdv A outer s H E).nox body t ∧ t { nx := fun _ H' => Q .non H', rt := Q } (start N vs) H) : FnOk P w K mg base CX0 (k + 1) f fd ps sp :=
  F.ok S len fun cdv A outer s H vs Q E hr h => by
    obtain ⟨t, h1, h2⟩ := hbody cdv A outer s H vs Q E hr h
    exact ⟨t, h1.nox, h2⟩
abbrev FunAt (K : PySem.W.Frag) (x qual : Str) (st : Stmt) (dvs : List V) (f : Addr) (fd : FuncData) : Prop := FunD K x qual (defArgs st) (defBody st) (defScope st) dvs [] f fd
end
/-- a new object, in a word -/
theorem laid {H : Hp} {q : Addr} (o : HO) (h : H q = none) : Same H (upd H q o) ∧ upd H q o q = some o := ⟨same_new h, upd_same⟩
end MN
/-! the defs about words -/
namespace MN
open PySem PySem.Spec PyProof.Rows L2
theorem str_one {z : Str} (h : z.length = 1) : ∃ c, z = ⟨#[c]⟩ := by
  obtain ⟨⟨l⟩⟩ := z
  match l, h with
  | [c], _ => exact ⟨c, rfl⟩
/-- a value: a text, or one of a kind that is no text -/
def ValOk (K : PySem.W.Frag) (H : Hp) (v : V) : Prop := (∃ z : Str, v = .str z ∧ z.length ≤ 100000) ∨ ((∀ z, v ≠ .str z) ∧ IsX K H v "str" false)
theorem ValOk.str {K : PySem.W.Frag} {H : Hp} {z : Str} (h : z.length ≤ 100000) : ValOk K H (.str z) := .inl ⟨z, rfl, h⟩
def sgn (c : Nat) : Bool := decide (c ∈ ("abcde" : Str).cps.toList)
def isWordS (z : Str) : Bool := z.cps.toList.all sgn
def isWord : V → Bool
  | .str z => isWordS z
  | _ => false
def isSign : V → Bool
  | .str z => decide (z.length = 1) && isWordS z
  | _ => false
theorem isWord_no {v : V} (h : ∀ z, v ≠ .str z) : isWord v = false := by
  cases v with
  | str z => exact absurd rfl (h z)
  | _ => rfl
theorem isSign_no {v : V} (h : ∀ z, v ≠ .str z) : isSign v = false := by
  cases v with
  | str z => exact absurd rfl (h z)
  | _ => rfl
section
variable {P : Program} {w : World} {K : PySem.W.Frag} {mg : Str → Option Value} {base : Heap}
/-! ### is_sign -/
def spIsSign (K : PySem.W.Frag) : Sp := fun vs H Q _ => ∃ v, vs = [v] ∧ ValOk K H v ∧ Q (.bl (isSign v)) H
theorem sc_is_sign : FnScope ["value"] ["value"] (defScope (top 12)) := ⟨rfl, rfl, rfl, by decide +kernel, rfl, by decide +kernel, by decide +kernel⟩
theorem c_is_sign (A : At K mg "is_sign" (top 12)) (B : Blt mg) : Cal P w K mg base 1 "is_sign" (spIsSign K) := by
  refine cal_of A sc_is_sign (fun _ _ _ _ _ _ us hl => match us, hl with | [_], _ => rfl) (fun vs H Q E h => ?_) (fun f cdv A outer s H vs Q E hr h => ?_)
  · obtain ⟨v, rfl, _⟩ := h; rfl
  · obtain ⟨v, rfl, hv, hQ⟩ := h
    refine ⟨_, pss_one (ps_ret (pe_and (pe_callB call_isS (by rfl) B.isinstance (by decide +kernel) (pa_cons (pv 0) (pa_cons (pe_bltn (v := .ty "str") (by rfl) B.str (by decide +kernel) rfl) pa_nil)))
      (pe_and (pe_cmpR op_eq (pe_callB call_len_str (by rfl) B.len PySem.boot_len (pa_cons (pv 0) pa_nil)) pe_int (nomark _))
        (pe_one (pe_cmpR op_in_sign (pv 0) (pe_gl (by rfl) B.SIGNS) (by rfl)))))), ?_⟩
    rcases hv with ⟨z, rfl, hz⟩ | ⟨hn, hk⟩
    · refine ⟨_, rfl, .str z, "str", true, rfl, .str, true, rfl, iteT ?_⟩
      refine ⟨_, rfl, z, rfl, Nat.le_trans hz (by decide), rfl, _, rfl, ?_⟩
      by_cases h1 : z.length = 1
      · obtain ⟨c, rfl⟩ : ∃ c, z = ⟨#[c]⟩ := str_one h1
        rw [show decide (V.int ((⟨#[c]⟩ : Str).length : Int) = V.int 1) = true from rfl]
        refine iteT ⟨_, rfl, c, _, rfl, rfl, ?_⟩
        have e : isSign (.str ⟨#[c]⟩) = decide (c ∈ ("abcde" : Str).cps.toList) := by simp [isSign, isWordS, Str.length, sgn]
        rw [← e]; exact hQ
      · have e0 : decide (V.int (z.length : Int) = V.int 1) = false := decide_eq_false (fun q => h1 (by injection q with q; omega))
        rw [e0]
        have e : isSign (.str z) = false := by simp [isSign, h1]
        rw [e] at hQ
        exact iteF hQ
    · refine ⟨_, rfl, v, "str", false, rfl, hk, false, rfl, iteF ?_⟩
      rw [isSign_no hn] at hQ
      exact hQ
/-! ### is_word -/
def spIsWord (K : PySem.W.Frag) : Sp := fun vs H Q _ => ∃ v, vs = [v] ∧ ValOk K H v ∧ ∀ H', Same H H' → Q (.bl (isWord v)) H'
abbrev N_is_word : List Str := ["value", "sign"]
theorem sc_is_word : FnScope N_is_word ["value"] (defScope (top 13)) := ⟨rfl, rfl, rfl, by decide +kernel, rfl, by decide +kernel, by decide +kernel⟩
theorem c_is_word (A : At K mg "is_word" (top 13)) (B : Blt mg) : Cal P w K mg base 1 "is_word" (spIsWord K) := by
  refine cal_of A sc_is_word (fun _ _ _ _ _ _ us hl => match us, hl with | [_], _ => rfl) (fun vs H Q E h => ?_) (fun f cdv A outer s H vs Q E hr h => ?_)
  · obtain ⟨v, rfl, _⟩ := h; rfl
  · obtain ⟨v, rfl, hv, hQ⟩ := h
    refine ⟨_, (pss_one (ps_ret (pe_and (pe_callB call_isS (by rfl) B.isinstance (by decide +kernel) (pa_cons (pv 0) (pa_cons (pe_bltn (v := .ty "str") (by rfl) B.str (by decide +kernel) rfl) pa_nil)))
      (pe_one (pe_callB (cr_all rfl) (by rfl) B.all (by decide +kernel) (pa_cons (pe_lc (own := [("sign", 1)]) (g := gName 1) (tt := tYes) (by rfl) sc_is_word.nd (pi_str (pv 0))
        (blkOk_by (own := [("sign", 1)]) (N := N_is_word) (sc := defScope (top 13)) (by decide +kernel)) (fun _ _ _ _ _ => (pg_name (i := 1) sc_is_word.nd rfl (Or.inl rfl))) (fun _ _ _ _ _ => pts_nil)
        (fun _ _ _ _ _ => (pe_cmpR op_in_sign (pv 1) (pe_gl (by rfl) B.SIGNS) (by rfl)))) pa_nil)))))), ?_⟩
    rcases hv with ⟨z, rfl, hz⟩ | ⟨hn, hk⟩
    · refine ⟨_, rfl, .str z, "str", true, rfl, .str, true, rfl, iteT ?_⟩
      refine ⟨_, rfl, z, rfl, fun D hD => lc_str (by omega) (fun _ => true) (fun x => .bl (isWord x)) (fun x _ => rfl) (fun x _ acc Q q => q) (fun x hx _ acc Q q => ?_) ?_⟩
      · obtain ⟨c, hc, rfl⟩ := List.mem_map.mp hx
        refine ⟨_, rfl, c, _, rfl, rfl, ?_⟩
        have e : isWord (.str ⟨#[c]⟩) = decide (c ∈ ("abcde" : Str).cps.toList) := by simp [isWord, isWordS, sgn]
        rw [← e]; exact q
      · refine ⟨D, (signsOf z).map isWord, rfl, .inl (.inl ?_), ?_⟩
        · rw [filter_all, List.map_map]; exact upd_same
        · have e : ((signsOf z).map isWord).all id = isWordS z := by
            simp [signsOf, isWordS, isWord, List.all_map, Function.comp_def]
          rw [e]
          exact hQ _ (same_new hD)
    · refine ⟨_, rfl, v, "str", false, rfl, hk, false, rfl, iteF ?_⟩
      rw [isWord_no hn] at hQ
      exact hQ _ (Same.refl _)
end
end MN
/-! the defs about numbers -/
namespace MN
open PySem PySem.Spec PyProof.Rows L2
def big : Int := 10 ^ 60
def isInt (n : Int) : Bool := decide (-big < n) && decide (n < big)
theorem isInt_of {n : Int} (h1 : -1000000 ≤ n) (h2 : n ≤ 1000000) : isInt n = true := by
  have : (1000000 : Int) < big := by decide +kernel
  unfold isInt
  rw [decide_eq_true (by omega), decide_eq_true (by omega)]
  rfl
section
variable {P : Program} {w : World} {K : PySem.W.Frag} {mg : Str → Option Value} {base : Heap}
def spIsInt (K : PySem.W.Frag) : Sp := fun vs H Q _ => ∃ v, vs = [v] ∧ ((∃ n, v = .int n ∧ Q (.bl (isInt n)) H) ∨ (∃ b, v = .bl b ∧ Q (.bl false) H) ∨ (IsX K H v "int" false ∧ Q (.bl false) H))
theorem sc_is_integer : FnScope ["value"] ["value"] (defScope (top 11)) := ⟨rfl, rfl, rfl, by decide +kernel, rfl, by decide +kernel, by decide +kernel⟩
theorem c_is_integer (A : At K mg "is_integer" (top 11)) (B : Blt mg) (G : GlC mg "GREATEST" (.int big)) : Cal P w K mg base 1 "is_integer" (spIsInt K) := by
  refine cal_of A sc_is_integer (fun _ _ _ _ _ _ us hl => match us, hl with | [_], _ => rfl) (fun vs H Q E h => ?_) (fun f cdv A outer s H vs Q E hr h => ?_)
  · obtain ⟨v, rfl, _⟩ := h; rfl
  · obtain ⟨v, rfl, hQ⟩ := h
    refine ⟨_, (pss_one (ps_ret (pe_and (pe_callB call_isS (by rfl) B.isinstance (by decide +kernel) (pa_cons (pv 0) (pa_cons (pe_bltn (v := .ty "int") (by rfl) B.int (by decide +kernel) rfl) pa_nil))) (pe_and (pe_not (pe_callB call_isS (by rfl) B.isinstance (by decide +kernel) (pa_cons (pv 0) (pa_cons (pe_bltn (v := .ty "bool") (by rfl) B.bool (by decide +kernel) rfl) pa_nil)))) (pe_one (pe_chain op_lt op_lt (pe_un un_neg (pe_gl (by rfl) G)) (pv 0) (pe_gl (by rfl) G))))))), ?_⟩
    rcases hQ with ⟨n, rfl, hQ⟩ | ⟨b, rfl, hQ⟩ | ⟨hi, hQ⟩
    · refine ⟨_, rfl, _, _, true, rfl, .ty (.base (.int n)) (by decide +kernel), _, rfl, iteT ?_⟩
      refine ⟨_, rfl, _, _, false, rfl, .ty (.base (.int n)) (by decide +kernel), _, rfl, _, rfl, iteT ?_⟩
      refine ⟨_, rfl, _, rfl, _, _, rfl, rfl, _, rfl, ?_⟩
      by_cases h1 : -big < n
      · rw [decide_eq_true h1]
        refine iteT ⟨_, _, rfl, rfl, ?_⟩
        unfold isInt at hQ
        rw [decide_eq_true h1] at hQ
        exact hQ
      · rw [decide_eq_false h1]
        unfold isInt at hQ
        rw [decide_eq_false h1] at hQ
        exact iteF hQ
    · refine ⟨_, rfl, _, _, true, rfl, .ty (.base (.bl b)) (by decide +kernel), _, rfl, iteT ?_⟩
      exact ⟨_, rfl, _, _, true, rfl, .ty (.base (.bl b)) (by decide +kernel), _, rfl, _, rfl, iteF hQ⟩
    · exact ⟨_, rfl, _, _, false, rfl, hi, _, rfl, iteF hQ⟩
/-- a number within its bounds -/
def spReqNumber : Sp := fun vs H Q _ => ∃ n lo hi, vs = [.int n, .int lo, .int hi] ∧ isInt n = true ∧ lo ≤ n ∧ n ≤ hi ∧ Q .non H
theorem sc_require_number : FnScope ["value", "low", "high"] ["value", "low", "high"] (defScope (top 14)) := ⟨rfl, rfl, rfl, by decide +kernel, rfl, by decide +kernel, by decide +kernel⟩
theorem c_require_number (A : At K mg "require_number" (top 14)) (c_is_integer : Cal P w K mg base 1 "is_integer" (spIsInt K)) : Cal P w K mg base 2 "require_number" spReqNumber := by
  refine cal_of A sc_require_number (fun _ _ _ _ _ _ us hl => match us, hl with | [_, _, _], _ => rfl) (fun vs H Q E h => ?_) (fun f cdv A outer s H vs Q E hr h => ?_)
  · obtain ⟨n, lo, hi, rfl, _⟩ := h; rfl
  · obtain ⟨n, lo, hi, rfl, hn, h1, h2, hQ⟩ := h
    refine ⟨_, (pss_one (ps_if (PW.pt (pw_or (pt_not (pt_val (pe_c c_is_integer hr (by decide) (by rfl) (pa_cons (pv 0) pa_nil)))) (pw_or1 (pt_not (pt_chain op_le op_le (pv 1) (pv 0) (pv 2))))))
      (pss_one ps_never)
      pss_nil)), ?_⟩
    refine ⟨_, rfl, _, rfl, .inl ⟨n, rfl, _, rfl, ?_⟩⟩
    rw [hn]
    refine iteF ⟨_, rfl, _, rfl, _, _, rfl, rfl, _, rfl, ?_⟩
    rw [decide_eq_true h1]
    refine iteT ⟨_, rfl, _, _, rfl, rfl, _, rfl, ?_⟩
    rw [decide_eq_true h2]
    exact iteF hQ
end
end MN
/-! dict comprehensions with one and with two clauses, keys of any kind that a tracked dict knows -/
namespace MN
open PySem PySem.Spec PyProof.Rows L2
theorem d_setP {X : Cx} {pins : List (Addr × Obj)} {σ : L2.St} {H H' : Hp} {s : Shared} {E : Value → Shared → Prop} {D : Addr} {y v : V} {u r : Value} {Q : Unit → Shared → Prop} (hu : X.A.units + 1 < cLine) (I : Inv X pins σ H s) (g : DPut H D y v H')
    (ry : RelV y u) (rv : RelV v r) (h : ∀ s', Inv X pins σ H' s' → Q () s') : wpAny (model X.prog X.w) X.A (dictSet D u r) Q E s := by
  rcases g with ⟨kvs, k, e, ey, l, eH⟩ | ⟨kvs, k, b, e, ey, eb, l, eH⟩
  · subst ey eH
    exact d_dictSet I e l ry rv h
  · subst ey eH
    cases (show u = Value.ref b from ry)
    obtain ⟨z, hd, xs, rel, dd⟩ := dt_of I.hok e
    have hz : xs.length ≤ sizeLine := by rw [← Paired.length rel]; exact z
    have hl : (putK kvs k v).length ≤ sizeLine := by have := length_putK kvs k v; omega
    refine wpAny_dictSet_heap (hsz := hz) (show X.A.units < cLine by omega) (key_of I.hok eb) dd fun h' dd' hs => h _ ?_
    obtain ⟨q, es, ep, hq, h2, h3, h4, _, h5⟩ := dd'
    refine d_write I (by rw [e]; exact True.intro) hs ⟨q, hq⟩ ⟨hl, hd, _, (rel.put k eb rv).keeps fun c ys ec => ?_, q, es, ep, hq, h2, h3, h4, h5⟩
    rw [upd_ne (ne_of ec e (fun z => nomatch z))]
    exact ec
theorem turn2_out (kx vx t0 i0 t1 i1 : Expr) (ifs0 ifs1 : List Expr) (scope : Scope) (pos : Pos) (it acc : Value) (env : Env) :
    compTurn (.DictComp kx vx [⟨t0, i0, ifs0, 0⟩, ⟨t1, i1, ifs1, 0⟩] scope pos) 0 it acc env = (do
      standAt i0.pos
      match ← pyNext it with
      | none => pure (.done .next)
      | some v =>
        letOwnedTupleGo t0 it v
        assign t0 env v
        let mut ok := true
        for c in ifs0 do
          if ok then ok ← isTrue c env (eval c env)
        if ok then
          let x ← eval i1 env
          standAt i1.pos
          let x ← foldedSetIterable i1 env x
          let _ ← runOwn (.compStart (.DictComp kx vx [⟨t0, i0, ifs0, 0⟩, ⟨t1, i1, ifs1, 0⟩] scope pos) 1 (← holding [x] (pyIter x)) acc env) env
        again (.compLoop (.DictComp kx vx [⟨t0, i0, ifs0, 0⟩, ⟨t1, i1, ifs1, 0⟩] scope pos) 0 it acc env)) := by rfl
theorem turn2_in (kx vx t0 i0 t1 i1 : Expr) (ifs0 ifs1 : List Expr) (scope : Scope) (pos : Pos) (it : Value) (D : Addr) (env : Env) :
    compTurn (.DictComp kx vx [⟨t0, i0, ifs0, 0⟩, ⟨t1, i1, ifs1, 0⟩] scope pos) 1 it (.ref D) env = (do
      standAt i1.pos
      match ← pyNext it with
      | none => pure (.done .next)
      | some v =>
        letOwnedTupleGo t1 it v
        assign t1 env v
        let mut ok := true
        for c in ifs1 do
          if ok then ok ← isTrue c env (eval c env)
        if ok then
          (do
            let kv ← eval kx env
            let vv ← holding [kv] (eval vx env)
            standAt { kx.pos with endLine := vx.pos.endLine, endCol := vx.pos.endCol }
            holding [kv, vv] (dictSet D kv vv))
        again (.compLoop (.DictComp kx vx [⟨t0, i0, ifs0, 0⟩, ⟨t1, i1, ifs1, 0⟩] scope pos) 1 it (.ref D) env)) := by rfl
section
variable {prog : Program} {w : World} {A : Around} {R : Result → Shared → Prop} {s : Shared} {kx vx t0 i0 t1 i1 : Expr} {ifs0 ifs1 : List Expr} {scope : Scope} {pos : Pos} {it acc : Value} {D : Addr} {env : Env}
theorem loop2_out (hs : ∀ x, foldedSetIterable i1 env x = pure x) (I : Nat → Shared → Prop)
    (turn : ∀ n s, I n s → wpAny (model prog w) A (pyNext it) (fun r s₁ => match r with
      | none => R (.ok .next) s₁
      | some v => wpAny (model prog w) A (letOwnedTupleGo t0 it v) (fun _ s₂ => wpAny (model prog w) A (assign t0 env v) (fun _ s₃ => wpAny (model prog w) A (forIn ifs0 true fun c r => if r = true then do let ok ← isTrue c env (eval c env); pure (ForInStep.yield ok) else pure (ForInStep.yield r)) (fun ok s₄ =>
          if ok = true then wpAny (model prog w) A (eval i1 env) (fun x s₅ => wpAny (model prog w) A (pyIter x) (fun j s₆ =>
            codeAny (model prog w) A (.compStart (.DictComp kx vx [⟨t0, i0, ifs0, 0⟩, ⟨t1, i1, ifs1, 0⟩] scope pos) 1 j acc env) (fun r s' => match r with
              | .ok _ => ∃ m, m < n ∧ I m s'
              | .error _ => False) s₆) (notedBy (model prog w) A env fun e s' => R (.error e) s') s₅) (notedBy (model prog w) A env fun e s' => R (.error e) s') s₄
          else ∃ m, m < n ∧ I m s₄) (notedBy (model prog w) A env fun e s' => R (.error e) s') s₃) (notedBy (model prog w) A env fun e s' => R (.error e) s') s₂) (notedBy (model prog w) A env fun e s' => R (.error e) s') s₁) (notedBy (model prog w) A env fun e s' => R (.error e) s') s)
    (n : Nat) (h : I n s) : codeAny (model prog w) A (.compLoop (.DictComp kx vx [⟨t0, i0, ifs0, 0⟩, ⟨t1, i1, ifs1, 0⟩] scope pos) 0 it acc env) R s := by
  refine codeAny_loop rfl I (fun n s hI => ?_) n h
  show wpAny _ A ((compTurn (.DictComp kx vx [⟨t0, i0, ifs0, 0⟩, ⟨t1, i1, ifs1, 0⟩] scope pos) 0 it acc env).onRaise (fun x => do noteFrame x env; theTreesLotGoes x)) _ _ s
  refine wpAny_noted ?_
  rw [turn2_out]
  refine wpAny_bind (wpAny_standAt (wpAny_bind (wpAny_mono (turn n s hI) (fun r s₁ h₁ => ?_) fun _ _ z => z)))
  match r, h₁ with
  | none, h₁ => exact wpAny_pure h₁
  | some v, h₁ =>
    refine wpAny_bind (wpAny_mono h₁ (fun _ s₂ h₂ => wpAny_bind (wpAny_mono h₂ (fun _ s₃ h₃ => wpAny_bind (wpAny_mono h₃ (fun ok s₄ h₄ => ?_) fun _ _ z => z)) fun _ _ z => z)) fun _ _ z => z)
    cases ok with
    | false => exact wpAny_pure ⟨rfl, h₄⟩
    | true =>
      refine wpAny_bind (wpAny_mono h₄ (fun x s₅ h₅ => ?_) fun _ _ z => z)
      refine wpAny_bind (wpAny_standAt (wpAny_bind (wpAny_of_eq (hs x) (wpAny_bind (wpAny_holding (wpAny_mono h₅ (fun j s₆ h₆ => ?_) fun _ _ z => z))))))
      refine wpAny_bind (wpAny_runOwn ?_)
      rw [Around.mark_none]
      refine codeAny_mono h₆ fun r s' hr => ?_
      match r, hr with
      | .ok f, hr =>
        first
          | exact wpAny_pure ⟨rfl, hr⟩
          | exact wpAny_bind (wpAny_pure (wpAny_pure ⟨rfl, hr⟩))
      | .error e, hr => exact hr.elim
theorem loop2_in (I : Nat → Shared → Prop)
    (turn : ∀ n s, I n s → wpAny (model prog w) A (pyNext it) (fun r s₁ => match r with
      | none => R (.ok .next) s₁
      | some v => wpAny (model prog w) A (letOwnedTupleGo t1 it v) (fun _ s₂ => wpAny (model prog w) A (assign t1 env v) (fun _ s₃ => wpAny (model prog w) A (forIn ifs1 true fun c r => if r = true then do let ok ← isTrue c env (eval c env); pure (ForInStep.yield ok) else pure (ForInStep.yield r)) (fun ok s₄ =>
          if ok = true then wpAny (model prog w) A (eval kx env) (fun kv s₅ => wpAny (model prog w) A (eval vx env) (fun vv s₆ => wpAny (model prog w) A (dictSet D kv vv) (fun _ s₇ => ∃ m, m < n ∧ I m s₇) (notedBy (model prog w) A env fun e s' => R (.error e) s') s₆) (notedBy (model prog w) A env fun e s' => R (.error e) s') s₅) (notedBy (model prog w) A env fun e s' => R (.error e) s') s₄
          else ∃ m, m < n ∧ I m s₄) (notedBy (model prog w) A env fun e s' => R (.error e) s') s₃) (notedBy (model prog w) A env fun e s' => R (.error e) s') s₂) (notedBy (model prog w) A env fun e s' => R (.error e) s') s₁) (notedBy (model prog w) A env fun e s' => R (.error e) s') s)
    (n : Nat) (h : I n s) : codeAny (model prog w) A (.compLoop (.DictComp kx vx [⟨t0, i0, ifs0, 0⟩, ⟨t1, i1, ifs1, 0⟩] scope pos) 1 it (.ref D) env) R s := by
  refine codeAny_loop rfl I (fun n s hI => ?_) n h
  show wpAny _ A ((compTurn (.DictComp kx vx [⟨t0, i0, ifs0, 0⟩, ⟨t1, i1, ifs1, 0⟩] scope pos) 1 it (.ref D) env).onRaise (fun x => do noteFrame x env; theTreesLotGoes x)) _ _ s
  refine wpAny_noted ?_
  rw [turn2_in]
  refine wpAny_bind (wpAny_standAt (wpAny_bind (wpAny_mono (turn n s hI) (fun r s₁ h₁ => ?_) fun _ _ z => z)))
  match r, h₁ with
  | none, h₁ => exact wpAny_pure h₁
  | some v, h₁ =>
    refine wpAny_bind (wpAny_mono h₁ (fun _ s₂ h₂ => wpAny_bind (wpAny_mono h₂ (fun _ s₃ h₃ => wpAny_bind (wpAny_mono h₃ (fun ok s₄ h₄ => ?_) fun _ _ z => z)) fun _ _ z => z)) fun _ _ z => z)
    cases ok with
    | false => exact wpAny_pure ⟨rfl, h₄⟩
    | true =>
      exact wpAny_bind (wpAny_bind (wpAny_mono h₄ (fun kv s₅ h₅ => wpAny_bind (wpAny_holding (wpAny_mono h₅ (fun vv s₆ h₆ => wpAny_bind (wpAny_standAt (wpAny_holding (wpAny_mono h₆ (fun _ s₇ h₇ => wpAny_pure ⟨rfl, h₇⟩) fun _ _ z => z)))) fun _ _ z => z))) fun _ _ z => z))
theorem start2 (h0 : codeAny (model prog w) A (.compLoop (.DictComp kx vx [⟨t0, i0, ifs0, 0⟩, ⟨t1, i1, ifs1, 0⟩] scope pos) 1 it acc env) R s)
    (h : wpAny (model prog w) A (pyIter it) (fun j s' => codeAny (model prog w) A (.compLoop (.DictComp kx vx [⟨t0, i0, ifs0, 0⟩, ⟨t1, i1, ifs1, 0⟩] scope pos) 1 j acc env) R s') (notedBy (model prog w) A env fun x s' => R (.error x) s') s) :
    codeAny (model prog w) A (.compStart (.DictComp kx vx [⟨t0, i0, ifs0, 0⟩, ⟨t1, i1, ifs1, 0⟩] scope pos) 1 it acc env) R s := by
  refine codeAny_of_tree ?_
  show wpAny _ _ ((compStart (.DictComp kx vx [⟨t0, i0, ifs0, 0⟩, ⟨t1, i1, ifs1, 0⟩] scope pos) 1 it acc env).onRaise (fun x => do noteFrame x env; standAt theWindowsPlace)) _ _ s
  refine wpAny_notedAt ?_
  unfold compStart
  show wpAny _ _ (ask >>= _) _ _ s
  refine wpAny_bind (wpAny_askSetting (wpAny_ite ?_))
  split
  · first
      | exact wpAny_bind (wpAny_pure (wpAny_pure (And.intro rfl h0)))
      | exact wpAny_pure (And.intro rfl h0)
  · first
      | exact wpAny_bind (wpAny_rule (wpAny_bind (wpAny_standAt (wpAny_bind (wpAny_mono h (fun j s' z => wpAny_pure (And.intro rfl z)) fun _ _ z => z)))))
      | (refine wpAny_bind (wpAny_rule ?_); show wpAny _ _ (standAt i1.pos >>= _) _ _ s; exact wpAny_bind (wpAny_standAt (wpAny_bind (wpAny_mono h (fun j s' z => wpAny_pure (And.intro rfl z)) fun _ _ z => z))))
end
section
variable {X : Cx}
def tDp1 (o0 : HO) (wi : TI) (g : TG) (tt : TT) (tk tv : TE) (vs : List Nat) : TE := fun σ H Q => wi σ H fun J H1 => ∀ D, H1 D = none → ∃ W : Nat → Nat → Hp → Prop, (∃ m, W 0 m (upd H1 D o0)) ∧ ∀ i m H, W i m H →
  (J.stop i H ∧ Q (.ref D) H) ∨ (J.go i H ∧ ∃ Nx : Hp → Prop, (∀ H', Nx H' → ∃ m', m' < m ∧ W (i + 1) m' H') ∧ ∀ x H', J.yld i H x H' → g x (wipe σ vs) H' fun σ2 H2 => wipe σ2 vs = wipe σ vs ∧ tt σ2 H2 fun b H3 =>
    if b = true then tk σ2 H3 fun y H4 => tv σ2 H4 fun z H5 => ∃ H6, DPut H5 D y z H6 ∧ Nx H6 else Nx H3)
theorem dp1_core {pins : List (Addr × Obj)} {s : Shared} {σ : L2.St} {H : Hp} {Q : VK} {use : Option (Value → Sem Unit)} {Qf : Value → Shared → Prop} {pos' : Pos} {kx vx tg iter : Expr} {ifs : List Expr} {scope : Scope} {own : List (Str × Nat)} {pos : Pos} {o0 : HO} {wi : TI} {g : TG} {tt : TT} {tk tv : TE} (hc : X.calm = true) (hu : X.A.units + 1 < cLine) (hN : X.N.Nodup) (I : Inv X pins σ H s) (hi : PI X tg iter wi) (ok : BlkOk X.N X.env.scope scope own)
    (hg : ∀ (s : Shared) (H : Hp) (C : Addr) (cl : List (Str × Addr)) (fp : List Addr), PG (X.blk s H scope (compEnvC scope cl C X.env) fp) tg g) (ht : ∀ (s : Shared) (H : Hp) (C : Addr) (cl : List (Str × Addr)) (fp : List Addr), PTs (X.blk s H scope (compEnvC scope cl C X.env) fp) ifs tt)
    (hk : ∀ (s : Shared) (H : Hp) (C : Addr) (cl : List (Str × Addr)) (fp : List Addr), PE (X.blk s H scope (compEnvC scope cl C X.env) fp) kx tk) (he : ∀ (s : Shared) (H : Hp) (C : Addr) (cl : List (Str × Addr)) (fp : List Addr), PE (X.blk s H scope (compEnvC scope cl C X.env) fp) vx tv)
    (ho : o0 = .dK [] ∨ o0 = .dT []) (hs : ∀ x, foldedSetIterable iter X.env x = pure x)
    (h : tDp1 o0 wi g tt tk tv (own.map (·.2)) σ H Q)
    (hRR : ∀ D C s' m H', Inv X pins σ H' s' → Q (.ref D) H' → s'.heap.Ns C m → FpOk X pins H' C → compPost (model X.prog X.w) X.A X.xe use Qf (.ref D) C (.ok .next) s') :
    wpAny (model X.prog X.w) X.A (comprehension (.DictComp kx vx [⟨tg, iter, ifs, 0⟩] scope pos) scope X.env pos' newDict false (eval iter X.env) use) Qf X.xe s := by
  have hfree : ∀ y ∈ scope.names, y.2 = .free → ∃ c, X.env.cells.lookup y.1 = some c := fun y hy e => I.ok.has _ (ok.free y hy e)
  refine wpAny_comprehension_free (use := use) rfl hs (closure_ok hfree) ok.kind (fun y hy e => by rw [ok.uniq y hy, e]) (thn (hi.run pins s σ H _ I h) fun xv s1 hx => thn hx fun itv s2 h2 => ?_)
  obtain ⟨it, fp, tn, J, H2, e, I2, T, st2, f2, q⟩ := h2
  subst e
  refine wpAny_newObj_type (newEnv_comp ?_)
  generalize hD : s2.heap.objs.size = D
  obtain ⟨W, ⟨m0, w0⟩, turn⟩ := q D (I2.hok.fresh (Nat.le_of_eq hD))
  generalize hs3 : ({ s2 with heap := s2.heap.push { cls := .type "dict", data := .dict #[] } } : Shared) = s3
  have h3 : s3.heap = s2.heap.push { cls := .type "dict", data := .dict #[] } := by rw [← hs3]
  have I3 : Inv X pins σ (upd H2 D o0) s3 := by
    rw [← hs3]
    refine I2.laid (t' := s2.toks) (fun b o e => Heap.get?_push_of_some _ e) (Nat.le_of_eq hD) ?_
    rw [← hD]
    rcases ho with z | z
    · rw [z]; exact dk_empty s2.heap I2.big
    · rw [z]; exact dt_empty s2.heap I2.big
  have f3 : ∀ b ∈ fp, FpOk X pins (upd H2 D o0) b ∧ b < s3.heap.objs.size := fun b hb => by
    obtain ⟨o, e, _⟩ := T.obj _ _ st2 b hb
    have hlt := Heap.lt_size e
    refine ⟨⟨?_, (f2 b hb).2⟩, by rw [h3, Heap.size_push]; exact Nat.lt_succ_of_lt hlt⟩
    rw [upd_ne (by rw [← hD]; exact Nat.ne_of_lt hlt)]
    exact (f2 b hb).1
  have st3 : tn 0 s3.heap := T.keep _ _ _ st2 fun b _ o e => by rw [h3]; exact Heap.get?_push_of_some _ e
  generalize hH3 : upd H2 D o0 = H3 at I3 f3 w0
  have I4 := block_start I3 ok hN f3
  have pg := hg s3 H3 s3.heap.objs.size (cellsFrom (s3.heap.objs.size + 1) scope.names (cloFrom X.env.cells scope.names [])) fp
  have pt := ht s3 H3 s3.heap.objs.size (cellsFrom (s3.heap.objs.size + 1) scope.names (cloFrom X.env.cells scope.names [])) fp
  have pk := hk s3 H3 s3.heap.objs.size (cellsFrom (s3.heap.objs.size + 1) scope.names (cloFrom X.env.cells scope.names [])) fp
  have pe := he s3 H3 s3.heap.objs.size (cellsFrom (s3.heap.objs.size + 1) scope.names (cloFrom X.env.cells scope.names [])) fp
  have nfp : ∀ b ∈ fp, H3 b = none := fun b hb => (f3 b hb).1.1
  show codeAny _ _ (.compStart (.DictComp kx vx [⟨tg, iter, ifs, 0⟩] scope pos) 0 (.ref it) (.ref D) (compEnvC scope (cellsFrom (s3.heap.objs.size + 1) scope.names (cloFrom X.env.cells scope.names [])) s3.heap.objs.size X.env)) _ { s3 with heap := pushCells (s3.heap.push { cls := .type "dict", data := .dict #[] }) scope.names }
  generalize hce : compEnvC scope (cellsFrom (s3.heap.objs.size + 1) scope.names (cloFrom X.env.cells scope.names [])) s3.heap.objs.size X.env = ce at I4 pg pt pk pe ⊢
  have cL : ce.locals = s3.heap.objs.size := by subst hce; rfl
  generalize hs4 : ({ s3 with heap := pushCells (s3.heap.push { cls := .type "dict", data := .dict #[] }) scope.names } : Shared) = s4 at I4 ⊢
  have st4 : tn 0 s4.heap := T.keep _ _ _ st3 fun b _ o e => by rw [← hs4]; exact pushCells_keeps _ _ _ _ (Heap.get?_push_of_some _ e)
  have stat : ∀ {σ' : L2.St} {H' : Hp} {s' : Shared}, Inv (X.blk s3 H3 scope ce fp) [] σ' H' s' → (∀ b ∈ fp, H' b = none) → ∀ b ∈ fp, FpOk (X.blk s3 H3 scope ce fp) [] H' b := fun {σ' H' s'} I' hn b hb =>
    ⟨hn b hb, (I'.ok.exf b hb).1, I'.ok.exfs b hb, .inl hb, fun x c e => (I'.ok.exf b hb).2 x c e, fun p hp => nomatch (show p ∈ ([] : List (Addr × Obj)) from hp)⟩
  have loop : codeAny (model X.prog X.w) X.A (.compLoop (.DictComp kx vx [⟨tg, iter, ifs, 0⟩] scope pos) 0 (.ref it) (.ref D) ce) (compPost (model X.prog X.w) X.A X.xe use Qf (.ref D) s3.heap.objs.size) s4 := by
    refine compLoop_anyD (fun n s' => ∃ i H', Inv (X.blk s3 H3 scope ce fp) [] (wipe σ (own.map (·.2))) H' s' ∧ tn i s'.heap ∧ (∀ b ∈ fp, H' b = none) ∧ W i n H') ?_ m0 ⟨0, H3, I4, st4, nfp, w0⟩
    rintro n s5 ⟨i, H5, I5, st5, n5, w5⟩
    rcases turn i n H5 w5 with ⟨stop, qq⟩ | ⟨go, Nx, hNx, step⟩
    · refine thnF (T.done (X.blk s3 H3 scope ce fp) rfl rfl rfl hc i [] s5 _ H5 (fun _ _ => False) I5 (stat I5 n5) st5 stop) fun r s6 ⟨hr, I6⟩ => ?_
      subst hr
      have I7 : Inv X pins σ H5 s6 := I3.call' (ch := fp) I6.os I6.base I6.hok I6.bare fun b hb => ⟨(f3 b hb).1.2.2.2.1, (f3 b hb).1.2.1, (f3 b hb).1.2.2.2.2.1, (f3 b hb).1.2.2.2.2.2⟩
      have nC : H5 s3.heap.objs.size = none := by
        have z : H5 ce.locals = none := I6.free
        rw [cL] at z
        exact z
      obtain ⟨m, hn, _⟩ := I6.loc
      have hn : s6.heap.Ns ce.locals m := hn
      rw [cL] at hn
      exact hRR D s3.heap.objs.size s6 m H5 I7 qq hn (I3.fpOk (Nat.le_refl _) nC)
    · refine thnF (T.item (X.blk s3 H3 scope ce fp) rfl rfl rfl hc i [] s5 _ H5 (fun _ _ => False) I5 (stat I5 n5) st5 go) fun r s6 ⟨u, hr, h6⟩ => ?_
      subst hr
      refine thnF h6 fun _ s7 ⟨x, H7, I7, r7, y7, st7, n7⟩ => ?_
      have I7' := I7.pinned (stat I7 n7) (T.obj _ _ st7)
      refine thnF (pg.run _ s7 _ H7 x u _ I7' r7 (step x H7 y7)) fun _ s8 ⟨σ8, H8, I8, hw8, q8⟩ => ?_
      refine thnF (pt.run _ s8 σ8 H8 _ I8 q8) fun b s9 ⟨H9, I9, q9⟩ => ?_
      have fin : ∀ {σ9 : L2.St} {s' : Shared} {H' : Hp}, Inv (X.blk s3 H3 scope ce fp) ([] ++ pinsAt fp s7.heap) σ9 H' s' → (wipe σ (own.map (·.2))).length = σ9.length → (∀ (j : Nat) v, (wipe σ (own.map (·.2)))[j]? = some (some v) → σ9[j]? = some (some v)) → Nx H' →
          ∃ m, m < n ∧ ∃ i H', Inv (X.blk s3 H3 scope ce fp) [] (wipe σ (own.map (·.2))) H' s' ∧ tn i s'.heap ∧ (∀ b ∈ fp, H' b = none) ∧ W i m H' := fun {σ9 s' H'} I' hl hk nx => by
        obtain ⟨m', hm, w'⟩ := hNx H' nx
        have pin' : ∀ b ∈ fp, ∀ o, s7.heap.get? b = some o → s'.heap.get? b = some o ∧ H' b = none := fun b hb o e => by
          have z := I'.pin (b, o) (List.mem_append_right _ (List.mem_append_right _ (mem_pinsAt hb e)))
          exact ⟨z.1, z.2.1⟩
        refine ⟨m', hm, i + 1, H', (I'.unpinned (pins := [])).weak hl hk, T.keep _ _ _ st7 fun b hb o e => (pin' b hb o e).1, fun b hb => ?_, w'⟩
        obtain ⟨o, e, _⟩ := T.obj _ _ st7 b hb
        exact (pin' b hb o e).2
      have hl8 : (wipe σ (own.map (·.2))).length = σ8.length := by rw [← hw8, wipe_length]
      have hk8 : ∀ (j : Nat) v, (wipe σ (own.map (·.2)))[j]? = some (some v) → σ8[j]? = some (some v) := fun j v e => by
        rw [← hw8] at e
        exact (wipe_some e).1
      cases b with
      | false =>
        simp only [Bool.false_eq_true, if_false] at q9 ⊢
        exact fin I9 hl8 hk8 q9
      | true =>
        simp only [if_true] at q9 ⊢
        refine thnF (pk.run _ s9 σ8 H9 _ I9 q9) fun z s10 ⟨yk, H10, I10, r10, q10⟩ => ?_
        refine thnF (pe.run _ s10 σ8 H10 _ I10 q10) fun z2 s11 ⟨yv, H11, I11, r11, H12, put, nx⟩ => ?_
        exact d_setP (X := X.blk s3 H3 scope ce fp) hu I11 put r10 r11 fun s12 I12 => fin I12 hl8 hk8 nx
  exact codeAny_compStart_dict loop (T.self X.A 0 _ _ _ st4 loop)
theorem pe_dp1 {kx vx tg iter : Expr} {ifs : List Expr} {scope : Scope} {own : List (Str × Nat)} {pos : Pos} {o0 : HO} {wi : TI} {g : TG} {tt : TT} {tk tv : TE} (hc : X.calm = true) (hu : X.A.units + 1 < cLine) (hN : X.N.Nodup) (hi : PI X tg iter wi) (ok : BlkOk X.N X.env.scope scope own)
    (hg : ∀ (s : Shared) (H : Hp) (C : Addr) (cl : List (Str × Addr)) (fp : List Addr), PG (X.blk s H scope (compEnvC scope cl C X.env) fp) tg g) (ht : ∀ (s : Shared) (H : Hp) (C : Addr) (cl : List (Str × Addr)) (fp : List Addr), PTs (X.blk s H scope (compEnvC scope cl C X.env) fp) ifs tt)
    (hk : ∀ (s : Shared) (H : Hp) (C : Addr) (cl : List (Str × Addr)) (fp : List Addr), PE (X.blk s H scope (compEnvC scope cl C X.env) fp) kx tk) (he : ∀ (s : Shared) (H : Hp) (C : Addr) (cl : List (Str × Addr)) (fp : List Addr), PE (X.blk s H scope (compEnvC scope cl C X.env) fp) vx tv)
    (ho : o0 = .dK [] ∨ o0 = .dT []) (hs : ∀ x, foldedSetIterable iter X.env x = pure x := by intro _; rfl) :
    PE X (.DictComp kx vx [⟨tg, iter, ifs, 0⟩] scope pos) (tDp1 o0 wi g tt tk tv (own.map (·.2))) := by
  refine ⟨fun pins s σ H Q I h => ?_⟩
  rw [arm_eval_DictComp]
  refine dp1_core hc hu hN I hi ok hg ht hk he ho hs h fun D C s' m H' I' q hn f => ⟨m, hn, fun h'' sb => ?_⟩
  obtain ⟨f0, f1, f2, f3, f4, f5⟩ := f
  exact ⟨.ref D, H', I'.turned (t' := s'.toks) (fun b o hb e => (sb.2 b hb).trans e) f0 f1 f3 f4 f5, rfl, q⟩
theorem ps_setDp1 {i : Nat} {y : Str} {py spos : Pos} {kx vx tg iter : Expr} {ifs : List Expr} {scope : Scope} {own : List (Str × Nat)} {pos : Pos} {o0 : HO} {wi : TI} {g : TG} {tt : TT} {tk tv : TE} (hc : X.calm = true) (hu : X.A.units + 1 < cLine) (hN : X.N.Nodup) (hy : X.N[i]? = some y) (hyl : X.env.scope.names.lookup y = some .local)
    (hsw : swapsWith (.DictComp kx vx [⟨tg, iter, ifs, 0⟩] scope pos) (some (.Name y py)) spos.line X.env = pure true) (hi : PI X tg iter wi) (ok : BlkOk X.N X.env.scope scope own)
    (hg : ∀ (s : Shared) (H : Hp) (C : Addr) (cl : List (Str × Addr)) (fp : List Addr), PG (X.blk s H scope (compEnvC scope cl C X.env) fp) tg g) (ht : ∀ (s : Shared) (H : Hp) (C : Addr) (cl : List (Str × Addr)) (fp : List Addr), PTs (X.blk s H scope (compEnvC scope cl C X.env) fp) ifs tt)
    (hk : ∀ (s : Shared) (H : Hp) (C : Addr) (cl : List (Str × Addr)) (fp : List Addr), PE (X.blk s H scope (compEnvC scope cl C X.env) fp) kx tk) (he : ∀ (s : Shared) (H : Hp) (C : Addr) (cl : List (Str × Addr)) (fp : List Addr), PE (X.blk s H scope (compEnvC scope cl C X.env) fp) vx tv)
    (ho : o0 = .dK [] ∨ o0 = .dT []) (hs : ∀ x, foldedSetIterable iter X.env x = pure x := by intro _; rfl) :
    PS X (.Assign [.Name y py] (.DictComp kx vx [⟨tg, iter, ifs, 0⟩] scope pos) spos) (tAsg (tDp1 o0 wi g tt tk tv (own.map (·.2))) (gName i)) := by
  refine ⟨fun pins s σ H D I h => ?_⟩
  rw [exec_Assign_Name_used _ _ _ _ hsw]
  refine wpAny_bind (wpAny_standAt (wpAny_bind ?_))
  show wpAny _ X.A (do let _ ← comprehension (.DictComp kx vx [⟨tg, iter, ifs, 0⟩] scope pos) scope X.env (firstIterPos [⟨tg, iter, ifs, 0⟩] pos) newDict false (eval iter X.env) (some (assign (.Name y py) X.env))) _ _ s
  have h : tDp1 o0 wi g tt tk tv (own.map (·.2)) σ H (fun x H1 => gName i x σ H1 D.nx) := h
  refine wpAny_bind (thn (dp1_core (Qf := fun _ s' => SP X pins D .next s') hc hu hN I hi ok hg ht hk he ho hs h fun L C s' m H' I' q hn f => ?_) fun _ s' hq => wpAny_pure (wpAny_pure hq))
  show wpAny _ _ (assign (.Name y py) X.env (.ref L)) _ _ _
  refine wpAny_assign_Name (store_ok2 (v := V.ref L) I' hN hy (.inl hyl) rfl (fun s2 I2 ⟨a, sb, ha⟩ => ?_) (.inr hyl))
  obtain ⟨f0, f1, f2, f3, f4, f5⟩ := f
  have haC : C ≠ a := by
    rcases ha with z | z
    · rw [z]; exact f1
    · exact fun e => f4 y a z e.symm
  refine ⟨m, hn.sameBut sb haC, fun h3 sb3 => ?_⟩
  exact ⟨_, H', I2.turned (t' := s2.toks) (fun b o hb e => (sb3.2 b hb).trans e) f0 f1 f3 f4 f5, q⟩
def tDp2 (o0 : HO) (wi : TI) (g : TG) (tt : TT) (wi1 : TI) (g1 : TG) (tt1 : TT) (tk tv : TE) (vs vs1 : List Nat) : TE := fun σ H Q => wi σ H fun J H1 => ∀ D, H1 D = none → ∃ W : Nat → Nat → Hp → Prop, (∃ m, W 0 m (upd H1 D o0)) ∧ ∀ i m H, W i m H →
  (J.stop i H ∧ Q (.ref D) H) ∨ (J.go i H ∧ ∃ Nx : Hp → Prop, (∀ H', Nx H' → ∃ m', m' < m ∧ W (i + 1) m' H') ∧ ∀ x H', J.yld i H x H' → g x (wipe σ vs) H' fun σ2 H2 => wipe σ2 vs = wipe σ vs ∧ tt σ2 H2 fun b H3 =>
    if b = true then wi1 σ2 H3 fun J1 H4 => ∃ W1 : Nat → Nat → Hp → Prop, (∃ m, W1 0 m H4) ∧ ∀ j k H, W1 j k H →
      (J1.stop j H ∧ Nx H) ∨ (J1.go j H ∧ ∃ Nx1 : Hp → Prop, (∀ H', Nx1 H' → ∃ k', k' < k ∧ W1 (j + 1) k' H') ∧ ∀ x H', J1.yld j H x H' → g1 x (wipe σ2 vs1) H' fun σ3 H5 => wipe σ3 vs1 = wipe σ2 vs1 ∧ tt1 σ3 H5 fun b H6 =>
        if b = true then tk σ3 H6 fun y H7 => tv σ3 H7 fun z H8 => ∃ H9, DPut H8 D y z H9 ∧ Nx1 H9 else Nx1 H6)
    else Nx H3)
theorem dp2_core {pins : List (Addr × Obj)} {s : Shared} {σ : L2.St} {H : Hp} {Q : VK} {use : Option (Value → Sem Unit)} {Qf : Value → Shared → Prop} {pos' : Pos} {kx vx tg iter tg1 iter1 : Expr} {ifs ifs1 : List Expr} {scope : Scope} {own : List (Str × Nat)} {vs1 : List Nat} {pos : Pos} {o0 : HO} {wi wi1 : TI} {g g1 : TG} {tt tt1 : TT} {tk tv : TE} (hc : X.calm = true) (hu : X.A.units + 1 < cLine) (hN : X.N.Nodup) (I : Inv X pins σ H s) (hi : PI X tg iter wi) (ok : BlkOk X.N X.env.scope scope own) (hv : ∀ i ∈ vs1, i ∈ own.map (·.2))
    (hg : ∀ (s : Shared) (H : Hp) (C : Addr) (cl : List (Str × Addr)) (fp : List Addr), PG (X.blk s H scope (compEnvC scope cl C X.env) fp) tg g) (ht : ∀ (s : Shared) (H : Hp) (C : Addr) (cl : List (Str × Addr)) (fp : List Addr), PTs (X.blk s H scope (compEnvC scope cl C X.env) fp) ifs tt)
    (hi1 : ∀ (s : Shared) (H : Hp) (C : Addr) (cl : List (Str × Addr)) (fp : List Addr), PI (X.blk s H scope (compEnvC scope cl C X.env) fp) tg1 iter1 wi1) (hg1 : ∀ (s : Shared) (H : Hp) (C : Addr) (cl : List (Str × Addr)) (fp : List Addr), PG (X.blk s H scope (compEnvC scope cl C X.env) fp) tg1 g1) (ht1 : ∀ (s : Shared) (H : Hp) (C : Addr) (cl : List (Str × Addr)) (fp : List Addr), PTs (X.blk s H scope (compEnvC scope cl C X.env) fp) ifs1 tt1)
    (hk : ∀ (s : Shared) (H : Hp) (C : Addr) (cl : List (Str × Addr)) (fp : List Addr), PE (X.blk s H scope (compEnvC scope cl C X.env) fp) kx tk) (he : ∀ (s : Shared) (H : Hp) (C : Addr) (cl : List (Str × Addr)) (fp : List Addr), PE (X.blk s H scope (compEnvC scope cl C X.env) fp) vx tv)
    (ho : o0 = .dK [] ∨ o0 = .dT []) (hs : ∀ x, foldedSetIterable iter X.env x = pure x) (hs1 : ∀ env x, foldedSetIterable iter1 env x = pure x)
    (h : tDp2 o0 wi g tt wi1 g1 tt1 tk tv (own.map (·.2)) vs1 σ H Q)
    (hRR : ∀ D C s' m H', Inv X pins σ H' s' → Q (.ref D) H' → s'.heap.Ns C m → FpOk X pins H' C → compPost (model X.prog X.w) X.A X.xe use Qf (.ref D) C (.ok .next) s') :
    wpAny (model X.prog X.w) X.A (comprehension (.DictComp kx vx [⟨tg, iter, ifs, 0⟩, ⟨tg1, iter1, ifs1, 0⟩] scope pos) scope X.env pos' newDict false (eval iter X.env) use) Qf X.xe s := by
  have hfree : ∀ y ∈ scope.names, y.2 = .free → ∃ c, X.env.cells.lookup y.1 = some c := fun y hy e => I.ok.has _ (ok.free y hy e)
  refine wpAny_comprehension_free (use := use) rfl hs (closure_ok hfree) ok.kind (fun y hy e => by rw [ok.uniq y hy, e]) (thn (hi.run pins s σ H _ I h) fun xv s1 hx => thn hx fun itv s2 h2 => ?_)
  obtain ⟨it, fp, tn, J, H2, e, I2, T, st2, f2, q⟩ := h2
  subst e
  refine wpAny_newObj_type (newEnv_comp ?_)
  generalize hD : s2.heap.objs.size = D
  obtain ⟨W, ⟨m0, w0⟩, turn⟩ := q D (I2.hok.fresh (Nat.le_of_eq hD))
  generalize hs3 : ({ s2 with heap := s2.heap.push { cls := .type "dict", data := .dict #[] } } : Shared) = s3
  have h3 : s3.heap = s2.heap.push { cls := .type "dict", data := .dict #[] } := by rw [← hs3]
  have I3 : Inv X pins σ (upd H2 D o0) s3 := by
    rw [← hs3]
    refine I2.laid (t' := s2.toks) (fun b o e => Heap.get?_push_of_some _ e) (Nat.le_of_eq hD) ?_
    rw [← hD]
    rcases ho with z | z
    · rw [z]; exact dk_empty s2.heap I2.big
    · rw [z]; exact dt_empty s2.heap I2.big
  have f3 : ∀ b ∈ fp, FpOk X pins (upd H2 D o0) b ∧ b < s3.heap.objs.size := fun b hb => by
    obtain ⟨o, e, _⟩ := T.obj _ _ st2 b hb
    have hlt := Heap.lt_size e
    refine ⟨⟨?_, (f2 b hb).2⟩, by rw [h3, Heap.size_push]; exact Nat.lt_succ_of_lt hlt⟩
    rw [upd_ne (by rw [← hD]; exact Nat.ne_of_lt hlt)]
    exact (f2 b hb).1
  have st3 : tn 0 s3.heap := T.keep _ _ _ st2 fun b _ o e => by rw [h3]; exact Heap.get?_push_of_some _ e
  generalize hH3 : upd H2 D o0 = H3 at I3 f3 w0
  have I4 := block_start I3 ok hN f3
  have pg := hg s3 H3 s3.heap.objs.size (cellsFrom (s3.heap.objs.size + 1) scope.names (cloFrom X.env.cells scope.names [])) fp
  have pt := ht s3 H3 s3.heap.objs.size (cellsFrom (s3.heap.objs.size + 1) scope.names (cloFrom X.env.cells scope.names [])) fp
  have pi1 := hi1 s3 H3 s3.heap.objs.size (cellsFrom (s3.heap.objs.size + 1) scope.names (cloFrom X.env.cells scope.names [])) fp
  have pg1 := hg1 s3 H3 s3.heap.objs.size (cellsFrom (s3.heap.objs.size + 1) scope.names (cloFrom X.env.cells scope.names [])) fp
  have pt1 := ht1 s3 H3 s3.heap.objs.size (cellsFrom (s3.heap.objs.size + 1) scope.names (cloFrom X.env.cells scope.names [])) fp
  have pk := hk s3 H3 s3.heap.objs.size (cellsFrom (s3.heap.objs.size + 1) scope.names (cloFrom X.env.cells scope.names [])) fp
  have pe := he s3 H3 s3.heap.objs.size (cellsFrom (s3.heap.objs.size + 1) scope.names (cloFrom X.env.cells scope.names [])) fp
  have nfp : ∀ b ∈ fp, H3 b = none := fun b hb => (f3 b hb).1.1
  show codeAny _ _ (.compStart (.DictComp kx vx [⟨tg, iter, ifs, 0⟩, ⟨tg1, iter1, ifs1, 0⟩] scope pos) 0 (.ref it) (.ref D) (compEnvC scope (cellsFrom (s3.heap.objs.size + 1) scope.names (cloFrom X.env.cells scope.names [])) s3.heap.objs.size X.env)) _ { s3 with heap := pushCells (s3.heap.push { cls := .type "dict", data := .dict #[] }) scope.names }
  generalize hce : compEnvC scope (cellsFrom (s3.heap.objs.size + 1) scope.names (cloFrom X.env.cells scope.names [])) s3.heap.objs.size X.env = ce at I4 pg pt pi1 pg1 pt1 pk pe ⊢
  have cL : ce.locals = s3.heap.objs.size := by subst hce; rfl
  generalize hs4 : ({ s3 with heap := pushCells (s3.heap.push { cls := .type "dict", data := .dict #[] }) scope.names } : Shared) = s4 at I4 ⊢
  have st4 : tn 0 s4.heap := T.keep _ _ _ st3 fun b _ o e => by rw [← hs4]; exact pushCells_keeps _ _ _ _ (Heap.get?_push_of_some _ e)
  have stat : ∀ {σ' : L2.St} {H' : Hp} {s' : Shared}, Inv (X.blk s3 H3 scope ce fp) [] σ' H' s' → (∀ b ∈ fp, H' b = none) → ∀ b ∈ fp, FpOk (X.blk s3 H3 scope ce fp) [] H' b := fun {σ' H' s'} I' hn b hb =>
    ⟨hn b hb, (I'.ok.exf b hb).1, I'.ok.exfs b hb, .inl hb, fun x c e => (I'.ok.exf b hb).2 x c e, fun p hp => nomatch (show p ∈ ([] : List (Addr × Obj)) from hp)⟩
  have loop : codeAny (model X.prog X.w) X.A (.compLoop (.DictComp kx vx [⟨tg, iter, ifs, 0⟩, ⟨tg1, iter1, ifs1, 0⟩] scope pos) 0 (.ref it) (.ref D) ce) (compPost (model X.prog X.w) X.A X.xe use Qf (.ref D) s3.heap.objs.size) s4 := by
    refine loop2_out (hs1 ce) (fun n s' => ∃ i H', Inv (X.blk s3 H3 scope ce fp) [] (wipe σ (own.map (·.2))) H' s' ∧ tn i s'.heap ∧ (∀ b ∈ fp, H' b = none) ∧ W i n H') ?_ m0 ⟨0, H3, I4, st4, nfp, w0⟩
    rintro n s5 ⟨i, H5, I5, st5, n5, w5⟩
    rcases turn i n H5 w5 with ⟨stop, qq⟩ | ⟨go, Nx, hNx, step⟩
    · refine thnF (T.done (X.blk s3 H3 scope ce fp) rfl rfl rfl hc i [] s5 _ H5 (fun _ _ => False) I5 (stat I5 n5) st5 stop) fun r s6 ⟨hr, I6⟩ => ?_
      subst hr
      have I7 : Inv X pins σ H5 s6 := I3.call' (ch := fp) I6.os I6.base I6.hok I6.bare fun b hb => ⟨(f3 b hb).1.2.2.2.1, (f3 b hb).1.2.1, (f3 b hb).1.2.2.2.2.1, (f3 b hb).1.2.2.2.2.2⟩
      have nC : H5 s3.heap.objs.size = none := by
        have z : H5 ce.locals = none := I6.free
        rw [cL] at z
        exact z
      obtain ⟨m, hn, _⟩ := I6.loc
      have hn : s6.heap.Ns ce.locals m := hn
      rw [cL] at hn
      exact hRR D s3.heap.objs.size s6 m H5 I7 qq hn (I3.fpOk (Nat.le_refl _) nC)
    · refine thnF (T.item (X.blk s3 H3 scope ce fp) rfl rfl rfl hc i [] s5 _ H5 (fun _ _ => False) I5 (stat I5 n5) st5 go) fun r s6 ⟨u, hr, h6⟩ => ?_
      subst hr
      refine thnF h6 fun _ s7 ⟨x, H7, I7, r7, y7, st7, n7⟩ => ?_
      have I7' := I7.pinned (stat I7 n7) (T.obj _ _ st7)
      refine thnF (pg.run _ s7 _ H7 x u _ I7' r7 (step x H7 y7)) fun _ s8 ⟨σ8, H8, I8, hw8, q8⟩ => ?_
      refine thnF (pt.run _ s8 σ8 H8 _ I8 q8) fun b s9 ⟨H9, I9, q9⟩ => ?_
      have fin : ∀ {σ9 : L2.St} {s' : Shared} {H' : Hp}, Inv (X.blk s3 H3 scope ce fp) ([] ++ pinsAt fp s7.heap) σ9 H' s' → (wipe σ (own.map (·.2))).length = σ9.length → (∀ (j : Nat) v, (wipe σ (own.map (·.2)))[j]? = some (some v) → σ9[j]? = some (some v)) → Nx H' →
          ∃ m, m < n ∧ ∃ i H', Inv (X.blk s3 H3 scope ce fp) [] (wipe σ (own.map (·.2))) H' s' ∧ tn i s'.heap ∧ (∀ b ∈ fp, H' b = none) ∧ W i m H' := fun {σ9 s' H'} I' hl hk nx => by
        obtain ⟨m', hm, w'⟩ := hNx H' nx
        have pin' : ∀ b ∈ fp, ∀ o, s7.heap.get? b = some o → s'.heap.get? b = some o ∧ H' b = none := fun b hb o e => by
          have z := I'.pin (b, o) (List.mem_append_right _ (List.mem_append_right _ (mem_pinsAt hb e)))
          exact ⟨z.1, z.2.1⟩
        refine ⟨m', hm, i + 1, H', (I'.unpinned (pins := [])).weak hl hk, T.keep _ _ _ st7 fun b hb o e => (pin' b hb o e).1, fun b hb => ?_, w'⟩
        obtain ⟨o, e, _⟩ := T.obj _ _ st7 b hb
        exact (pin' b hb o e).2
      have hl8 : (wipe σ (own.map (·.2))).length = σ8.length := by rw [← hw8, wipe_length]
      have hk8 : ∀ (j : Nat) v, (wipe σ (own.map (·.2)))[j]? = some (some v) → σ8[j]? = some (some v) := fun j v e => by
        rw [← hw8] at e
        exact (wipe_some e).1
      have hk9 : ∀ (j : Nat) v, (wipe σ (own.map (·.2)))[j]? = some (some v) → (wipe σ8 vs1)[j]? = some (some v) := fun j v e => by
        rw [← hw8] at e
        obtain ⟨e1, e2⟩ := wipe_some e
        rw [wipe_out fun z => e2 (hv j z)]
        exact e1
      cases b with
      | false =>
        simp only [Bool.false_eq_true, if_false] at q9 ⊢
        exact fin I9 hl8 hk8 q9
      | true =>
        simp only [if_true] at q9 ⊢
        refine thnF (pi1.run _ s9 σ8 H9 _ I9 q9) fun xv s10 hx => thnF hx fun itv s11 h11 => ?_
        obtain ⟨it1, fp1, tn1, J1, H11, e1, I11, T1, st11, f11, W1, ⟨m1, w1⟩, turn1⟩ := h11
        subst e1
        have stat1 : ∀ {H' : Hp}, (∀ b ∈ fp1, H' b = none) → ∀ b ∈ fp1, FpOk (X.blk s3 H3 scope ce fp) ([] ++ pinsAt fp s7.heap) H' b := fun hn b hb => ⟨hn b hb, (f11 b hb).2⟩
        have loop1 : codeAny (model X.prog X.w) X.A (.compLoop (.DictComp kx vx [⟨tg, iter, ifs, 0⟩, ⟨tg1, iter1, ifs1, 0⟩] scope pos) 1 (.ref it1) (.ref D) ce)
            (fun r s' => match r with
              | .ok _ => ∃ m, m < n ∧ ∃ i H', Inv (X.blk s3 H3 scope ce fp) [] (wipe σ (own.map (·.2))) H' s' ∧ tn i s'.heap ∧ (∀ b ∈ fp, H' b = none) ∧ W i m H'
              | .error _ => False) s11 := by
          refine loop2_in (fun k s' => ∃ j H', Inv (X.blk s3 H3 scope ce fp) ([] ++ pinsAt fp s7.heap) (wipe σ8 vs1) H' s' ∧ tn1 j s'.heap ∧ (∀ b ∈ fp1, H' b = none) ∧ W1 j k H') ?_ m1 ⟨0, H11, I11.weak (wipe_length _ _) (fun j v e => (wipe_some e).1), st11, fun b hb => (f11 b hb).1, w1⟩
          rintro k s12 ⟨j, H12, I12, st12, n12, w12⟩
          rcases turn1 j k H12 w12 with ⟨stop1, nx1⟩ | ⟨go1, Nx1, hNx1, step1⟩
          · refine thnF (T1.done (X.blk s3 H3 scope ce fp) rfl rfl rfl hc j _ s12 (wipe σ8 vs1) H12 (fun _ _ => False) I12 (stat1 n12) st12 stop1) fun r s13 ⟨hr, I13⟩ => ?_
            subst hr
            exact fin I13 (hl8.trans (wipe_length σ8 vs1).symm) hk9 nx1
          · refine thnF (T1.item (X.blk s3 H3 scope ce fp) rfl rfl rfl hc j _ s12 (wipe σ8 vs1) H12 (fun _ _ => False) I12 (stat1 n12) st12 go1) fun r s13 ⟨u1, hr, h13⟩ => ?_
            subst hr
            refine thnF h13 fun _ s14 ⟨x1, H14, I14, r14, y14, st14, n14⟩ => ?_
            have I14' := I14.pinned (stat1 n14) (T1.obj _ _ st14)
            refine thnF (pg1.run _ s14 (wipe σ8 vs1) H14 x1 u1 _ I14' r14 (step1 x1 H14 y14)) fun _ s15 ⟨σ15, H15, I15, hw15, q15⟩ => ?_
            refine thnF (pt1.run _ s15 σ15 H15 _ I15 q15) fun b1 s16 ⟨H16, I16, q16⟩ => ?_
            have fin1 : ∀ {s' : Shared} {H' : Hp}, Inv (X.blk s3 H3 scope ce fp) (([] ++ pinsAt fp s7.heap) ++ pinsAt fp1 s14.heap) σ15 H' s' → Nx1 H' →
                ∃ m, m < k ∧ ∃ j H', Inv (X.blk s3 H3 scope ce fp) ([] ++ pinsAt fp s7.heap) (wipe σ8 vs1) H' s' ∧ tn1 j s'.heap ∧ (∀ b ∈ fp1, H' b = none) ∧ W1 j m H' := fun {s' H'} I' nx => by
              obtain ⟨m', hm, w'⟩ := hNx1 H' nx
              have pin' : ∀ b ∈ fp1, ∀ o, s14.heap.get? b = some o → s'.heap.get? b = some o ∧ H' b = none := fun b hb o e => by
                have z := I'.pin (b, o) (List.mem_append_right _ (List.mem_append_right _ (mem_pinsAt hb e)))
                exact ⟨z.1, z.2.1⟩
              refine ⟨m', hm, j + 1, H', I'.unpinned.weak (by rw [← hw15, wipe_length]) (fun j v e => by rw [← hw15] at e; exact (wipe_some e).1), T1.keep _ _ _ st14 fun b hb o e => (pin' b hb o e).1, fun b hb => ?_, w'⟩
              obtain ⟨o, e, _⟩ := T1.obj _ _ st14 b hb
              exact (pin' b hb o e).2
            cases b1 with
            | false =>
              simp only [Bool.false_eq_true, if_false] at q16 ⊢
              exact fin1 I16 q16
            | true =>
              simp only [if_true] at q16 ⊢
              refine thnF (pk.run _ s16 σ15 H16 _ I16 q16) fun z s17 ⟨yk, H17, I17, r17, q17⟩ => ?_
              refine thnF (pe.run _ s17 σ15 H17 _ I17 q17) fun z2 s18 ⟨yv, H18, I18, r18, H19, put, nx⟩ => ?_
              exact d_setP (X := X.blk s3 H3 scope ce fp) hu I18 put r17 r18 fun s19 I19 => fin1 I19 nx
        exact start2 loop1 (T1.self X.A 0 _ _ _ st11 loop1)
  exact codeAny_compStart_dict loop (T.self X.A 0 _ _ _ st4 loop)
theorem pe_dp2 {kx vx tg iter tg1 iter1 : Expr} {ifs ifs1 : List Expr} {scope : Scope} {own : List (Str × Nat)} {vs1 : List Nat} {pos : Pos} {o0 : HO} {wi wi1 : TI} {g g1 : TG} {tt tt1 : TT} {tk tv : TE} (hc : X.calm = true) (hu : X.A.units + 1 < cLine) (hN : X.N.Nodup) (hi : PI X tg iter wi) (ok : BlkOk X.N X.env.scope scope own) (hv : ∀ i ∈ vs1, i ∈ own.map (·.2))
    (hg : ∀ (s : Shared) (H : Hp) (C : Addr) (cl : List (Str × Addr)) (fp : List Addr), PG (X.blk s H scope (compEnvC scope cl C X.env) fp) tg g) (ht : ∀ (s : Shared) (H : Hp) (C : Addr) (cl : List (Str × Addr)) (fp : List Addr), PTs (X.blk s H scope (compEnvC scope cl C X.env) fp) ifs tt)
    (hi1 : ∀ (s : Shared) (H : Hp) (C : Addr) (cl : List (Str × Addr)) (fp : List Addr), PI (X.blk s H scope (compEnvC scope cl C X.env) fp) tg1 iter1 wi1) (hg1 : ∀ (s : Shared) (H : Hp) (C : Addr) (cl : List (Str × Addr)) (fp : List Addr), PG (X.blk s H scope (compEnvC scope cl C X.env) fp) tg1 g1) (ht1 : ∀ (s : Shared) (H : Hp) (C : Addr) (cl : List (Str × Addr)) (fp : List Addr), PTs (X.blk s H scope (compEnvC scope cl C X.env) fp) ifs1 tt1)
    (hk : ∀ (s : Shared) (H : Hp) (C : Addr) (cl : List (Str × Addr)) (fp : List Addr), PE (X.blk s H scope (compEnvC scope cl C X.env) fp) kx tk) (he : ∀ (s : Shared) (H : Hp) (C : Addr) (cl : List (Str × Addr)) (fp : List Addr), PE (X.blk s H scope (compEnvC scope cl C X.env) fp) vx tv)
    (ho : o0 = .dK [] ∨ o0 = .dT []) (hs : ∀ x, foldedSetIterable iter X.env x = pure x := by intro _; rfl) (hs1 : ∀ env x, foldedSetIterable iter1 env x = pure x := by intro _ _; rfl) :
    PE X (.DictComp kx vx [⟨tg, iter, ifs, 0⟩, ⟨tg1, iter1, ifs1, 0⟩] scope pos) (tDp2 o0 wi g tt wi1 g1 tt1 tk tv (own.map (·.2)) vs1) := by
  refine ⟨fun pins s σ H Q I h => ?_⟩
  rw [arm_eval_DictComp]
  refine dp2_core hc hu hN I hi ok hv hg ht hi1 hg1 ht1 hk he ho hs hs1 h fun D C s' m H' I' q hn f => ⟨m, hn, fun h'' sb => ?_⟩
  obtain ⟨f0, f1, f2, f3, f4, f5⟩ := f
  exact ⟨.ref D, H', I'.turned (t' := s'.toks) (fun b o hb e => (sb.2 b hb).trans e) f0 f1 f3 f4 f5, rfl, q⟩
theorem ps_setDp2 {i : Nat} {y : Str} {py spos : Pos} {kx vx tg iter tg1 iter1 : Expr} {ifs ifs1 : List Expr} {scope : Scope} {own : List (Str × Nat)} {vs1 : List Nat} {pos : Pos} {o0 : HO} {wi wi1 : TI} {g g1 : TG} {tt tt1 : TT} {tk tv : TE} (hc : X.calm = true) (hu : X.A.units + 1 < cLine) (hN : X.N.Nodup) (hy : X.N[i]? = some y) (hyl : X.env.scope.names.lookup y = some .local)
    (hsw : swapsWith (.DictComp kx vx [⟨tg, iter, ifs, 0⟩, ⟨tg1, iter1, ifs1, 0⟩] scope pos) (some (.Name y py)) spos.line X.env = pure true) (hi : PI X tg iter wi) (ok : BlkOk X.N X.env.scope scope own) (hv : ∀ i ∈ vs1, i ∈ own.map (·.2))
    (hg : ∀ (s : Shared) (H : Hp) (C : Addr) (cl : List (Str × Addr)) (fp : List Addr), PG (X.blk s H scope (compEnvC scope cl C X.env) fp) tg g) (ht : ∀ (s : Shared) (H : Hp) (C : Addr) (cl : List (Str × Addr)) (fp : List Addr), PTs (X.blk s H scope (compEnvC scope cl C X.env) fp) ifs tt)
    (hi1 : ∀ (s : Shared) (H : Hp) (C : Addr) (cl : List (Str × Addr)) (fp : List Addr), PI (X.blk s H scope (compEnvC scope cl C X.env) fp) tg1 iter1 wi1) (hg1 : ∀ (s : Shared) (H : Hp) (C : Addr) (cl : List (Str × Addr)) (fp : List Addr), PG (X.blk s H scope (compEnvC scope cl C X.env) fp) tg1 g1) (ht1 : ∀ (s : Shared) (H : Hp) (C : Addr) (cl : List (Str × Addr)) (fp : List Addr), PTs (X.blk s H scope (compEnvC scope cl C X.env) fp) ifs1 tt1)
    (hk : ∀ (s : Shared) (H : Hp) (C : Addr) (cl : List (Str × Addr)) (fp : List Addr), PE (X.blk s H scope (compEnvC scope cl C X.env) fp) kx tk) (he : ∀ (s : Shared) (H : Hp) (C : Addr) (cl : List (Str × Addr)) (fp : List Addr), PE (X.blk s H scope (compEnvC scope cl C X.env) fp) vx tv)
    (ho : o0 = .dK [] ∨ o0 = .dT []) (hs : ∀ x, foldedSetIterable iter X.env x = pure x := by intro _; rfl) (hs1 : ∀ env x, foldedSetIterable iter1 env x = pure x := by intro _ _; rfl) :
    PS X (.Assign [.Name y py] (.DictComp kx vx [⟨tg, iter, ifs, 0⟩, ⟨tg1, iter1, ifs1, 0⟩] scope pos) spos) (tAsg (tDp2 o0 wi g tt wi1 g1 tt1 tk tv (own.map (·.2)) vs1) (gName i)) := by
  refine ⟨fun pins s σ H D I h => ?_⟩
  rw [exec_Assign_Name_used _ _ _ _ hsw]
  refine wpAny_bind (wpAny_standAt (wpAny_bind ?_))
  show wpAny _ X.A (do let _ ← comprehension (.DictComp kx vx [⟨tg, iter, ifs, 0⟩, ⟨tg1, iter1, ifs1, 0⟩] scope pos) scope X.env (firstIterPos [⟨tg, iter, ifs, 0⟩, ⟨tg1, iter1, ifs1, 0⟩] pos) newDict false (eval iter X.env) (some (assign (.Name y py) X.env))) _ _ s
  have h : tDp2 o0 wi g tt wi1 g1 tt1 tk tv (own.map (·.2)) vs1 σ H (fun x H1 => gName i x σ H1 D.nx) := h
  refine wpAny_bind (thn (dp2_core (Qf := fun _ s' => SP X pins D .next s') hc hu hN I hi ok hv hg ht hi1 hg1 ht1 hk he ho hs hs1 h fun L C s' m H' I' q hn f => ?_) fun _ s' hq => wpAny_pure (wpAny_pure hq))
  show wpAny _ _ (assign (.Name y py) X.env (.ref L)) _ _ _
  refine wpAny_assign_Name (store_ok2 (v := V.ref L) I' hN hy (.inl hyl) rfl (fun s2 I2 ⟨a, sb, ha⟩ => ?_) (.inr hyl))
  obtain ⟨f0, f1, f2, f3, f4, f5⟩ := f
  have haC : C ≠ a := by
    rcases ha with z | z
    · rw [z]; exact f1
    · exact fun e => f4 y a z e.symm
  refine ⟨m, hn.sameBut sb haC, fun h3 sb3 => ?_⟩
  exact ⟨_, H', I2.turned (t' := s2.toks) (fun b o hb e => (sb3.2 b hb).trans e) f0 f1 f3 f4 f5, q⟩
theorem swD_true {kx vx : Expr} {gs : List Comprehension} {scope : Scope} {pos py : Pos} {y : Str} {l : Nat} {env : Env} (hk : env.scope.kind = .function) (hy : env.scope.names.lookup y = some .local) (hl : (py.line == pos.line) = true)
    (ha : (scope.names.any fun (n, k) => n == y && (k == .local || k == .cell)) = false) : swapsWith (.DictComp kx vx gs scope pos) (some (.Name y py)) l env = pure true := by
  have ky : env.kindOf y = some .local := hy
  have hb : env.blockKind = .function := by unfold Env.blockKind; rw [hk]; rfl
  unfold swapsWith
  simp only [hb, ky, ha, Expr.pos, hl]
  rfl
end
end MN
/-! lists and tuples of texts and truths as data -/
namespace MN
open PySem PySem.Spec PyProof.Rows L2
section
variable {K : PySem.W.Frag} {H : Hp}
theorem dp_strs : ∀ zs : List Str, DpAll K H (zs.map V.str) (zs.map PyData.str)
  | [] => .nil
  | z :: zs => .cons (.str z) (dp_strs zs)
theorem dp_bls : ∀ bs : List Bool, DpAll K H (bs.map V.bl) (bs.map PyData.bool)
  | [] => .nil
  | b :: bs => .cons (.bl b) (dp_bls bs)
theorem dpT {t : Addr} {zs : List Str} (h : SqT K H t (zs.map V.str)) : Dp K H (.ref t) (.tuple (zs.map PyData.str)) := .tup h (dp_strs zs)
theorem dpL {t : Addr} {zs : List Str} (h : SqL K H t (zs.map V.str)) : Dp K H (.ref t) (.list (zs.map PyData.str)) := .lst h (dp_strs zs)
theorem dpB {t : Addr} {bs : List Bool} (h : SqL K H t (bs.map V.bl)) : Dp K H (.ref t) (.list (bs.map PyData.bool)) := .lst h (dp_bls bs)
theorem layAll (zs : List PyData) (h : ∀ d ∈ zs, d.canLay0 = true) : PyData.canLayAll0 zs = true := by
  induction zs with
  | nil => rfl
  | cons z zs ih =>
    rw [PyData.canLayAll0, h z List.mem_cons_self, ih fun d hd => h d (List.mem_cons_of_mem _ hd)]
    rfl
theorem depthAll0 (zs : List PyData) {n : Nat} (h : ∀ d ∈ zs, d.depth ≤ n) : PyData.depthAll zs ≤ n := by
  induction zs with
  | nil => simp [PyData.depthAll]
  | cons z zs ih =>
    rw [PyData.depthAll]
    have h1 := h z List.mem_cons_self
    have h2 := ih fun d hd => h d (List.mem_cons_of_mem _ hd)
    omega
theorem shapedT {zs : List PyData} (h : ∀ d ∈ zs, d.canLay0 = true ∧ d.depth ≤ 60) : SeqAt.shaped (.tuple zs) = true := by
  unfold SeqAt.shaped
  rw [PyData.canLay0, layAll zs fun d hd => (h d hd).1, PyData.depth]
  have := depthAll0 zs (n := 60) fun d hd => (h d hd).2
  simp only [Bool.true_and, decide_eq_true_eq]
  omega
theorem shapedL {zs : List PyData} (h : ∀ d ∈ zs, d.canLay0 = true ∧ d.depth ≤ 60) : SeqAt.shaped (.list zs) = true := by
  unfold SeqAt.shaped
  rw [PyData.canLay0, layAll zs fun d hd => (h d hd).1, PyData.depth]
  have := depthAll0 zs (n := 60) fun d hd => (h d hd).2
  simp only [Bool.true_and, decide_eq_true_eq]
  omega
theorem eqv_self {d : PyData} (h : SeqAt.shaped d = true) : PyData.eqv d d = true := SeqAt.eqv_refl d (SeqAt.canLay_of_shaped h)
end
end MN
/-! the head's facts: defs at any address, one more Bool -/
namespace MN
open PySem PySem.Spec PyProof.Rows L2
def obsX (ex : PySem.W.Frag → Bool) (fn : List He5.DefA) (K : PySem.W.Frag) : He.AlD := (ex K && fn.all fun d => d.ok K, fn.map fun d => He5.fnA K (d.at_ K))
def SaysX (ex : PySem.W.Frag → Bool) (fn : List He5.DefA) (K : PySem.W.Frag) : Prop := obsX ex fn K = He5.valA fn
def obsXG (n : Nat) (ex : PySem.W.Frag → Bool) (fn : List He5.DefA) (g : Addr → Option Obj) : He.AlD := obsX ex fn (He.frG g (He5.asA g n))
def hookX (n : Nat) (ex : PySem.W.Frag → Bool) (fn : List He5.DefA) : PySem.W.Hook where
  α := He.AlD
  obs := fun s => obsXG n ex fn s.heap.get?
  val := fun _ => He5.valA fn
  says := fun _ h => ∃ K : PySem.W.Frag, K.In h ∧ SaysX ex fn K
  of := fun _ _ e => ⟨_, He.frG_in, e⟩
  keeps := fun _ _ _ ⟨K, hK, c⟩ k => ⟨K, PySem.W.Frag.In.keeps hK k, c⟩
theorem obsXG_eq {n : Nat} {ex : PySem.W.Frag → Bool} {fn : List He5.DefA} {g : Addr → Option Obj} {s : Shared} (h : ∀ a, g a = s.heap.get? a) : obsXG n ex fn g = (hookX n ex fn).obs s := by
  have e : g = s.heap.get? := funext h
  rw [e] <;> rfl
section
variable {ex : PySem.W.Frag → Bool} {fn : List He5.DefA} {K : PySem.W.Frag}
theorem SaysX.all (c : SaysX ex fn K) : ex K = true := (He.ba (show (ex K && fn.all fun d => d.ok K) = true from congrArg (fun z : He.AlD => z.1) c)).1
theorem SaysX.def_ (c : SaysX ex fn K) (i : Nat) {d : He5.DefA} (h : fn[i]? = some d := by rfl) : ∃ fd, L2.FunD K d.name d.qual d.params d.body d.scope (d.dvs K) (d.kws K) (d.at_ K) fd := by
  have c2 := (He.ba (show (ex K && fn.all fun d => d.ok K) = true from congrArg (fun z : He.AlD => z.1) c)).2
  have e : fn.map (fun d => He5.fnA K (d.at_ K)) = fn.map He5.DefA.val := congrArg (fun z : He.AlD => z.2) c
  have e2 : (fn.map fun d => He5.fnA K (d.at_ K))[i]? = (fn.map He5.DefA.val)[i]? := by rw [e]
  rw [List.getElem?_map, List.getElem?_map, h] at e2
  exact He5.DefA.funD (Option.some.inj e2) (List.all_eq_true.mp c2 d (List.mem_of_getElem? h))
end
/-- a def of the top -/
def gDef (x : Str) (st : Stmt) : He5.DefA := { at_ := fun K => He.ga K x, name := x, qual := x, params := defArgs st, body := defBody st, scope := defScope st }
/-! ### a class with slots -/
def scB (K : PySem.W.Frag) (C : Addr) : Bool := PySem.W.plainGet K C Str.empty && (PySem.W.isClsIn K C && (PySem.W.plainOver K C && He.eqO (PySem.W.findIn K (.ref C) "__setattr__") (some (some (.builtin "object.__setattr__")))))
theorem scB_ok {K : PySem.W.Frag} {C : Addr} (h : scB K C = true) : SlX.SCls K C := by
  obtain ⟨h1, h⟩ := He.ba h
  obtain ⟨h2, h⟩ := He.ba h
  obtain ⟨h3, h4⟩ := He.ba h
  exact ⟨h1, h2, h3, He.eqO_ok h4⟩
def siB (K : PySem.W.Frag) (C : Addr) : Bool := He.eqO (PySem.W.findIn K (.ref C) "__class__") (some (some (.builtin "object.__class__"))) && (He.eqO (PySem.W.specialIn K (.builtin "object.__class__") "__get__") (some (some (.builtin "getset_descriptor.__get__"))) &&
  (decide (PySem.W.takesIn K (.builtin "object.__class__") = some true) && decide (PySem.W.mroIn K C (.type "object") = some true)))
theorem siB_ok {K : PySem.W.Frag} {C : Addr} (h : siB K C = true) : SlX.SIsi K C := by
  obtain ⟨h1, h⟩ := He.ba h
  obtain ⟨h2, h⟩ := He.ba h
  obtain ⟨h3, h4⟩ := He.ba h
  exact ⟨He.eqO_ok h1, He.eqO_ok h2, of_decide_eq_true h3, of_decide_eq_true h4⟩
def slB (K : PySem.W.Frag) (C : Addr) (f : Str) : Bool := He.eqO (PySem.W.findIn K (.ref C) f) (some (some (.ref (He.ma K C f)))) && (He.eqO (PySem.W.specialIn K (.ref (He.ma K C f)) "__get__") (some (some (.builtin "member_descriptor.__get__"))) &&
  (decide (PySem.W.takesIn K (.ref (He.ma K C f)) = some true) && (decide (PySem.W.typeIn K (.ref (He.ma K C f)) = some (.type "member_descriptor")) && (match PySem.W.slotIn K (He.ma K C f) C with
    | some i => decide (i < 1000)
    | none => false))))
theorem slB_ok {K : PySem.W.Frag} {C : Addr} {f : Str} (h : slB K C f = true) : ∃ p i, SlX.Slot1 K C f p i := by
  obtain ⟨h1, h⟩ := He.ba h
  obtain ⟨h2, h⟩ := He.ba h
  obtain ⟨h3, h⟩ := He.ba h
  obtain ⟨h4, h5⟩ := He.ba h
  cases e : PySem.W.slotIn K (He.ma K C f) C with
  | none =>
    rw [e] at h5
    cases h5
  | some i =>
    rw [e] at h5
    exact ⟨_, i, He.eqO_ok h1, He.eqO_ok h2, of_decide_eq_true h3, of_decide_eq_true h4, e, of_decide_eq_true h5⟩
/-- attributes and classmethods read off the class -/
def rdB (K : PySem.W.Frag) (C : Addr) : Bool := PySem.W.readsIn K C (.type "type") && He.eqO (PySem.W.specialIn K (.ref C) "__getattribute__") (some (some (.builtin "type.__getattribute__")))
theorem rdB_ok {K : PySem.W.Frag} {C : Addr} (h : rdB K C = true) : ClX.CRead K C (.type "type") := by
  obtain ⟨h1, h2⟩ := He.ba h
  exact ⟨h1, He.eqO_ok h2⟩
def cmB (K : PySem.W.Frag) (C : Addr) (m : Str) : Bool := He5.wrapB K C "classmethod" "classmethod.__get__" m && PySem.W.fnIn K (He5.wf K C "classmethod" m)
theorem cmB_ok {K : PySem.W.Frag} {C : Addr} {m : Str} (h : cmB K C m = true) : ClX.CMet K C (.type "type") m (He.ma K C m) (He5.wf K C "classmethod" m) := by
  obtain ⟨h1, h2⟩ := He.ba h
  exact He5.cmet_of h1 h2
/-! ### names -/
def freeAll (K : PySem.W.Frag) (xs : List Str) : Bool := xs.all fun x => (He.Fa.free x).ok K
def gloAll (K : PySem.W.Frag) (xs : List Str) : Bool := xs.all fun x => (He.Fa.glo x).ok K
section
variable {K : PySem.W.Frag} {h : Heap} {mg : Str → Option Value}
theorem freeAll_ok (X : K.In h) (G : h.Ns mainGlobals mg) {xs : List Str} (c : freeAll K xs = true) : ∀ x ∈ xs, mg x = none := fun x hx => He.free_ok X G (List.all_eq_true.mp c x hx)
theorem gloAll_ok (X : K.In h) (G : h.Ns mainGlobals mg) {xs : List Str} (c : gloAll K xs = true) {x : Str} (hx : x ∈ xs) : mg x = some (.ref (He.ga K x)) := He.glo_ok X G (List.all_eq_true.mp c x hx)
theorem intC_ok (X : K.In h) (G : h.Ns mainGlobals mg) {x : Str} {i : Int} (c : (He.Fa.int x i).ok K = true) : ∃ u, mg x = some u ∧ RelV (.int i) u := by
  obtain ⟨t, e⟩ := He.int_ok X G c
  exact ⟨_, e, t, rfl⟩
theorem strC_ok (X : K.In h) (G : h.Ns mainGlobals mg) {x z : Str} (c : (He.Fa.str x z).ok K = true) : ∃ u, mg x = some u ∧ RelV (.str z) u := by
  obtain ⟨t, e⟩ := He.str_ok X G c
  exact ⟨_, e, t, rfl⟩
end
end MN
/-! the law's draws: whatever is drawn lies in its bounds -/
namespace MN
open PySem PySem.Spec PyProof.Rows L2
abbrev potO (a b c : Int) : HO := .lst [.int a, .int b, .int c]
def Pot (H : Hp) (p : Addr) : Prop := ∃ a b c, H p = some (potO a b c)
/-- all but the pot is as it was; the pot is one still -/
structure Ex (p : Addr) (H H' : Hp) : Prop where
  keep : ∀ b o, b ≠ p → H b = some o → H' b = some o
  pot : Pot H' p
theorem Pot.upd {H : Hp} {p : Addr} {a b c : Int} : Pot (L2.upd H p (potO a b c)) p := ⟨a, b, c, upd_same⟩
theorem Ex.turn {H : Hp} {p : Addr} {a b c : Int} : Ex p H (L2.upd H p (potO a b c)) := ⟨fun b o hb e => by rw [upd_ne hb]; exact e, .upd⟩
theorem Ex.trans {p : Addr} {H H1 H2 : Hp} (a : Ex p H H1) (b : Ex p H1 H2) : Ex p H H2 := ⟨fun x o hx e => b.keep x o hx (a.keep x o hx e), b.pot⟩
theorem Ex.new {p q : Addr} {H H1 : Hp} {o : HO} (a : Ex p H H1) (hq : H1 q = none) : Ex p H (L2.upd H1 q o) := by
  obtain ⟨x, y, z, hp⟩ := a.pot
  exact ⟨fun b u hb e => by rw [upd_ne (ne_of_none (a.keep b u hb e) hq)]; exact a.keep b u hb e, x, y, z, by rw [upd_ne (ne_of_none hp hq)]; exact hp⟩
theorem Ex.same {p : Addr} {H H1 H2 : Hp} (a : Ex p H H1) (s : Same H1 H2) : Ex p H H2 := by
  obtain ⟨x, y, z, hp⟩ := a.pot
  exact ⟨fun b u hb e => s _ _ (a.keep b u hb e), x, y, z, s _ _ hp⟩
theorem Ex.refl {p : Addr} {H : Hp} (h : Pot H p) : Ex p H H := ⟨fun _ _ _ e => e, h⟩
theorem Ex.free {p q : Addr} {H H1 : Hp} (a : Ex p H H1) (hp : Pot H p) (hq : H1 q = none) : H q = none := by
  cases e : H q with
  | none => rfl
  | some o =>
    by_cases z : q = p
    · subst z
      obtain ⟨x, y, w, h⟩ := a.pot
      rw [h] at hq; cases hq
    · rw [a.keep q o z e] at hq; cases hq
/-- an object that stands, or a new one, may be changed -/
theorem Ex.put {p q : Addr} {H H1 : Hp} {o : HO} (a : Ex p H H1) (hq : H q = none) (hne : q ≠ p) : Ex p H (L2.upd H1 q o) := by
  obtain ⟨x, y, z, hp⟩ := a.pot
  exact ⟨fun b u hb e => by rw [upd_ne (ne_of_none e hq)]; exact a.keep b u hb e, x, y, z, by rw [upd_ne (Ne.symm hne)]; exact hp⟩
theorem Ex.seqL {K : PySem.W.Frag} {p : Addr} {H H' : Hp} {a : Addr} {xs : List V} (e : Ex p H H') (h : SqL K H a xs) (hne : a ≠ p) : SqL K H' a xs := by
  rcases h with (h | ⟨o, h⟩) | h
  · exact .inl (.inl (e.keep _ _ hne h))
  · exact .inl (.inr ⟨o, e.keep _ _ hne h⟩)
  · exact .inr h
theorem Ex.seqT {K : PySem.W.Frag} {p : Addr} {H H' : Hp} {a : Addr} {xs : List V} (e : Ex p H H') (h : SqT K H a xs) (hne : a ≠ p) : SqT K H' a xs := by
  rcases h with (h | ⟨o, h⟩) | h
  · exact .inl (.inl (e.keep _ _ hne h))
  · exact .inl (.inr ⟨o, e.keep _ _ hne h⟩)
  · exact .inr h
theorem atI_int {ns : List Int} {i : Int} (h0 : 0 ≤ i) (h : i < (ns.map V.int).length) : ∃ x : Int, atI (ns.map V.int) i = some (.int x) := by
  obtain ⟨j, rfl⟩ : ∃ j : Nat, i = j := ⟨i.toNat, by omega⟩
  rw [List.length_map] at h
  have hj : j < ns.length := by omega
  exact ⟨ns[j], atI_nat (by rw [List.getElem?_map, List.getElem?_eq_getElem hj]; rfl)⟩
theorem atI_some {α : Type} {xs : List α} {r : Int} (h0 : 0 ≤ r) (h1 : r < (xs.length : Int)) : ∃ v, v ∈ xs ∧ xs[r.toNat]? = some v ∧ atI xs r = some v := by
  obtain ⟨j, rfl⟩ : ∃ j : Nat, r = j := ⟨r.toNat, by omega⟩
  have hj : j < xs.length := by omega
  exact ⟨xs[j], List.getElem_mem hj, by simp [hj], atI_nat (List.getElem?_eq_getElem hj)⟩
theorem perm_erase {α : Type} : ∀ {xs : List α} {k : Nat} {y : α}, xs[k]? = some y → (y :: xs.eraseIdx k).Perm xs
  | x :: xs, 0, y, h => by
    cases (show some x = some y from h)
    exact List.Perm.refl _
  | x :: xs, k + 1, y, h => by
    have ih := perm_erase (xs := xs) (k := k) (y := y) (by simpa using h)
    exact (List.Perm.swap x y _).trans (ih.cons x)
theorem seqIx {r : Int} {n : Nat} (h0 : 0 ≤ r) (h1 : r < n) : seqIndex? r n = some r.toNat := by
  unfold seqIndex?
  simp [show ¬ r < 0 by omega, h0, h1]
theorem join_signs (cs : List Nat) : (Txt.join "" (cs.map fun c => (⟨#[c]⟩ : Str))).cps.toList = cs := by
  rw [TL.join_eq]
  show TL.tl (Str.join "" (cs.map fun c => (⟨#[c]⟩ : Str))) = cs
  rw [TL.tl_join, List.map_map]
  have h : ∀ cs : List Nat, TL.joinL [] (cs.map (TL.tl ∘ fun c => (⟨#[c]⟩ : Str))) = cs := by
    intro cs
    induction cs with
    | nil => rfl
    | cons c cs ih =>
      cases cs with
      | nil => rfl
      | cons d r =>
        show [c] ++ ([] ++ TL.joinL [] ((d :: r).map (TL.tl ∘ fun c => (⟨#[c]⟩ : Str)))) = c :: d :: r
        rw [ih]; rfl
  exact h cs
/-! ### _law_word -/
def spDip : Sp := fun vs H Q _ => ∃ p n a b c, vs = [.ref p, .int n] ∧ H p = some (potO a b c) ∧ 0 < n ∧ n < 1000000 ∧ ∀ r a' b' c', 0 ≤ r → r < n → Q (.int r) (upd H p (potO a' b' c'))
def spFilled (K : PySem.W.Frag) : Sp := fun vs H Q _ => ∃ (a : Addr) (i : Int) (ns : List Int), vs = [.ref a, .int i] ∧ SqL K H a (ns.map V.int) ∧ 0 ≤ i ∧ i < 1000 ∧ ∀ q H', H q = none → Same H H' → Pot H' q → Q (.ref q) H'
def spChoose (K : PySem.W.Frag) : Sp := fun vs H Q _ => ∃ p x, vs = [.ref p, x] ∧ Pot H p ∧ ((∃ z : Str, x = .str z ∧ 0 < z.length ∧ z.length < 100000 ∧ ∀ c a' b' c', c ∈ z.cps.toList → Q (.str ⟨#[c]⟩) (upd H p (potO a' b' c'))) ∨
  (∃ l xs, x = .ref l ∧ l ≠ p ∧ SqL K H l xs ∧ 0 < xs.length ∧ xs.length < 100000 ∧ ∀ v a' b' c', v ∈ xs → Q v (upd H p (potO a' b' c'))))
end MN
/-! the draws of the laws k25 .. k34, k86, k87 -/
namespace MN
open PySem PySem.Spec PyProof.Rows L2
section
variable {P : Program} {w : World} {K : PySem.W.Frag} {mg : Str → Option Value} {base : Heap}
abbrev N_law_pull : List Str := ["_law_urn_here", "_law_total", "_law_found", "_law_one", "_law_two"]
theorem sc_law_pull : FnScope N_law_pull ["_law_urn_here", "_law_total"] (defScope (top 61)) := ⟨rfl, rfl, rfl, by decide +kernel, rfl, by decide +kernel, by decide +kernel⟩
theorem c_law_pull (A : At K mg "_law_pull" (top 61)) (B : Blt mg) : Cal P w K mg base 1 "_law_pull" spDip := by
  refine cal_of A sc_law_pull (fun _ _ _ _ _ _ us hl => match us, hl with | [_, _], _ => rfl) (fun vs H Q E h => ?_) (fun _ cdv A outer s H vs Q E hr h => ?_)
  · obtain ⟨_, _, _, _, _, rfl, _⟩ := h; rfl
  · obtain ⟨p, n, a, b, c, rfl, hp, h0, h1, hQ⟩ := h
    refine ⟨_, (pss_cons (ps_if (pt_cmpR op_gt (pe_ix ix_list (pv 0) pe_int (fun _ _ => rfl)) pe_int (nomark _))
      (pss_cons (ps_set (i := 2) sc_law_pull.nd rfl (Or.inl rfl) (pe_op op_mod (pe_callTy call_int1 (by rfl) B.int (by decide +kernel) (pa_cons (pe_ix ix_list (pv 0) pe_int (fun _ _ => rfl)) pa_nil)) (pv 1)))
      (pss_cons (ps_asg (pe_op op_fdiv (pe_ix ix_list (pv 0) pe_int (fun _ _ => rfl)) (pv 1)) (pg_sub (pv 0) pe_int set_list))
      (pss_one (ps_ret (pv 2)))))
      pss_nil)
      (pss_cons (ps_asg (pe_op op_add (pe_ix ix_list (pv 0) pe_int (fun _ _ => rfl)) pe_int) (pg_sub (pv 0) pe_int set_list))
      (pss_cons (ps_set (i := 3) sc_law_pull.nd rfl (Or.inl rfl) (pe_op op_mod (pe_callTy call_int1 (by rfl) B.int (by decide +kernel) (pa_cons (pe_op op_add (pe_ix ix_list (pv 0) pe_int (fun _ _ => rfl)) (pe_op op_mul pe_int (pe_ix ix_list (pv 0) pe_int (fun _ _ => rfl)))) pa_nil)) pe_int))
      (pss_cons (ps_set (i := 4) sc_law_pull.nd rfl (Or.inl rfl) (pe_op op_add (pe_op op_mul (pe_op op_mod (pe_callTy call_int1 (by rfl) B.int (by decide +kernel) (pa_cons (pe_op op_mul (pv 3) (pv 3)) pa_nil)) pe_int) (pv 3)) (pe_op op_mul pe_int (pe_ix ix_list (pv 0) pe_int (fun _ _ => rfl)))))
      (pss_one (ps_ret (pe_op op_mod (pe_callTy call_int1 (by rfl) B.int (by decide +kernel) (pa_cons (pe_op op_fdiv (pe_op op_mod (pe_callTy call_int1 (by rfl) B.int (by decide +kernel) (pa_cons (pv 4) pa_nil)) pe_int) pe_int) pa_nil)) (pv 1)))))))), ?_⟩
    refine ⟨_, rfl, p, _, _, _, rfl, rfl, SqL.of hp, rfl, _, _, rfl, rfl, _, rfl, ?_⟩
    refine ite2 (fun _ => ?_) (fun _ => ?_)
    · refine ⟨_, rfl, p, _, _, _, rfl, rfl, SqL.of hp, rfl, .inl ⟨_, rfl, _, rfl, _, _, rfl, rfl, h0, ?_⟩⟩
      refine ⟨_, rfl, p, _, _, _, rfl, rfl, SqL.of hp, rfl, _, rfl, _, _, rfl, rfl, ⟨h0, by omega⟩, _, rfl, p, _, _, 0, rfl, rfl, hp, rfl, ?_⟩
      exact ⟨_, rfl, hQ _ _ _ _ (Int.emod_nonneg _ (by omega)) (Int.emod_lt_of_pos _ h0)⟩
    · refine ⟨_, rfl, p, _, _, _, rfl, rfl, SqL.of hp, rfl, _, _, rfl, rfl, _, rfl, p, _, _, 2, rfl, rfl, hp, rfl, ?_⟩
      have hp1 : upd H p (.lst (List.set [V.int a, V.int b, V.int c] 2 (.int (c + 1)))) p = some (potO a b (c + 1)) := upd_same
      refine ⟨_, rfl, p, _, _, _, rfl, rfl, SqL.of hp1, rfl, _, rfl, p, _, _, _, rfl, rfl, SqL.of hp1, rfl, _, _, rfl, rfl, .inl ⟨by decide, by decide⟩, _, _, rfl, rfl, .inl ⟨_, rfl, _, _, rfl, rfl, (show (0 : Int) < 2305843009213693951 by decide), ?_⟩⟩
      have hb : ∀ x : Int, -(2 ^ 64) < x % 2305843009213693951 ∧ x % 2305843009213693951 < 2 ^ 64 := fun x => by omega
      refine ⟨_, rfl, _, rfl, _, _, rfl, rfl, .inl (hb _), .inl ⟨_, rfl, _, _, rfl, rfl, (show (0 : Int) < 2305843009213693907 by decide), _, rfl, _, _, rfl, rfl, .inr (hb _), _, rfl, p, _, _, _, rfl, rfl, SqL.of hp1, rfl, _, _, rfl, rfl, .inl ⟨by decide, by decide⟩, _, _, rfl, rfl, ?_⟩⟩
      refine ⟨_, rfl, .inl ⟨_, rfl, _, _, rfl, rfl, (show (0 : Int) < 2305843009213693921 by decide), _, _, rfl, rfl, ⟨by decide, by decide⟩, .inl ⟨_, rfl, _, rfl, _, _, rfl, rfl, h0, ?_⟩⟩⟩
      exact hQ _ a b (c + 1) (Int.emod_nonneg _ (by omega)) (Int.emod_lt_of_pos _ h0)
abbrev N_law_urn : List Str := ["_law_script", "_law_at", "_law_cell", "_law_great", "_law_mixed"]
theorem sc_law_urn : FnScope N_law_urn ["_law_script", "_law_at"] (defScope (top 60)) := ⟨rfl, rfl, rfl, by decide +kernel, rfl, by decide +kernel, by decide +kernel⟩
theorem c_law_urn (A : At K mg "_law_urn" (top 60)) (B : Blt mg) : Cal P w K mg base 1 "_law_urn" (spFilled K) := by
  refine cal_of A sc_law_urn (fun _ _ _ _ _ _ us hl => match us, hl with | [_, _], _ => rfl) (fun vs H Q E h => ?_) (fun _ cdv A outer s H vs Q E hr h => ?_)
  · obtain ⟨_, _, _, rfl, _⟩ := h; rfl
  · obtain ⟨a, i, ns, rfl, ha, h0, h1, hQ⟩ := h
    refine ⟨_, (pss_cons (ps_set (i := 2) sc_law_urn.nd rfl (Or.inl rfl) (pe_ifExp (pt_cmpR op_lt (pv 1) (pe_callB call_len_seq (by rfl) B.len (by decide +kernel) (pa_cons (pv 0) pa_nil)) (nomark _)) (pe_ix ix_list (pv 0) (pv 1) (fun _ _ => rfl)) (pe_op op_add (pe_op op_mul pe_int (pv 1)) pe_int)))
      (pss_cons (ps_set (i := 3) sc_law_urn.nd rfl (Or.inl rfl) (pe_op op_mod (pe_callTy call_int1 (by rfl) B.int (by decide +kernel) (pa_cons (pe_callB call_abs (by rfl) B.abs (by decide +kernel) (pa_cons (pv 2) pa_nil)) pa_nil)) (pe_op op_powB (pe_op op_powB pe_int pe_int) pe_int)))
      (pss_cons (ps_set (i := 4) sc_law_urn.nd rfl (Or.inl rfl) (pe_op op_add (pe_op op_mul (pe_op op_mod (pe_callTy call_int1 (by rfl) B.int (by decide +kernel) (pa_cons (pv 3) pa_nil)) pe_int) pe_int) (pe_callTy call_int1 (by rfl) B.int (by decide +kernel) (pa_cons (pe_cmpR op_lt (pv 2) pe_int (nomark _)) pa_nil))))
      (pss_one (ps_ret (pe_lst (pa_cons (pe_callB (call_max2 rfl) (by rfl) B.max (by decide +kernel) (pa_cons pe_int (pa_cons (pe_op op_sub (pv 3) (pe_op op_powB pe_int pe_int)) pa_nil))) (pa_cons (pe_op op_mod (pe_callTy call_int1 (by rfl) B.int (by decide +kernel) (pa_cons (pe_op op_add (pe_op op_add (pe_op op_mul (pv 4) pe_int) (pe_op op_mul pe_int (pv 1))) pe_int) pa_nil)) pe_int) (pa_cons pe_int pa_nil))))))))), ?_⟩
    refine ⟨_, rfl, _, rfl, a, _, rfl, .inl ha, _, _, rfl, rfl, _, rfl, ?_⟩
    refine ite2 (fun hc => ?_) (fun hc => ?_)
    · obtain ⟨x, hx⟩ := atI_int h0 (of_decide_eq_true hc)
      refine ⟨_, rfl, _, rfl, a, _, _, _, rfl, rfl, ha, hx, ?_⟩
      refine ⟨_, rfl, _, rfl, .inl ⟨_, rfl, _, _, rfl, rfl, ⟨by decide, by decide +kernel⟩, _, _, rfl, rfl, ⟨by decide, by decide +kernel⟩, _, _, rfl, rfl, ?_, ?_⟩⟩
      · show (0 : Int) < (10 ^ 60) ^ 8
        decide
      refine ⟨_, rfl, .inl ⟨_, rfl, _, _, rfl, rfl, (show (0 : Int) < 2305843009213693907 by decide), _, _, rfl, rfl, .inr ⟨by decide, by decide⟩, _, rfl, _, _, rfl, rfl, .inr ⟨_, rfl, _, _, rfl, rfl, ?_⟩⟩⟩
      refine ⟨_, rfl, _, _, rfl, rfl, ⟨by decide, by decide +kernel⟩, _, _, rfl, rfl, _, _, rfl, _, rfl, _, _, rfl, rfl, .inr ⟨by decide, by decide⟩, _, rfl, _, _, rfl, rfl, .inl ⟨by decide, by decide⟩, _, _, rfl, rfl, _, _, rfl, rfl, .inl ⟨_, rfl, _, _, rfl, rfl, (show (0 : Int) < 2305843009213693951 by decide), (by show 3 ≤ sizeLine; decide), fun q hq => ?_⟩⟩
      exact hQ q _ hq (same_new hq) ⟨_, _, _, upd_same⟩
    · refine ⟨_, rfl, _, _, rfl, rfl, .inl ⟨by decide, by decide⟩, _, _, rfl, rfl, ?_⟩
      refine ⟨_, rfl, _, rfl, .inl ⟨_, rfl, _, _, rfl, rfl, ⟨by decide, by decide +kernel⟩, _, _, rfl, rfl, ⟨by decide, by decide +kernel⟩, _, _, rfl, rfl, ?_, ?_⟩⟩
      · show (0 : Int) < (10 ^ 60) ^ 8
        decide
      refine ⟨_, rfl, .inl ⟨_, rfl, _, _, rfl, rfl, (show (0 : Int) < 2305843009213693907 by decide), _, _, rfl, rfl, .inr ⟨by decide, by decide⟩, _, rfl, _, _, rfl, rfl, .inr ⟨_, rfl, _, _, rfl, rfl, ?_⟩⟩⟩
      refine ⟨_, rfl, _, _, rfl, rfl, ⟨by decide, by decide +kernel⟩, _, _, rfl, rfl, _, _, rfl, _, rfl, _, _, rfl, rfl, .inr ⟨by decide, by decide⟩, _, rfl, _, _, rfl, rfl, .inl ⟨by decide, by decide⟩, _, _, rfl, rfl, _, _, rfl, rfl, .inl ⟨_, rfl, _, _, rfl, rfl, (show (0 : Int) < 2305843009213693951 by decide), (by show 3 ≤ sizeLine; decide), fun q hq => ?_⟩⟩
      exact hQ q _ hq (same_new hq) ⟨_, _, _, upd_same⟩
/-- one of a list's items -/
def spFrom (K : PySem.W.Frag) : Sp := fun vs H Q _ => ∃ p l xs, vs = [.ref p, .ref l] ∧ Pot H p ∧ l ≠ p ∧ SqL K H l xs ∧ 0 < xs.length ∧ xs.length < 100000 ∧ ∀ v a' b' c', v ∈ xs → Q v (upd H p (potO a' b' c'))
abbrev N_law_from : List Str := ["_law_urn_here", "_law_items"]
theorem sc_law_from : FnScope N_law_from ["_law_urn_here", "_law_items"] (defScope (top 62)) := ⟨rfl, rfl, rfl, by decide +kernel, rfl, by decide +kernel, by decide +kernel⟩
theorem c_law_from (A : At K mg "_law_from" (top 62)) (B : Blt mg) (c_law_pull : Cal P w K mg base 1 "_law_pull" spDip) : Cal P w K mg base 2 "_law_from" (spFrom K) := by
  refine cal_of A sc_law_from (fun _ _ _ _ _ _ us hl => match us, hl with | [_, _], _ => rfl) (fun vs H Q E h => ?_) (fun _ cdv A outer s H vs Q E hr h => ?_)
  · obtain ⟨_, _, _, rfl, _⟩ := h; rfl
  · obtain ⟨p, l, xs, rfl, ⟨a, b, c, hp⟩, hlp, hl, h0, h1, hQ⟩ := h
    refine ⟨_, (pss_one (ps_ret (pe_ix ix_list (pv 1) (pe_c c_law_pull hr (by decide) (by rfl) (pa_cons (pv 0) (pa_cons (pe_callB call_len_seq (by rfl) B.len (by decide +kernel) (pa_cons (pv 1) pa_nil)) pa_nil))) (fun _ _ => rfl)))), ?_⟩
    refine ⟨_, rfl, _, rfl, _, rfl, l, xs, rfl, .inl hl, p, _, a, b, c, rfl, hp, by omega, by omega, fun r a' b' c' r0 r1 => ?_⟩
    obtain ⟨v, hv, -, ha⟩ := atI_some (xs := xs) r0 r1
    exact ⟨l, _, _, v, rfl, rfl, Ex.turn.seqL hl hlp, ha, hQ v a' b' c' hv⟩
end
end MN
/-! sorted(set(xs)), sum of truths, len of an instance with slots -/
namespace MN
open PySem PySem.Spec PyProof.Rows L2
section
variable {P : Program} {w : World} {A : Around} {E : Value → Shared → Prop} {s : Shared}
set_option maxRecDepth 100000 in
set_option maxHeartbeats 3200000 in
theorem set_of_list {l : Addr} {items : Array Value} (ns : List Int) {Q : Value → Shared → Prop} (hh : A.handled = none) (hl : s.heap.IsList l items) (hit : IntsAre items.toList ns) (hb : ns.length + 1 < scanBound)
    (h : ∀ (h' : Heap) (tk c : Nat), SetR w h' s.heap.objs.size (fun j => decide (j ∈ ns)) c → c ≤ ns.length → (∀ b o, s.heap.get? b = some o → h'.get? b = some o) → Q (.ref s.heap.objs.size) { s with heap := h', toks := tk }) :
    wpAny (model P w) A (call (.type "set") [.ref l]) Q E s := by
  have hisz : items.size = ns.length := by
    have q := IntsAre.length hit
    rw [Array.length_toList] at q
    exact q
  obtain ⟨c, tl, hmro⟩ := F.called_set.mro
  have hmade := F.called_set.made
  have hsub := F.called_set.sub
  refine wpAny_call (codeAny_of_tree ?_)
  show wpAny _ _ (callAny (.type "set") _) _ _ _
  refine wpAny_pure ⟨Code.quiet_builtin _ (by decide +kernel), codeAny_builtin F.entry_type_call ?_⟩
  rw [Around.under_plain (weight_type_call_type "set" [.ref l] []) rfl]
  have h1 := F.called_set.notType
  have h2 := F.called_set.canCreate
  have hct := F.typeCall_set_1 (.ref l)
  repeat (any_goals (first | assumption | wp_step))

  refine codeAny_mono (code_set_led1 (.ref l) (E := E) (Q₁ := fun obj s₁ => obj = .ref s.heap.objs.size ∧ s₁ = { s with heap := s.heap.push { cls := .type "set", dict := none, data := .set #[] 0 (.fresh 0 0 (!w.params.followText "set-order")) } }) ⟨rfl, rfl⟩) fun r s₁ hr => ?_
  cases r with
  | error e => exact hr
  | ok fl =>
    cases fl with
    | ret obj =>
      obtain ⟨rfl, rfl⟩ := hr
      have hS : (s.heap.push { cls := .type "set", dict := none, data := .set #[] 0 (.fresh 0 0 (!w.params.followText "set-order")) }).get? s.heap.objs.size = some { cls := .type "set", dict := none, data := .set #[] 0 (.fresh 0 0 (!w.params.followText "set-order")) } := Heap.get?_push_size _ rfl
      have hT : Shared.TypeIs { s with heap := s.heap.push { cls := .type "set", dict := none, data := .set #[] 0 (.fresh 0 0 (!w.params.followText "set-order")) } } (.ref s.heap.objs.size) "set" := ⟨_, hS, rfl⟩
      have hli := F.called_set.init.lookup
      have hbi := F.called_set.init.bind (.ref s.heap.objs.size)
      repeat (any_goals (first | assumption | wp_step))

      refine codeAny_mono (codeAny_call_builtin (R := wants (fun r s₂ => r = .none ∧ ∃ h' tk c, s₂ = { s with heap := h', toks := tk } ∧ SetR w h' s.heap.objs.size (fun j => decide (j ∈ ns)) c ∧ c ≤ ns.length ∧
          (∀ b o, s.heap.get? b = some o → h'.get? b = some o)) E) F.called_set.init.plain F.entry_set_init (check_set_init_1 hT ?_)) fun r₂ s₂ hr₂ => ?_
      · obtain ⟨ol, hol, hcl, nl, hdl⟩ := hl
        obtain ⟨ocls, odict, odata, oslots⟩ := ol
        simp only at hcl hdl
        subst hcl; subst hdl
        have hol' : (s.heap.push { cls := .type "set", dict := none, data := .set #[] 0 (.fresh 0 0 (!w.params.followText "set-order")) }).get? l = some { cls := .type "list", dict := odict, data := .seq items nl, slots := oslots } := Heap.get?_push_of_some _ hol
        have hsls := F.sub_list_set
        have hslf := F.sub_list_frozenset
        have hne : (Value.type "list" == Value.type "dict") = false := by decide
        have hl1 : (s.heap.push { cls := .type "set", dict := none, data := .set #[] 0 (.fresh 0 0 (!w.params.followText "set-order")) }).IsList l items := ⟨_, hol', rfl, nl, rfl⟩
        unfold Builtin.«set.__init__» noKeywords Builtin.Frozenset.updateFrom
        generalize hPI : pyIter = PI
        wp_walk
        subst hPI

        refine wpAny_pyIter_list hl1 ?_
        refine wpAny_bind (wpAny_runValue ?_)
        have hlS : l < s.heap.objs.size := Heap.lt_size hol
        have hh3 : A.in1.in1.in1.handled = none := by simp [hh]
        have hz1 : (s.heap.push { cls := .type "set", dict := none, data := .set #[] 0 (.fresh 0 0 (!w.params.followText "set-order")) }).objs.size = s.heap.objs.size + 1 := Heap.size_push ..
        have hneI : l ≠ (s.heap.push { cls := .type "set", dict := none, data := .set #[] 0 (.fresh 0 0 (!w.params.followText "set-order")) }).objs.size := by
          rw [Heap.size_push]; exact Nat.ne_of_lt (Nat.lt_succ_of_lt hlS)
        have hSf : s.heap.objs.size ∉ [(s.heap.push { cls := .type "set", dict := none, data := .set #[] 0 (.fresh 0 0 (!w.params.followText "set-order")) }).objs.size, l] := by
          rw [Heap.size_push]; simp only [List.mem_cons, List.mem_singleton, List.not_mem_nil, or_false, not_or]
          exact ⟨Nat.ne_of_lt (Nat.lt_succ_self _), Nat.ne_of_gt hlS⟩
        have hval : ∀ (i : Nat) (v : Value), items[i]? = some v → ∃ k t, ns[i]? = some k ∧ v = .int k t := fun i v hv => by
          have hi : i < ns.length := by rw [← hisz]; exact (Array.getElem?_eq_some_iff.mp hv).1
          obtain ⟨t, e⟩ := PyProof.Rows.IntsAre.int_at hit i v (by rw [Array.getElem?_toList]; exact hv)
          refine ⟨ns[i], t, List.getElem?_eq_getElem hi, ?_⟩
          rw [e, List.getD_eq_getElem?_getD, List.getElem?_eq_getElem hi] <;> rfl
        refine set_update_ints ((Walks.list hh3 _ l hneI items).toS) s.heap.objs.size
          hSf ns hisz hb hval (items.size - 0) 0 _ (by omega) (Nat.zero_le _)
          ⟨⟨_, Heap.get?_push_size _ rfl, rfl, rfl⟩, (hl1.push _)⟩ ?hS0 ?hR
        case hS0 =>
          have hget : ((s.heap.push { cls := .type "set", dict := none, data := .set #[] 0 (.fresh 0 0 (!w.params.followText "set-order")) }).push { cls := .type "list_iterator", data := .fields #[.ref l, .int 0 0] }).get? s.heap.objs.size
              = some { cls := .type "set", dict := none, data := .set #[] 0 (.fresh 0 0 (!w.params.followText "set-order")) } := Heap.get?_push_of_some _ hS
          exact ⟨0, Nat.le_refl 0, setR_new_at hget⟩
        case hR =>
          intro s' c' hm hc' hS'
          obtain ⟨h', g2, d', tk', os'⟩ := s'
          have eg : g2 = s.gens := hm.gens
          have ed : d' = s.drawn := hm.drawn
          have eo : os' = s.os := hm.os
          subst eg; subst ed; subst eo
          show wpAny _ _ _ _ _ _
          refine wpAny_pure ?_
          show wpAny _ _ (ret Value.none) _ _ _
          rw [hisz] at hc'
          refine wpAny_pure ⟨rfl, h', tk', c', rfl, hS', hc', fun b o e => ?_⟩
          have hb0 : b < s.heap.objs.size := Heap.lt_size e
          have hb1 : b ≠ s.heap.objs.size := Nat.ne_of_lt hb0
          have hb2 : b ≠ (s.heap.push { cls := .type "set", dict := none, data := .set #[] 0 (.fresh 0 0 (!w.params.followText "set-order")) }).objs.size := by
            rw [Heap.size_push]; exact Nat.ne_of_lt (Nat.lt_succ_of_lt hb0)
          exact hm.heap b o (by simp only [List.mem_cons, List.mem_singleton, List.not_mem_nil, or_false, not_or]; exact ⟨hb1, hb2⟩) (Heap.get?_push_of_some _ (Heap.get?_push_of_some _ e))

      · cases r₂ with
        | error e => exact hr₂
        | ok fl₂ =>
          cases fl₂ with
          | ret r =>
            obtain ⟨rfl, h', tk, c', rfl, hS', hc', hk'⟩ := hr₂
            repeat (any_goals (first | assumption | wp_step))
            exact h _ _ _ hS' hc' hk'
          | _ => exact hr₂.elim
    | _ => exact hr.elim

end
section
variable {prog : Program} {w : World} {A : Around} {R : Result → Shared → Prop} {I : Addr} {fp wr : List Addr} {n : Nat} {P : Nat → Value → Prop} {St : Nat → Heap → Prop}
theorem preSum_le (val : Nat → Int) (hb : ∀ i, 0 ≤ val i ∧ val i ≤ 1) : ∀ i, 0 ≤ preSum val i ∧ preSum val i ≤ i
  | 0 => ⟨Int.le_refl _, Int.le_refl _⟩
  | i + 1 => by
    have h1 := preSum_le val hb i
    have h2 := hb i
    have e : preSum val (i + 1) = preSum val i + val i := rfl
    rw [e]
    omega
theorem sum_loopB (W : Walks prog w A.in1 I fp wr n P St) (val : Nat → Int) (hn : n ≤ 1000000) (hval : ∀ i v, P i v → ∃ b : Bool, v = .bool b ∧ val i = if b = true then 1 else 0) (hb : ∀ i, 0 ≤ val i ∧ val i ≤ 1) (S : Addr) (hSf : S ∉ fp) :
    ∀ (k i : Nat) (s : Shared) (tA : Tok) (c : Nat), n - i = k → i ≤ n → St i s.heap → s.heap.get? S = some { cls := .type "list", dict := none, data := .seq #[.int (preSum val i) tA] c, slots := #[] } →
    (∀ h' tk t', (∀ b o, b ∉ wr → b ≠ S → s.heap.get? b = some o → h'.get? b = some o) → R (.ok (.ret (.int (preSum val n) t'))) { s with heap := h', toks := tk }) →
    codeAny (model prog w) A (.builtin "sum.loop" ⟨[.ref I, .ref S, rawInt 0, rawInt 0], []⟩) R s := by
  have hSw : S ∉ wr := fun h => hSf (W.sub _ h)
  intro k
  induction k with
  | zero =>
    intro i s tA c hk hi hst hS hR
    have hin : i = n := by omega
    subst hin
    refine codeAny_builtin F.entry_sum_loop ?_
    rw [Around.under_plainId F.plain_sum_loop _]
    show wpAny _ A.in1 (seqItems? (.ref S) >>= _) _ _ s
    refine wpAny_bind (wpAny_seqItems hS rfl ?_)
    show wpAny _ A.in1 (tryCatch (pyNext (.ref I)) _ >>= _) _ _ s
    refine wpAny_bind (wpAny_tryCatch (W.done s _ _ hst fun h' tk hk' => ?_))
    exact wpAny_pure (hR h' tk tA fun b o hbw _ e => hk' b o hbw e)
  | succ k ih =>
    intro i s tA c hk hi hst hS hR
    have hlt : i < n := by omega
    refine codeAny_builtin F.entry_sum_loop ?_
    rw [Around.under_plainId F.plain_sum_loop _]
    show wpAny _ A.in1 (seqItems? (.ref S) >>= _) _ _ s
    refine wpAny_bind (wpAny_seqItems hS rfl ?_)
    show wpAny _ A.in1 (tryCatch (pyNext (.ref I)) _ >>= _) _ _ s
    refine wpAny_bind (wpAny_tryCatch (W.item i s _ _ hlt hst fun v h' tk hP hst' hk' => ?_))
    obtain ⟨b, rfl, hvb⟩ := hval i v hP
    have hS' := hk' S _ hSw hS
    have p1 := preSum_le val hb i
    have p2 := hb i
    show wpAny _ A.in1 (if (_ : Bool) = true then (mkInt (preSum val i + (if b = true then 1 else 0)) >>= _) else _) _ _ _
    rw [← hvb]
    split
    case isFalse hf =>
      refine absurd ?_ hf
      show ((decide (-(2 ^ 63) ≤ val i) && decide (val i < 2 ^ 63)) && (decide (-(2 ^ 63) ≤ preSum val i + val i) && decide (preSum val i + val i < 2 ^ 63))) = true
      simp only [Bool.and_eq_true, decide_eq_true_eq]
      omega
    refine wpAny_bind (wpAny_mkInt ?_)
    show wpAny _ A.in1 (updateSeq S (fun _ => #[.int (preSum val i + val i) tk]) >>= _) _ _ _
    refine wpAny_bind ?_
    refine wpAny_updateSeq hS' rfl (wpAny_pure ⟨plainId_quiet F.plain_sum_loop _, ih (i + 1) _ tk _ (by omega) hlt (W.frame _ _ _ hst' fun b hb o e => ?_) (Heap.get?_update_self _ hS' rfl) fun h'' tk'' t'' hk'' => ?_⟩)
    · exact (Heap.get?_update_other _ _ (fun h : S = b => hSf (by rw [h]; exact hb))).trans e
    · exact hR h'' tk'' t'' fun b o hbw hbS e => hk'' b o hbw hbS ((Heap.get?_update_other _ _ (Ne.symm hbS)).trans (hk' b o hbw e))
end
section
variable {prog : Program} {w : World} {A : Around} {E : Value → Shared → Prop} {s : Shared}
theorem call_sum_truths {x : Value} {Q : Value → Shared → Prop}
    (h : wpAny (model prog w) A.in1 (pyIter x) (fun it s₂ => ∃ I fp wr n P St val, it = .ref I ∧ Walks prog w A.in1 I fp wr n P St ∧ St 0 s₂.heap ∧ (∀ b ∈ fp, b < s₂.heap.objs.size) ∧
      n ≤ 1000000 ∧ (∀ i v, P i v → ∃ b : Bool, v = .bool b ∧ val i = if b = true then 1 else 0) ∧ (∀ i, 0 ≤ val i ∧ val i ≤ 1) ∧
      ∀ h' tk t', (∀ b o, b ∉ wr → s₂.heap.get? b = some o → h'.get? b = some o) → Q (.int (preSum val n) t') { s₂ with heap := h', toks := tk }) E s) :
    wpAny (model prog w) A (call (.builtin "sum") [x]) Q E s := by
  refine call_function_tree F.kind_sum F.plain_sum F.entry_sum (F.args_sum1 _) ?_
  unfold Builtin.«sum»
  simp only [List.length_cons, List.length_nil]
  rw [if_neg (by decide)]
  refine wpAny_bind (wpAny_of_eq (show Builtin.Builtins.bindParams "sum" ["start"] 0 { } = pure [none] from rfl) ?_)
  refine wpAny_bind (wpAny_mono h (fun it s₂ h₂ => ?_) fun _ _ e => e)
  obtain ⟨I, fp, wr, n, P, St, val, rfl, W, hst, hfp, hn, hval, hb, hQ⟩ := h₂
  refine wpAny_bind (wpAny_mkInt ?_)
  refine wpAny_bind (wpAny_pure ?_)
  simp only [List.forIn_cons, List.forIn_nil]
  refine wpAny_bind (wpAny_bind (wpAny_bind (wpAny_isInstance (T := "int") (b := false) (typeIs_int _ _ _) PySem.sub_int_str ?_)))
  simp only [Bool.false_eq_true, if_false]
  refine wpAny_pure (wpAny_bind (wpAny_bind (wpAny_isInstance (T := "int") (b := false) (typeIs_int _ _ _) PySem.sub_int_bytes ?_)))
  simp only [Bool.false_eq_true, if_false]
  refine wpAny_pure (wpAny_bind (wpAny_bind (wpAny_isInstance (T := "int") (b := false) (typeIs_int _ _ _) PySem.sub_int_bytearray ?_)))
  simp only [Bool.false_eq_true, if_false]
  refine wpAny_pure (wpAny_pure ?_)
  refine wpAny_bind (wpAny_newObj_type ?_)
  have hSf : s₂.heap.objs.size ∉ fp := fun hm => Nat.lt_irrefl _ (hfp _ hm)
  refine wpAny_pure ⟨plainId_quiet F.plain_sum_loop _, sum_loopB W val hn hval hb s₂.heap.objs.size hSf n 0 _ s₂.toks 0 rfl (Nat.zero_le _)
    (W.frame _ _ _ hst fun b _ o e => Heap.get?_push_of_some _ e) (Heap.get?_push_size _ rfl) fun h' tk t' hk => ?_⟩
  exact hQ h' tk t' fun b o hbw e => hk b o hbw (Nat.ne_of_lt (Heap.lt_size e)) (Heap.get?_push_of_some _ e)
end
section
variable {X : Cx}
theorem nodup_sub {α : Type} [DecidableEq α] : ∀ {l l' : List α}, l.Nodup → (∀ x ∈ l, x ∈ l') → l.length ≤ l'.length
  | [], _, _, _ => Nat.zero_le _
  | a :: l, l', h, hs => by
    have h' := List.nodup_cons.mp h
    have ha := hs a List.mem_cons_self
    have ih := nodup_sub (l := l) (l' := l'.erase a) h'.2 fun x hx => by
      have n : x ≠ a := fun z => h'.1 (z ▸ hx)
      exact (List.mem_erase_of_ne n).mpr (hs x (List.mem_cons_of_mem _ hx))
    have hp := List.length_pos_of_mem ha
    rw [List.length_erase_of_mem ha] at ih
    rw [List.length_cons]
    omega
/-- set(xs) of a list of ints -/
def rSetL (K : PySem.W.Frag) (w : World) : List V → Hp → VK → Prop := fun xs H Q => ∃ (l : Addr) (ns : List Int), xs = [V.ref l] ∧ SqL K H l (ns.map V.int) ∧ ns.length ≤ 1000 ∧ ∀ p c, H p = none → c ≤ ns.length → (∀ B : Nat, (∀ n ∈ ns, 0 ≤ n ∧ n < B) → c ≤ B) → Q (.ref p) (upd H p (SetO w p (fun j => decide (j ∈ ns)) c))
theorem setR_le {w : World} {h : Heap} {a : Addr} {ns : List Int} {c : Nat} (R : SetR w h a (fun j => decide (j ∈ ns)) c) {B : Nat} (hb : ∀ n ∈ ns, 0 ≤ n ∧ n < B) : c ≤ B := by
  obtain ⟨o, es, ep, t, ho, hx, hd, g, nd, hm, _, hf, hn, _⟩ := R
  have q := nodup_sub (l' := (List.range B).map fun (i : Nat) => (i : Int)) nd fun x hx => by
    have hx' : x ∈ ns := of_decide_eq_true ((hm x).mpr hx)
    have := hb x hx'
    exact List.mem_map.mpr ⟨x.toNat, List.mem_range.mpr (by omega), by omega⟩
  rw [List.length_map, List.length_map, List.length_range, Array.length_toList, hn] at q
  exact q
theorem cr_setL (hc : X.calm = true) : CallR X (.type "set") (rSetL X.K X.w) := by
  intro pins s σ H xs us Q I r h
  obtain ⟨l, ns, rfl, hs, hl, q⟩ := h
  obtain ⟨its, rv, pl, _⟩ := I.list hs
  rw [Vals.ref1 r]
  refine set_of_list ns (I.ok.hd hc) pl.isList (by simpa using rv.ints) (by unfold scanBound; omega) fun h' tk c R hcl hk => ?_
  exact ⟨.ref _, _, I.laid hk (Nat.le_refl _) (setO_new R), rfl, q _ c (I.hok.fresh (Nat.le_refl _)) hcl fun B hb => setR_le R hb⟩
/-- len(x) of an instance with slots whose class has an own __len__ -/
def rLenOwn (C : Addr) (sp : Sp) (E : XK) : List V → Hp → VK → Prop := fun xs H Q => ∃ a dx vs, xs = [V.ref a] ∧ SlX.Slt H a C dx vs ∧ sp [.ref a] H (fun z H' => ∃ n : Int, z = .int n ∧ 0 ≤ n ∧ n < 2 ^ 63 ∧ Q (.int n) H') E
end
section
variable {prog : Program} {w : World} {A : Around} {E : Value → Shared → Prop} {s : Shared} {K : PySem.W.Frag} {x C f : Addr} {ox : Obj} {od : Option Obj}
theorem len_own1 {Q : Value → Shared → Prop} (X : K.In s.heap) (I : PySem.W.InstAt s.heap x ox C od) (hs : PySem.W.findIn K (.ref C) "__len__" = some (some (.ref f))) (hf : PySem.W.isFn K (.ref f) = true)
    (h : wpAny (model prog w) A.in1 (call (.ref f) [.ref x]) (PySem.W.LenBack Q) E s) : wpAny (model prog w) A (call (.builtin "len") [.ref x]) Q E s := by
  refine Calls.call_function_entry kind_len plain_len entry_len (args_len1 _) ?_
  unfold Builtin.«len»
  refine wpAny_bind (m := oneArg "len" _) (wpAny_pure ?_)
  refine wpAny_bind (m := callSpecial? (.ref x) (Str.ofString "__len__")) (PySem.W.special_fn X I hs (beq_iff_eq.mp hf) (wpAny_mono h (fun r s' hr => ?_) fun _ _ y => y))
  cases r <;> first | exact hr.elim | skip
  rename_i n u
  obtain ⟨⟨h0, h1⟩, hq⟩ := hr
  refine wpAny_bind (wpAny_holding (wpAny_pure ?_))
  refine wpAny_bind (wpAny_letGo ?_)
  show wpAny _ _ (if n < 0 then _ else _) _ _ _
  rw [if_neg (by omega)]
  show wpAny _ _ (if n ≥ 2 ^ 63 then _ else _) _ _ _
  rw [if_neg (by omega)]
  exact wpAny_bind (wpAny_mkInt (wpAny_pure ⟨_, rfl, hq⟩))
end
section
variable {X : Cx}
def countT (bs : List Bool) : Int := (bs.map fun b => if b = true then (1 : Int) else 0).sum
theorem preSum_list (vs : List Int) : ∀ n, n ≤ vs.length → preSum (fun i => vs.getD i 0) n = (vs.take n).sum
  | 0, _ => by rw [List.take_zero]; rfl
  | n + 1, h => by
    have e : preSum (fun i => vs.getD i 0) (n + 1) = preSum (fun i => vs.getD i 0) n + vs.getD n 0 := rfl
    rw [e, preSum_list vs n (by omega), List.take_add_one, List.sum_append]
    have hn : n < vs.length := by omega
    simp [List.getD_eq_getElem?_getD, hn]
/-- sum(xs) of truths -/
def rSumB (K : PySem.W.Frag) : List V → Hp → VK → Prop := fun vs H Q => ∃ (a : Addr) (bs : List Bool), vs = [V.ref a] ∧ SqL K H a (bs.map V.bl) ∧ bs.length ≤ 1000000 ∧ Q (.int (countT bs)) H
theorem vals_bl : ∀ {bs : List Bool} {us : List Value}, Vals (bs.map V.bl) us → us = bs.map Value.bool
  | [], _, h => by cases h; rfl
  | b :: bs, _, h => by
    cases h with
    | cons r t =>
      cases (show _ = Value.bool b from r)
      rw [vals_bl t]
      rfl
theorem cr_sumB (hc : X.calm = true) : CallR X (.builtin "sum") (rSumB X.K) := by
  intro pins s σ H vs us Q I r h
  obtain ⟨a, bs, rfl, hs, hz, q⟩ := h
  obtain ⟨its, rv, hl, _⟩ := I.list hs
  rw [Vals.ref1 r]
  have hb := vals_bl rv
  have hlt : a < s.heap.objs.size := by obtain ⟨_, e, _⟩ := hl.isList; exact Heap.lt_size e
  refine call_sum_truths (wpAny_pyIter_list hl.isList ?_)
  refine ⟨_, _, _, _, _, _, fun i => (bs.map fun b => if b = true then (1 : Int) else 0).getD i 0, rfl, Walks.list (A := X.A.in1) (I.ok.hd hc) _ a (Nat.ne_of_lt hlt) its.toArray, ⟨⟨_, Heap.get?_push_size _ rfl, rfl, rfl⟩, hl.isList.push _⟩, fun b hb' => ?_, ?_, fun i v hv => ?_, fun i => ?_, fun h' tk t' hk => ?_⟩
  · rw [Heap.size_push]
    rcases List.mem_cons.mp hb' with rfl | hb'
    · exact Nat.lt_succ_self _
    · rcases List.mem_cons.mp hb' with rfl | hb'
      · exact Nat.lt_succ_of_lt hlt
      · cases hb'
  · rw [hb]; simpa using hz
  · have hv' : its[i]? = some v := by simpa using hv
    rw [hb, List.getElem?_map] at hv'
    obtain ⟨b, h1, rfl⟩ := Option.map_eq_some_iff.mp hv'
    exact ⟨b, rfl, by simp [List.getD_eq_getElem?_getD, h1]⟩
  · show 0 ≤ (bs.map fun b => if b = true then (1 : Int) else 0).getD i 0 ∧ (bs.map fun b => if b = true then (1 : Int) else 0).getD i 0 ≤ 1
    rw [List.getD_eq_getElem?_getD, List.getElem?_map]
    cases bs[i]? with
    | none => exact ⟨by decide, by decide⟩
    | some b => cases b <;> exact ⟨by decide, by decide⟩
  · have e : preSum (fun i => (bs.map fun b => if b = true then (1 : Int) else 0).getD i 0) its.toArray.size = countT bs := by
      have hsz : its.toArray.size = (bs.map fun b => if b = true then (1 : Int) else 0).length := by rw [hb]; simp
      rw [hsz, preSum_list _ _ (Nat.le_refl _), List.take_length]
      rfl
    rw [e]
    refine ⟨.int _, H, I.kept fun b o eo => hk b o (fun hmem => ?_) (Heap.get?_push_of_some _ eo), ⟨_, rfl⟩, q⟩
    rcases List.mem_cons.mp hmem with e1 | hmem
    · exact absurd (e1 ▸ Heap.lt_size eo) (Nat.lt_irrefl _)
    · cases hmem
theorem call_lenOwn {CX : CXT} {n : Nat} {C g : Addr} {sp : Sp} {E : XK} (hs : PySem.W.findIn X.K (.ref C) "__len__" = some (some (.ref g))) (hf : PySem.W.isFn X.K (.ref g) = true) (F : FnR X.prog X.w X.K X.mg X.base CX n g sp) (hr : Room (n + 1) X.A) (hx : Passes CX X E) : CallR X (.builtin "len") (rLenOwn C sp E) := by
  intro pins s σ H xs us Q I r h
  obtain ⟨a, dx, vs, rfl, hsl, q⟩ := h
  obtain ⟨u, rfl, ru⟩ := r.one
  cases (show u = Value.ref a from ru)
  obtain ⟨sl, od, _, J, _⟩ := SlX.slt_inst I hsl
  refine len_own1 I.kIn J hs hf (wpAny_mono (wpAny_call (SlX.run_at (us := [.ref a]) (ws := [.ref a]) F (Room.in1 hr) I.env0.in1 hx I (.cons rfl .nil) q)) (fun w s' z => ?_) fun _ _ x => x)
  obtain ⟨z', H', I', rz, i, ei, h0, h1, qz⟩ := z
  subst ei
  obtain ⟨t, e⟩ := (show ∃ t, w = Value.int i t from rz)
  cases e
  exact ⟨⟨h0, h1⟩, .int i, H', I'.tok _, ⟨_, rfl⟩, qz⟩
end
end MN
/-! moves of states: dicts from signs to numbers of states, in a list; useful states -/
namespace MN
open PySem PySem.Spec PyProof.Rows L2
abbrev Mv : Type := List (Str × Nat)
def mvK (m : Mv) : List (Key × V) := m.map fun q => (.inr q.1, .int (q.2 : Int))
def DctsAt (H : Hp) (ds : List Addr) (ms : List Mv) : Prop := ds.length = ms.length ∧ ∀ (i : Nat) d m, ds[i]? = some d → ms[i]? = some m → H d = some (.dK (mvK m))
def MovesAt (K : PySem.W.Frag) (H : Hp) (M : Addr) (ds : List Addr) (ms : List Mv) : Prop := SqL K H M (ds.map V.ref) ∧ DctsAt H ds ms
theorem DctsAt.same {H H' : Hp} {ds : List Addr} {ms : List Mv} (h : DctsAt H ds ms) (e : Same H H') : DctsAt H' ds ms := ⟨h.1, fun i d m h1 h2 => e _ _ (h.2 i d m h1 h2)⟩
theorem MovesAt.same {K : PySem.W.Frag} {H H' : Hp} {M : Addr} {ds : List Addr} {ms : List Mv} (h : MovesAt K H M ds ms) (e : Same H H') : MovesAt K H' M ds ms := ⟨Same.seq e h.1, h.2.same e⟩
/-! ### plain: one round, rounds -/
def stepU (ms : List Mv) (fs : List Bool) : List Bool := (fs.zip ms).map fun p => p.1 || p.2.any fun q => fs.getD q.2 false
def stepN (ms : List Mv) : Nat → List Bool → List Bool
  | 0, fs => fs
  | n + 1, fs => stepU ms (stepN ms n fs)
theorem stepU_length {ms : List Mv} {fs : List Bool} (h : fs.length = ms.length) : (stepU ms fs).length = fs.length := by
  simp [stepU, h]
theorem stepN_length {ms : List Mv} {fs : List Bool} (h : fs.length = ms.length) : ∀ n, (stepN ms n fs).length = fs.length
  | 0 => rfl
  | n + 1 => by rw [stepN, stepU_length ((stepN_length h n).trans h), stepN_length h n]
/-- no truth lost -/
def leB (fs gs : List Bool) : Prop := ∀ i : Nat, fs[i]? = some true → gs[i]? = some true
theorem stepU_le {ms : List Mv} {fs : List Bool} (h : fs.length = ms.length) : leB fs (stepU ms fs) := fun i hi => by
  have hi' : i < fs.length := (List.getElem?_eq_some_iff.mp hi).1
  have hm : i < ms.length := by omega
  have e : (fs.zip ms)[i]? = some (true, ms[i]) := by
    rw [List.getElem?_zip_eq_some]
    exact ⟨hi, List.getElem?_eq_getElem hm⟩
  simp [stepU, e]
theorem countT_cons (b : Bool) (bs : List Bool) : countT (b :: bs) = (if b = true then 1 else 0) + countT bs := by
  simp [countT]
theorem countT_nonneg : ∀ bs : List Bool, 0 ≤ countT bs ∧ countT bs ≤ bs.length
  | [] => ⟨Int.le_refl _, Int.le_refl _⟩
  | b :: bs => by
    have := countT_nonneg bs
    rw [countT_cons, List.length_cons]
    cases b <;> simp <;> omega
theorem leB_count : ∀ {fs gs : List Bool}, fs.length = gs.length → leB fs gs → countT fs ≤ countT gs ∧ (countT gs ≤ countT fs → fs = gs)
  | [], [], _, _ => ⟨Int.le_refl _, fun _ => rfl⟩
  | [], _ :: _, h, _ => by cases h
  | _ :: _, [], h, _ => by cases h
  | f :: fs, g :: gs, h, hl => by
    have ih := leB_count (fs := fs) (gs := gs) (by simpa using h) fun i hi => by simpa using hl (i + 1) (by simpa using hi)
    have h0 : f = true → g = true := fun hf => by simpa using hl 0 (by simp [hf])
    rw [countT_cons, countT_cons]
    cases f with
    | false =>
      cases g with
      | false => refine ⟨by simp; omega, fun h => ?_⟩; rw [ih.2 (by simpa using h)]
      | true => refine ⟨by simp; omega, fun h => ?_⟩; simp at h; omega
    | true =>
      have hg := h0 rfl
      subst hg
      refine ⟨by simp; omega, fun h => ?_⟩
      rw [ih.2 (by simp at h; omega)]
def atB (fs : List Bool) : V → V
  | .int t => .bl (fs.getD t.toNat false)
  | _ => .bl false
theorem countT_zero : ∀ {bs : List Bool}, countT bs ≤ 0 → ∀ b ∈ bs, b = false
  | [], _, b, hb => nomatch hb
  | c :: bs, h, b, hb => by
    rw [countT_cons] at h
    have := countT_nonneg bs
    cases c with
    | true => simp at h; omega
    | false =>
      rcases List.mem_cons.mp hb with rfl | hb
      · rfl
      · exact countT_zero (by simpa using h) b hb
theorem getD_false {fs : List Bool} (h : ∀ b ∈ fs, b = false) (i : Nat) : fs.getD i false = false := by
  rw [List.getD_eq_getElem?_getD]
  cases e : fs[i]? with
  | none => rfl
  | some b => rw [h b (List.mem_of_getElem? e)]; rfl
theorem stepU_none {ms : List Mv} {fs : List Bool} (hl : fs.length = ms.length) (h : ∀ b ∈ fs, b = false) : stepU ms fs = fs := by
  apply List.ext_getElem (stepU_length hl)
  intro i h1 h2
  have e : fs[i] = false := h _ (List.getElem_mem h2)
  simp [stepU, e]
  intro a b _
  rw [← List.getD_eq_getElem?_getD]
  exact getD_false h b
section
variable {j : Nat} {tt : TT} {te : TE} {vs : List Nat} {σ : L2.St} {H1 : Hp} {D d : Addr} {o : Obj} {Qd : Hp → Prop}
theorem lc_vals {kvs : List (Key × V)} (hs : H1 d = some (.frz o (.dK kvs))) (hD : H1 D = none) (hz : kvs.length ≤ 1000000) (f : V → Bool) (v : V → V) (hw : ∀ x ∈ kvs.map (·.2), wipe ((wipe σ vs).set j (some x)) vs = wipe σ vs)
    (ht : ∀ x ∈ kvs.map (·.2), ∀ (acc : List V) (Q : Bool → Hp → Prop), Q (f x) (upd H1 D (.lst acc)) → tt ((wipe σ vs).set j (some x)) (upd H1 D (.lst acc)) Q)
    (he : ∀ x ∈ kvs.map (·.2), f x = true → ∀ (acc : List V) (Q : VK), Q (v x) (upd H1 D (.lst acc)) → te ((wipe σ vs).set j (some x)) (upd H1 D (.lst acc)) Q)
    (hd : Qd (upd H1 D (.lst (((kvs.map (·.2)).filter f).map v)))) : LcGoal (Itd d o kvs) (gName j) tt te vs σ H1 D Qd := by
  refine lc_pure walk_values (kvs.map (·.2)) (by simp) hz (fun i H x H' hi y => ?_) f v (fun _ => by rw [upd_ne (ne_of_none hs hD)]; exact hs) hw ht he hd
  obtain ⟨e, k, h1⟩ := y
  exact ⟨e, by simp [h1]⟩
theorem lc_valsL {kvs : List (Key × V)} (h : H1 d = some (.dK kvs)) (hD : (upd H1 d (.frz o (.dK kvs))) D = none) (hz : kvs.length ≤ 1000000) (f : V → Bool) (v : V → V) (hw : ∀ x ∈ kvs.map (·.2), wipe ((wipe σ vs).set j (some x)) vs = wipe σ vs)
    (ht : ∀ x ∈ kvs.map (·.2), ∀ H2, H2 d = some (.frz o (.dK kvs)) → (∀ b o, b ≠ d → H1 b = some o → H2 b = some o) → ∀ (Q : Bool → Hp → Prop), Q (f x) H2 → tt ((wipe σ vs).set j (some x)) H2 Q)
    (he : ∀ x ∈ kvs.map (·.2), f x = true → ∀ H2, H2 d = some (.frz o (.dK kvs)) → (∀ b o, b ≠ d → H1 b = some o → H2 b = some o) → ∀ (Q : VK), Q (v x) H2 → te ((wipe σ vs).set j (some x)) H2 Q)
    (hd : ∀ H', H' d = some (.frz o (.dK kvs)) → Same H1 (upd H' d (.dK kvs)) → upd H' d (.dK kvs) D = some (.lst (((kvs.map (·.2)).filter f).map v)) → Qd H') :
    LcGoal (Itd d o kvs) (gName j) tt te vs σ (upd H1 d (.frz o (.dK kvs))) D Qd := by
  have n : D ≠ d := fun z => by rw [z, upd_same] at hD; cases hD
  have k1 : ∀ acc, upd (upd H1 d (.frz o (.dK kvs))) D (.lst acc) d = some (.frz o (.dK kvs)) := fun acc => by rw [upd_ne n.symm, upd_same]
  have k2 : ∀ acc b o', b ≠ d → H1 b = some o' → upd (upd H1 d (.frz o (.dK kvs))) D (.lst acc) b = some o' := fun acc b o' nb e => by
    have n2 : b ≠ D := fun q => by rw [upd_ne n] at hD; rw [q, hD] at e; cases e
    rw [upd_ne n2, upd_ne nb]; exact e
  refine lc_vals upd_same hD hz f v hw (fun x hx acc Q q => ht x hx _ (k1 _) (k2 _) Q q) (fun x hx hf acc Q q => he x hx hf _ (k1 _) (k2 _) Q q) ?_
  obtain ⟨s, sD, _⟩ := same_lock (x := .lst (((kvs.map (·.2)).filter f).map v)) h hD
  exact hd _ (k1 _) s sD
end
theorem anyK {X : Cx} {K : PySem.W.Frag} (hK : X.K = K) (hc : X.calm = true) : CallR X (.builtin "any") (rAny K) := hK ▸ cr_any hc
section
variable {P : Program} {w : World} {K : PySem.W.Frag} {mg : Str → Option Value} {base : Heap}
def spUseful (K : PySem.W.Frag) : Sp := fun vs H Q _ => ∃ M L ds ms ls, vs = [.ref M, .ref L] ∧ MovesAt K H M ds ms ∧ SqL K H L (ls.map V.bl) ∧ ls.length = ms.length ∧ ls.length ≤ 1000 ∧ (∀ m ∈ ms, m.length ≤ 1000 ∧ ∀ q ∈ m, q.2 < ms.length) ∧
  ∀ p k H', H p = none → Same H H' → stepU ms (stepN ms k ls) = stepN ms k ls → H' p = some (.lst ((stepN ms k ls).map V.bl)) → Q (.ref p) H'
abbrev N_useful_states : List Str := ["moves", "lasts", "found", "many", "to", "last", "row"]
theorem sc_useful_states : FnScope N_useful_states ["moves", "lasts"] (defScope (top 17)) := ⟨rfl, rfl, rfl, by decide +kernel, rfl, by decide +kernel, by decide +kernel⟩
abbrev scU : Scope := { kind := .function, names := [(".0", .local), ("last", .local), ("row", .local), ("any", .globalImplicit), ("found", .cell)], isGenerator := false, isCoroutine := false }
theorem c_useful_states (A : At K mg "useful_states" (top 17)) (B : Blt mg) : Cal P w K mg base 1 "useful_states" (spUseful K) := by
  refine cal_of A sc_useful_states (fun _ _ _ _ _ _ us hl => match us, hl with | [_, _], _ => rfl) (fun vs H Q E h => ?_) (fun _ cdv A outer s H vs Q E hr h => ?_)
  · obtain ⟨_, _, _, _, _, rfl, _⟩ := h; rfl
  · obtain ⟨M, L, ds, ms, ls, rfl, hM, hL, hlen, hz, hms, hQ⟩ := h
    refine ⟨_, (pss_cons (ps_asg (pe_tup (pa_cons (pe_callTy call_list_of (by rfl) B.list (by decide +kernel) (pa_cons (pv 1) pa_nil)) (pa_cons pe_int pa_nil))) (pg_tup rfl (pgs_cons (pg_name (i := 2) sc_useful_states.nd rfl (Or.inr rfl)) (pgs_cons (pg_name (i := 3) sc_useful_states.nd rfl (Or.inl rfl)) pgs_nil))))
      (pss_cons (ps_while PassesOwn.never (pt_cmpR op_lt (pv 3) (pe_callB (cr_sumB rfl) (by rfl) B.sum (by decide +kernel) (pa_cons (pv 2) pa_nil)) (nomark _))
        (pss_cons (ps_set (i := 3) sc_useful_states.nd rfl (Or.inl rfl) (pe_callB (cr_sumB rfl) (by rfl) B.sum (by decide +kernel) (pa_cons (pv 2) pa_nil)))
        (pss_one (ps_set (i := 2) sc_useful_states.nd rfl (Or.inr rfl) (pe_lc (own := [("last", 5), ("row", 6)]) (tt := tYes) (by rfl) sc_useful_states.nd (pi_zip (by rfl) B.zip (pa_cons (pv 2) (pa_cons (pv 0) pa_nil))) (blkOk_by (own := [("last", 5), ("row", 6)]) (N := N_useful_states) (sc := defScope (top 17)) (by decide +kernel)) (fun _ _ _ _ _ => (pg_tupK (K := K) (n := 2) rfl rfl (pgs_cons (pg_name (i := 5) sc_useful_states.nd rfl (Or.inl rfl)) (pgs_cons (pg_name (i := 6) sc_useful_states.nd rfl (Or.inl rfl)) pgs_nil)))) (fun _ _ _ _ _ => pts_nil)
          (fun _ _ _ _ _ => (pe_or (pv 5) (pe_one (pe_callB (anyK (K := K) rfl rfl) (by rfl) B.any (by decide +kernel) (pa_cons (pe_lock (pe_lc (own := [("to", 4)]) (g := gName 4) (tt := tYes) (by rfl) sc_useful_states.nd (pi_values (pv 6)) (blkOk_by (own := [("to", 4)]) (N := N_useful_states) (sc := scU) (by decide +kernel)) (fun _ _ _ _ _ => (pg_name (i := 4) sc_useful_states.nd rfl (Or.inl rfl))) (fun _ _ _ _ _ => pts_nil) (fun _ _ _ _ _ => (pe_ix (ixLK (K := K) rfl) (pv 2) (pv 4) (fun _ _ => rfl))))) pa_nil))))))))))
      (pss_one (ps_ret (pv 2))))), ?_⟩
    have hz' : ∀ k, (stepN ms k ls).length = ls.length := stepN_length hlen
    have big : 100000 < sizeLine := by decide
    refine ⟨_, rfl, L, _, rfl, .inl hL, fun p0 hp0 => ⟨(show 2 ≤ sizeLine by decide), fun T0 hT0 => ?_⟩⟩
    have s0 := (same_new (o := .lst (ls.map V.bl)) hp0).trans (same_new (o := .tup [.ref p0, .int 0]) hT0)
    have u0 : upd (upd H p0 (.lst (ls.map V.bl))) T0 (.tup [.ref p0, .int 0]) p0 = some (.lst (ls.map V.bl)) := by rw [upd_ne (ne_of_none upd_same hT0), upd_same]
    refine ⟨T0, _, rfl, .inl (.inl upd_same), rfl, _, _, rfl, _, _, rfl, rfl, ?_⟩
    generalize upd (upd H p0 (.lst (ls.map V.bl))) T0 (.tup [.ref p0, .int 0]) = H0 at s0 u0 ⊢
    refine ⟨fun m σ H' => ∃ (k : Nat) (p : Addr) (many : Int) (o4 o5 o6 : Option V), σ = [some (.ref M), some (.ref L), some (.ref p), some (.int many), o4, o5, o6] ∧ m = ((ls.length : Int) - many).toNat ∧ Same H H' ∧ H p = none ∧ H' p = some (.lst ((stepN ms k ls).map V.bl)) ∧
      ((k = 0 ∧ many = 0) ∨ ∃ k', k = k' + 1 ∧ many = countT (stepN ms k' ls)), ⟨_, 0, p0, 0, _, _, _, rfl, rfl, s0, hp0, u0, .inl ⟨rfl, rfl⟩⟩, fun m σ H1 w => ?_⟩
    obtain ⟨k, p, many, o4, o5, o6, rfl, rfl, s1, hp, u1, hk⟩ := w
    have cn := countT_nonneg (stepN ms k ls)
    rw [hz'] at cn
    refine ⟨_, rfl, _, rfl, p, _, rfl, SqL.of u1, by rw [hz']; omega, _, _, rfl, rfl, _, rfl, ?_⟩
    have hmany : many ≤ ls.length := by
      rcases hk with ⟨_, rfl⟩ | ⟨k', _, rfl⟩
      · omega
      · have := countT_nonneg (stepN ms k' ls)
        rw [hz'] at this
        omega
    refine ite2 (fun hlt => ?_) (fun hlt => ?_)
    · have hlt : many < countT (stepN ms k ls) := of_decide_eq_true hlt
      generalize hfs : stepN ms k ls = fs at *
      have hfl : fs.length = ls.length := by rw [← hfs]; exact hz' k
      refine ⟨fun σ' H' => ∃ (p : Addr) (o4 o5 o6 : Option V), σ' = [some (.ref M), some (.ref L), some (.ref p), some (.int (countT fs)), o4, o5, o6] ∧ Same H H' ∧ H p = none ∧ H' p = some (.lst ((stepU ms fs).map V.bl)), fun σ' H' n => ?_, ?_⟩
      · obtain ⟨p', o4, o5, o6, rfl, s', hp', u'⟩ := n
        refine ⟨_, ?_, k + 1, p', countT fs, o4, o5, o6, rfl, rfl, s', hp', by rw [stepN, hfs]; exact u', .inr ⟨k, rfl, by rw [hfs]⟩⟩
        omega
      · refine ⟨_, rfl, p, fs, rfl, SqL.of u1, by omega, ?_⟩
        have hM1 := hM.same s1
        refine ⟨_, rfl, _, rfl, p, M, _, _, rfl, SqL.of u1, hM1.1, fun D hD => ?_⟩
        have hn : ms.length = min (fs.map V.bl).length (ds.map V.ref).length := by rw [List.length_map, List.length_map, hM.2.1]; omega
        refine lc_it (walk_zip hn) (fun i H' => Same H1 H' ∧ H' D = some (.lst (((stepU ms fs).take i).map V.bl))) ⟨same_new hD, by rw [List.take_zero]; exact upd_same⟩ (fun i H' _ e => ⟨Same.seq e.1 (SqL.of u1), Same.seq e.1 hM1.1⟩) (fun i x H2 H2' hi e y => ?_) (fun H2 e => ?_)
        · obtain ⟨T, x1, y1, rfl, hT, rfl, hx, hy⟩ := y
          simp only [List.getElem?_map] at hx hy
          obtain ⟨b, hb, rfl⟩ := Option.map_eq_some_iff.mp hx
          obtain ⟨d, hd, rfl⟩ := Option.map_eq_some_iff.mp hy
          have hmi : ms[i]? = some ms[i] := List.getElem?_eq_getElem hi
          have hmm := hms ms[i] (List.getElem_mem hi)
          have hdd : H2 d = some (.dK (mvK ms[i])) := e.1 _ _ (hM1.2.2 i d _ hd hmi)
          have nD : D ≠ T := ne_of_none e.2 hT
          have sT := same_new (o := .tup [.bl b, .ref d]) hT
          have step : (stepU ms fs)[i]? = some (b || (ms[i]).any fun q => fs.getD q.2 false) := by
            have ez : (fs.zip ms)[i]? = some (b, ms[i]) := by
              rw [List.getElem?_zip_eq_some]
              exact ⟨hb, hmi⟩
            simp [stepU, ez]
          have done : ∀ H', Same (upd H2 T (.tup [.bl b, .ref d])) H' → ∃ acc, H' D = some (.lst acc) ∧ acc.length < sizeLine ∧ Same H1 (upd H' D (.lst (acc ++ [.bl (b || (ms[i]).any fun q => fs.getD q.2 false)]))) ∧ upd H' D (.lst (acc ++ [.bl (b || (ms[i]).any fun q => fs.getD q.2 false)])) D = some (.lst (((stepU ms fs).take (i + 1)).map V.bl)) := fun H' s' => by
            refine ⟨_, s' _ _ (sT _ _ e.2), ?_, fun b' o' q => ?_, ?_⟩
            · rw [List.length_map]
              refine Nat.lt_of_le_of_lt (List.length_take_le _ _) ?_
              omega
            · rw [upd_ne (ne_of_none q hD)]
              exact s' _ _ (sT _ _ (e.1 _ _ q))
            · rw [upd_same, List.take_add_one, step]
              simp
          refine ⟨T, _, rfl, .inl (.inl upd_same), rfl, _, _, rfl, _, _, rfl, rfl, ?_⟩
          refine ⟨rfl, yes_q (iteT ⟨_, rfl, _, rfl, ?_⟩)⟩
          cases b with
          | true => exact iteT (done _ (Same.refl _))
          | false =>
            refine iteF ?_
            rw [Bool.false_or] at done
            have hdT := sT _ _ hdd
            have pT : SqL K (upd H2 T (.tup [.bl false, .ref d])) p (fs.map V.bl) := SqL.of (sT _ _ (e.1 _ _ u1))
            refine ⟨d, _, hdT, trivial, fun od => ⟨_, rfl, d, od, _, rfl, upd_same, fun D2 hD2 => ?_⟩⟩
            refine lc_valsL hdT hD2 (by simp [mvK]; omega) (fun _ => true) (atB fs) (fun x _ => rfl) (fun x _ H3 _ _ Q q => q) (fun x hx _ H3 f3 k3 Q q => ?_) (fun H3 f3 s3 h3 => ⟨f3, ?_⟩)
            · obtain ⟨kv, hkv, rfl⟩ := List.mem_map.mp hx
              obtain ⟨q0, hq0, rfl⟩ := List.mem_map.mp hkv
              have hlt' : q0.2 < fs.length := by have := hmm.2 q0 hq0; omega
              have np : p ≠ d := fun z => by
                have := sT _ _ (e.1 _ _ u1)
                rw [z, hdT] at this
                cases this
              refine ⟨_, rfl, _, rfl, p, _, _, .bl (fs.getD q0.2 false), rfl, rfl, SqL.of (k3 _ _ np (sT _ _ (e.1 _ _ u1))), atI_nat ?_, q⟩
              rw [List.getElem?_map, List.getElem?_eq_getElem hlt', List.getD_eq_getElem?_getD, List.getElem?_eq_getElem hlt']
              rfl
            · refine ⟨D2, (ms[i]).map (fun q => fs.getD q.2 false), rfl, .inl (.inl ?_), ?_⟩
              · rw [h3, filter_all]
                simp [mvK, atB, Function.comp_def]
              · rw [List.any_map]
                exact done _ s3
        · refine ⟨D, _, _, _, rfl, s1.trans e.1, s1.free hD, ?_⟩
          rw [e.2, List.take_of_length_le (by rw [stepU_length (by omega)]; omega)]
    · have hge : countT (stepN ms k ls) ≤ many := by
        have : ¬ many < countT (stepN ms k ls) := fun q => hlt (decide_eq_true q)
        omega
      refine ⟨_, rfl, hQ p k H1 hp s1 ?_ u1⟩
      rcases hk with ⟨rfl, rfl⟩ | ⟨k', rfl, rfl⟩
      · exact stepU_none hlen (countT_zero hge)
      · have le := leB_count (fs := stepN ms k' ls) (gs := stepN ms (k' + 1) ls) (by rw [hz', hz']) (stepU_le (by rw [hz']; exact hlen))
        have e := le.2 hge
        rw [← e]
        exact e.symm
end
end MN
/-! several things locked at once, however many -/
namespace MN
open PySem PySem.Spec PyProof.Rows L2
abbrev Lk : Type := Addr × HO × Obj
def lockS (t : TS) : Nat → TS
  | 0 => t
  | n + 1 => tLock (lockS t n)
theorem ps_lockS {X : Cx} {st : Stmt} {t : TS} (h : PS X st t) : ∀ n, PS X st (lockS t n)
  | 0 => h
  | n + 1 => ps_lock (ps_lockS h n)
/-- the reading says how many -/
def tLocks (t : TS) : TS := fun D σ H => ∃ n, lockS t n D σ H
theorem ps_locks {X : Cx} {st : Stmt} {t : TS} (h : PS X st t) : PS X st (tLocks t) := ⟨fun pins s σ H D I ⟨n, q⟩ => (ps_lockS h n).run pins s σ H D I q⟩
def lkD : List Lk → Ends → Ends
  | [], D => D
  | (d, u, o) :: r, D => lkD r ⟨fun σ' H' => H' d = some (.frz o u) ∧ D.nx σ' (upd H' d u), fun v H' => H' d = some (.frz o u) ∧ D.rt v (upd H' d u), fun σ' H' => H' d = some (.frz o u) ∧ D.bk σ' (upd H' d u), fun σ' H' => H' d = some (.frz o u) ∧ D.ct σ' (upd H' d u)⟩
def fzH : List Lk → Hp → Hp
  | [], H => H
  | (d, u, o) :: r, H => fzH r (upd H d (.frz o u))
def thaw : List Lk → Hp → Hp
  | [], H => H
  | (d, u, _) :: r, H => upd (thaw r H) d u
theorem lockS_of {t : TS} {σ : L2.St} : ∀ (l : List (Addr × HO)) (D : Ends) (H : Hp), (∀ p ∈ l, H p.1 = some p.2 ∧ Mut (some p.2)) → (l.map (·.1)).Nodup →
    (∀ ks : List Lk, ks.map (fun k => (k.1, k.2.1)) = l → t (lkD ks D) σ (fzH ks H)) → lockS t l.length D σ H
  | [], D, H, _, _, h => h [] rfl
  | p0 :: r, D, H, h1, hn, h => by
    have hn' := List.nodup_cons.mp hn
    have q0 := h1 p0 List.mem_cons_self
    show tLock (lockS t r.length) D σ H
    refine ⟨p0.1, p0.2, q0.1, q0.2, fun od => ?_⟩
    have h1' : ∀ p ∈ r, (upd H p0.1 (.frz od p0.2)) p.1 = some p.2 ∧ Mut (some p.2) := fun p hp => by
      have q := h1 p (List.mem_cons_of_mem _ hp)
      have ne : p.1 ≠ p0.1 := fun z => hn'.1 (List.mem_map.mpr ⟨p, hp, z⟩)
      rw [upd_ne ne]
      exact q
    exact lockS_of r _ (upd H p0.1 (.frz od p0.2)) h1' hn'.2 fun ks hks => h ((p0.1, p0.2, od) :: ks) (by rw [List.map_cons, hks])
theorem fzH_off {b : Addr} : ∀ (ks : List Lk) (H : Hp), b ∉ ks.map (·.1) → fzH ks H b = H b
  | [], _, _ => rfl
  | (d, u, o) :: r, H, h => by
    show fzH r (upd H d (.frz o u)) b = H b
    have h' : b ≠ d ∧ b ∉ r.map (·.1) := by simpa using h
    rw [fzH_off r _ h'.2, upd_ne h'.1]
theorem fzH_at : ∀ (ks : List Lk) (H : Hp), (ks.map (·.1)).Nodup → ∀ k ∈ ks, fzH ks H k.1 = some (.frz k.2.2 k.2.1)
  | [], _, _, _, hk => nomatch hk
  | (d, u, o) :: r, H, hn, k, hk => by
    have hn' := List.nodup_cons.mp hn
    show fzH r (upd H d (.frz o u)) k.1 = _
    rcases List.mem_cons.mp hk with rfl | hk
    · rw [fzH_off r _ hn'.1, upd_same]
    · exact fzH_at r _ hn'.2 k hk
theorem thaw_off {b : Addr} : ∀ (ks : List Lk) (H : Hp), b ∉ ks.map (·.1) → thaw ks H b = H b
  | [], _, _ => rfl
  | (d, u, o) :: r, H, h => by
    have h' : b ≠ d ∧ b ∉ r.map (·.1) := by simpa using h
    show upd (thaw r H) d u b = H b
    rw [upd_ne h'.1, thaw_off r H h'.2]
theorem thaw_at : ∀ (ks : List Lk) (H : Hp), (ks.map (·.1)).Nodup → ∀ k ∈ ks, thaw ks H k.1 = some k.2.1
  | [], _, _, _, hk => nomatch hk
  | (d, u, o) :: r, H, hn, k, hk => by
    have hn' := List.nodup_cons.mp hn
    show upd (thaw r H) d u k.1 = _
    rcases List.mem_cons.mp hk with rfl | hk
    · rw [upd_same]
    · have : k.1 ≠ d := fun z => hn'.1 (List.mem_map.mpr ⟨k, hk, z⟩)
      rw [upd_ne this]
      exact thaw_at r H hn'.2 k hk
theorem lkD_nx : ∀ (ks : List Lk) (D : Ends) (σ : L2.St) (H : Hp), (ks.map (·.1)).Nodup → (∀ k ∈ ks, H k.1 = some (.frz k.2.2 k.2.1)) → D.nx σ (thaw ks H) → (lkD ks D).nx σ H
  | [], _, _, _, _, _, q => q
  | (d, u, o) :: r, D, σ, H, hn, h, q => by
    have hn' := List.nodup_cons.mp hn
    refine lkD_nx r _ σ H hn'.2 (fun k hk => h k (List.mem_cons_of_mem _ hk)) ⟨?_, q⟩
    rw [thaw_off r H hn'.1]
    exact h _ List.mem_cons_self
/-- what was there stays, what is new stays -/
theorem thaw_same {H Hf H' : Hp} {ks : List Lk} (hn : (ks.map (·.1)).Nodup) (h0 : ∀ k ∈ ks, H k.1 = some k.2.1) (hf : Hf = fzH ks H) (e : Same Hf H') : Same H (thaw ks H') ∧ ∀ k ∈ ks, H' k.1 = some (.frz k.2.2 k.2.1) := by
  subst hf
  have at_ : ∀ k ∈ ks, H' k.1 = some (.frz k.2.2 k.2.1) := fun k hk => e _ _ (fzH_at ks H hn k hk)
  refine ⟨fun b o q => ?_, at_⟩
  by_cases hb : b ∈ ks.map (·.1)
  · obtain ⟨k, hk, rfl⟩ := List.mem_map.mp hb
    rw [thaw_at ks H' hn k hk]
    rw [h0 k hk] at q
    exact q
  · rw [thaw_off ks H' hb]
    exact e _ _ (by rw [fzH_off ks H hb]; exact q)
end MN
/-! comprehensions with two for-clauses: the outer walk, the inner walk -/
namespace MN
open PySem PySem.Spec PyProof.Rows L2
section
variable {vs vs1 : List Nat} {σ σ2 : L2.St} {H1 : Hp} {D : Addr} {Qd : Hp → Prop} {g g1 : TG} {tt tt1 : TT} {te : TE} {wi1 : TI}
theorem lc2_out {J : It} {n : Nat} {G : Hp → Prop} {Y : Nat → Hp → V → Hp → Prop} (w : Walk J n G Y) (Pv : Nat → Hp → Prop) (h0 : Pv 0 (upd H1 D (.lst []))) (hG : ∀ i H, i ≤ n → Pv i H → G H)
    (hs : ∀ i x H H', i < n → Pv i H → Y i H x H' → g x (wipe σ vs) H' fun σ2 H2 => wipe σ2 vs = wipe σ vs ∧ tt σ2 H2 fun b H3 =>
      if b = true then wi1 σ2 H3 fun J1 H4 => ∃ W1 : Nat → Nat → Hp → Prop, (∃ m, W1 0 m H4) ∧ ∀ j k H, W1 j k H →
        (J1.stop j H ∧ Pv (i + 1) H) ∨ (J1.go j H ∧ ∃ Nx1 : Hp → Prop, (∀ H', Nx1 H' → ∃ k', k' < k ∧ W1 (j + 1) k' H') ∧ ∀ x H', J1.yld j H x H' → g1 x (wipe σ2 vs1) H' fun σ3 H5 => wipe σ3 vs1 = wipe σ2 vs1 ∧ tt1 σ3 H5 fun b H6 =>
          if b = true then te σ3 H6 fun y H7 => ∃ acc, H7 D = some (.lst acc) ∧ acc.length < sizeLine ∧ Nx1 (upd H7 D (.lst (acc ++ [y]))) else Nx1 H6)
      else Pv (i + 1) H3) (hd : ∀ H, Pv n H → Qd H) :
    ∃ W : Nat → Nat → Hp → Prop, (∃ m, W 0 m (upd H1 D (.lst []))) ∧ ∀ i m H, W i m H →
      (J.stop i H ∧ Qd H) ∨ (J.go i H ∧ ∃ Nx : Hp → Prop, (∀ H', Nx H' → ∃ m', m' < m ∧ W (i + 1) m' H') ∧ ∀ x H', J.yld i H x H' → g x (wipe σ vs) H' fun σ2 H2 => wipe σ2 vs = wipe σ vs ∧ tt σ2 H2 fun b H3 =>
        if b = true then wi1 σ2 H3 fun J1 H4 => ∃ W1 : Nat → Nat → Hp → Prop, (∃ m, W1 0 m H4) ∧ ∀ j k H, W1 j k H →
          (J1.stop j H ∧ Nx H) ∨ (J1.go j H ∧ ∃ Nx1 : Hp → Prop, (∀ H', Nx1 H' → ∃ k', k' < k ∧ W1 (j + 1) k' H') ∧ ∀ x H', J1.yld j H x H' → g1 x (wipe σ2 vs1) H' fun σ3 H5 => wipe σ3 vs1 = wipe σ2 vs1 ∧ tt1 σ3 H5 fun b H6 =>
            if b = true then te σ3 H6 fun y H7 => ∃ acc, H7 D = some (.lst acc) ∧ acc.length < sizeLine ∧ Nx1 (upd H7 D (.lst (acc ++ [y]))) else Nx1 H6)
        else Nx H3) := by
  refine ⟨fun i m H => m = n - i ∧ i ≤ n ∧ Pv i H, ⟨n, by simp, Nat.zero_le _, h0⟩, ?_⟩
  rintro i m H ⟨rfl, hi, p⟩
  have q := hG i H hi p
  by_cases hlt : i < n
  · exact .inr ⟨w.goes i H hlt q, Pv (i + 1), fun H' p' => ⟨n - (i + 1), by omega, rfl, hlt, p'⟩, fun x H' y => hs i x H H' hlt p (w.yields i H x H' hlt q y)⟩
  · obtain rfl : i = n := by omega
    exact .inl ⟨w.stops H q, hd H p⟩
theorem lc2_in {J1 : It} {n : Nat} {G : Hp → Prop} {Y : Nat → Hp → V → Hp → Prop} {H4 : Hp} {R : Hp → Prop} (w : Walk J1 n G Y) (Pv : Nat → Hp → Prop) (h0 : Pv 0 H4) (hG : ∀ i H, i ≤ n → Pv i H → G H)
    (hs : ∀ j x H H', j < n → Pv j H → Y j H x H' → g1 x (wipe σ2 vs1) H' fun σ3 H5 => wipe σ3 vs1 = wipe σ2 vs1 ∧ tt1 σ3 H5 fun b H6 =>
      if b = true then te σ3 H6 fun y H7 => ∃ acc, H7 D = some (.lst acc) ∧ acc.length < sizeLine ∧ Pv (j + 1) (upd H7 D (.lst (acc ++ [y]))) else Pv (j + 1) H6) (hd : ∀ H, Pv n H → R H) :
    ∃ W1 : Nat → Nat → Hp → Prop, (∃ m, W1 0 m H4) ∧ ∀ j k H, W1 j k H →
      (J1.stop j H ∧ R H) ∨ (J1.go j H ∧ ∃ Nx1 : Hp → Prop, (∀ H', Nx1 H' → ∃ k', k' < k ∧ W1 (j + 1) k' H') ∧ ∀ x H', J1.yld j H x H' → g1 x (wipe σ2 vs1) H' fun σ3 H5 => wipe σ3 vs1 = wipe σ2 vs1 ∧ tt1 σ3 H5 fun b H6 =>
        if b = true then te σ3 H6 fun y H7 => ∃ acc, H7 D = some (.lst acc) ∧ acc.length < sizeLine ∧ Nx1 (upd H7 D (.lst (acc ++ [y]))) else Nx1 H6) := by
  refine ⟨fun i m H => m = n - i ∧ i ≤ n ∧ Pv i H, ⟨n, by simp, Nat.zero_le _, h0⟩, ?_⟩
  rintro i m H ⟨rfl, hi, p⟩
  have q := hG i H hi p
  by_cases hlt : i < n
  · exact .inr ⟨w.goes i H hlt q, Pv (i + 1), fun H' p' => ⟨n - (i + 1), by omega, rfl, hlt, p'⟩, fun x H' y => hs i x H H' hlt p (w.yields i H x H' hlt q y)⟩
  · obtain rfl : i = n := by omega
    exact .inl ⟨w.stops H q, hd H p⟩
end
end MN
/-! are_useful -/
namespace MN
open PySem PySem.Spec PyProof.Rows L2
section
variable {P : Program} {w : World} {K : PySem.W.Frag} {mg : Str → Option Value} {base : Heap}
/-- each state but the first has a move from a lesser one; all numbers are states -/
def Tree (ms : List Mv) : Prop := (∀ m ∈ ms, ∀ q ∈ m, q.2 < ms.length) ∧ ∀ i, 0 < i → i < ms.length → ∃ j m, j < i ∧ ms[j]? = some m ∧ ∃ q ∈ m, q.2 = i
def intsV (l : List Nat) : List V := l.map fun (i : Nat) => V.int (i : Int)
def moreOf (ms : List Mv) (met : List Nat) : List Nat := met.flatMap fun s => (ms.getD s []).map (·.2)
theorem moreOf_length {ms : List Mv} (h : ∀ m ∈ ms, m.length ≤ 5) : ∀ met : List Nat, (moreOf ms met).length ≤ 5 * met.length
  | [] => Nat.le_refl _
  | s :: met => by
    have ih := moreOf_length h met
    have e : moreOf ms (s :: met) = (ms.getD s []).map (·.2) ++ moreOf ms met := by simp [moreOf]
    have h5 : (ms.getD s []).length ≤ 5 := by
      rw [List.getD_eq_getElem?_getD]
      cases q : ms[s]? with
      | none => exact Nat.zero_le _
      | some m => exact h m (List.mem_of_getElem? q)
    rw [e, List.length_append, List.length_map, List.length_cons]
    omega
/-- what lies behind met and is not in it -/
def newOf (ms : List Mv) (met : List Nat) (ns : List Int) : List Nat := (ns.map Int.toNat).filter fun i => !decide (i ∈ met)
theorem moreOf_mem {ms : List Mv} {met : List Nat} {i : Nat} : i ∈ moreOf ms met ↔ ∃ s ∈ met, ∃ q ∈ ms.getD s [], q.2 = i := by
  simp [moreOf, List.mem_flatMap]
theorem moreOf_lt {ms : List Mv} {met : List Nat} (h : ∀ m ∈ ms, ∀ q ∈ m, q.2 < ms.length) {i : Nat} (hi : i ∈ moreOf ms met) : i < ms.length := by
  obtain ⟨s, _, q, hq, rfl⟩ := moreOf_mem.mp hi
  rw [List.getD_eq_getElem?_getD] at hq
  cases e : ms[s]? with
  | none => rw [e] at hq; cases hq
  | some m => rw [e] at hq; exact h m (List.mem_of_getElem? e) q hq
/-- closed: all states -/
theorem met_all {ms : List Mv} {met : List Nat} (hT : Tree ms) (m0 : 0 ∈ met) (hc : ∀ i ∈ moreOf ms met, i ∈ met) : ∀ i, i < ms.length → i ∈ met := by
  intro i
  induction i using Nat.strongRecOn with
  | ind i ih =>
    intro hi
    rcases Nat.eq_zero_or_pos i with rfl | h0
    · exact m0
    · obtain ⟨j, m, hj, hm, q, hq, rfl⟩ := hT.2 i h0 hi
      refine hc _ (moreOf_mem.mpr ⟨j, ih j hj (by omega), q, ?_, rfl⟩)
      rw [List.getD_eq_getElem?_getD, hm]
      exact hq
theorem met_len {ms : List Mv} {met : List Nat} (nd : met.Nodup) (lt : ∀ s ∈ met, s < ms.length) (h : ∀ i, i < ms.length → i ∈ met) : met.length = ms.length := by
  have h1 := nodup_sub (l' := List.range ms.length) nd fun x hx => List.mem_range.mpr (lt x hx)
  have h2 := nodup_sub (l' := met) (List.nodup_range (n := ms.length)) fun x hx => h x (List.mem_range.mp hx)
  rw [List.length_range] at h1 h2
  omega
theorem inV_ints (i : Nat) : ∀ l : List Nat, inV (.int (i : Int)) (intsV l) = decide (i ∈ l)
  | [] => rfl
  | j :: l => by
    have ih := inV_ints i l
    unfold inV at ih ⊢
    rw [intsV, List.map_cons, List.any_cons]
    rw [intsV] at ih
    rw [ih]
    by_cases e : i = j
    · subst e; simp [eqV]
    · have : ¬ (j : Int) = (i : Int) := by omega
      simp [eqV, e, this]
theorem ints_nat (l : List Nat) : intsV l = (l.map fun (i : Nat) => (i : Int)).map V.int := by simp [intsV]
theorem dp_ints {K : PySem.W.Frag} {H : Hp} : ∀ l : List Nat, DpAll K H (intsV l) (l.map fun (i : Nat) => PyData.int (i : Int))
  | [] => .nil
  | i :: l => .cons (.int _) (dp_ints l)
def lkOf (ds : List Addr) (ms : List Mv) : List (Addr × HO) := (ds.zip ms).map fun p => (p.1, .dK (mvK p.2))
theorem lkOf_fst {ds : List Addr} {ms : List Mv} (h : ds.length = ms.length) : (lkOf ds ms).map (·.1) = ds := by
  rw [lkOf, List.map_map]
  exact List.map_fst_zip (Nat.le_of_eq h)
theorem lkOf_at {H : Hp} {ds : List Addr} {ms : List Mv} (h : DctsAt H ds ms) : ∀ p ∈ lkOf ds ms, H p.1 = some p.2 ∧ Mut (some p.2) := fun p hp => by
  obtain ⟨q, hq, rfl⟩ := List.mem_map.mp hp
  obtain ⟨i, hi⟩ := List.getElem?_of_mem hq
  obtain ⟨h1, h2⟩ := List.getElem?_zip_eq_some.mp hi
  exact ⟨h.2 i _ _ h1 h2, trivial⟩
def spAreUseful (K : PySem.W.Frag) : Sp := fun vs H Q _ => ∃ M L ds ms ls, vs = [.ref M, .ref L] ∧ MovesAt K H M ds ms ∧ ds.Nodup ∧ SqL K H L (ls.map V.bl) ∧ ls.length = ms.length ∧ 0 < ms.length ∧ ms.length ≤ 40 ∧ (∀ m ∈ ms, m.length ≤ 5) ∧ Tree ms ∧
  (∀ k, stepU ms (stepN ms k ls) = stepN ms k ls → ∀ b ∈ stepN ms k ls, b = true) ∧ ∀ H', Same H H' → Q (.bl true) H'
abbrev N_are_useful : List Str := ["moves", "lasts", "met", "more", "state", "to"]
theorem sc_are_useful : FnScope N_are_useful ["moves", "lasts"] (defScope (top 18)) := ⟨rfl, rfl, rfl, by decide +kernel, rfl, by decide +kernel, by decide +kernel⟩
theorem c_are_useful (A : At K mg "are_useful" (top 18)) (B : Blt mg) (c_useful_states : Cal P w K mg base 1 "useful_states" (spUseful K)) : Cal P w K mg base 2 "are_useful" (spAreUseful K) := by
  refine cal_of A sc_are_useful (fun _ _ _ _ _ _ us hl => match us, hl with | [_, _], _ => rfl) (fun vs H Q E h => ?_) (fun _ cdv A outer s H vs Q E hr h => ?_)
  · obtain ⟨_, _, _, _, _, rfl, _⟩ := h; rfl
  · obtain ⟨M, L, ds, ms, ls, rfl, hM, hnd, hL, hlen, hpos, h40, h5, hT, hU, hQ⟩ := h
    refine ⟨_, (pss_cons (ps_set (i := 2) sc_are_useful.nd rfl (Or.inr rfl) (pe_lst (pa_cons pe_int pa_nil)))
      (pss_one (ps_while PassesOwn.never (pt_val pe_bl)
        (pss_cons (ps_locks (ps_setLc2 (i := 3) (own := [("state", 4), ("to", 5)]) (vs1 := [5]) (g := gName 4) (g1 := gName 5) (tt := tYes) (tt1 := tYes) (by rfl) sc_are_useful.nd rfl rfl (sw_true rfl rfl rfl (by decide +kernel)) (pi_list (pv 2)) (blkOk_by (own := [("state", 4), ("to", 5)]) (N := N_are_useful) (sc := defScope (top 18)) (by decide +kernel)) (by decide) (fun _ _ _ _ _ => (pg_name (i := 4) sc_are_useful.nd rfl (Or.inl rfl))) (fun _ _ _ _ _ => pts_nil)
          (fun _ _ _ _ _ => pi_values (pe_ix (ixLK (K := K) rfl) (pv 0) (pv 4) (fun _ _ => rfl))) (fun _ _ _ _ _ => (pg_name (i := 5) sc_are_useful.nd rfl (Or.inl rfl))) (fun _ _ _ _ _ => pts_nil) (fun _ _ _ _ _ => pv 5)))
        (pss_cons (ps_setLc (i := 3) (own := [("state", 4)]) (g := gName 4) (by rfl) sc_are_useful.nd rfl rfl (sw_true rfl rfl rfl (by decide +kernel)) (pi_list (pe_callB (cr_sortedSet rfl) (by rfl) B.sorted (by decide +kernel) (pa_cons (pe_callTy (cr_setL rfl) (by rfl) B.set (by decide +kernel) (pa_cons (pv 3) pa_nil)) pa_nil))) (blkOk_by (own := [("state", 4)]) (N := N_are_useful) (sc := defScope (top 18)) (by decide +kernel)) (fun _ _ _ _ _ => (pg_name (i := 4) sc_are_useful.nd rfl (Or.inl rfl))) (fun _ _ _ _ _ => pts_one (pt_cmpR (notInSeqK (K := K) rfl) (pv 4) (pv 2) (by rfl))) (fun _ _ _ _ _ => (pv 4)))
        (pss_cons (ps_if (pt_cmpR (op_eqD hr.units) (pv 3) (pe_lst pa_nil) (nomark _))
          (pss_one (ps_ret (pe_and (pe_cmpR op_eq (pe_callB call_len_seq (by rfl) B.len (by decide +kernel) (pa_cons (pv 2) pa_nil)) (pe_callB call_len_seq (by rfl) B.len (by decide +kernel) (pa_cons (pv 0) pa_nil)) (nomark _)) (pe_one (pe_callB (cr_all rfl) (by rfl) B.all (by decide +kernel) (pa_cons (pe_c c_useful_states hr (by decide) (by rfl) (pa_cons (pv 0) (pa_cons (pv 1) pa_nil))) pa_nil))))))
          pss_nil)
        (pss_one (ps_expr (pe_bm PySem.F.plainAttrs_list PySem.F.slot_list_extend PySem.F.type_list_extend mt_extend (pv 2) (pa_cons (pv 3) pa_nil)))))))))), ?_⟩
    refine ⟨(show 1 ≤ sizeLine by decide), fun p0 hp0 => ?_⟩
    refine ⟨fun m σ H' => ∃ (met : List Nat) (p : Addr) (o3 o4 o5 : Option V), σ = [some (.ref M), some (.ref L), some (.ref p), o3, o4, o5] ∧ m = ms.length - met.length ∧ met.Nodup ∧ (∀ s ∈ met, s < ms.length) ∧ 0 ∈ met ∧ met.length ≤ ms.length ∧ Same H H' ∧ H p = none ∧ H' p = some (.lst (intsV met)),
      ⟨_, [0], p0, _, _, _, rfl, rfl, by simp, by simpa using hpos, by simp, hpos, same_new hp0, hp0, upd_same⟩, fun m σ H1 w => ?_⟩
    obtain ⟨met, p, o3, o4, o5, rfl, rfl, mnd, mlt, m0, mle, s1, hp, u1⟩ := w
    have hM1 := hM.same s1
    refine ⟨_, rfl, iteT ⟨_, fun σ' H' n => n, ?_⟩⟩
    refine ⟨_, lockS_of (lkOf ds ms) _ _ (lkOf_at hM1.2) (by rw [lkOf_fst hM.2.1]; exact hnd) fun ks hks => ?_⟩
    have kfst : ks.map (·.1) = ds := by rw [← lkOf_fst hM.2.1, ← hks, List.map_map]; rfl
    have knd : (ks.map (·.1)).Nodup := by rw [kfst]; exact hnd
    have kat : ∀ k ∈ ks, H1 k.1 = some k.2.1 := fun k hk => by
      have := lkOf_at hM1.2 (k.1, k.2.1) (by rw [← hks]; exact List.mem_map.mpr ⟨k, hk, rfl⟩)
      exact this.1
    have poff : p ∉ ks.map (·.1) := fun q => by
      obtain ⟨k, hk, rfl⟩ := List.mem_map.mp q
      have h1 := lkOf_at hM1.2 (k.1, k.2.1) (by rw [← hks]; exact List.mem_map.mpr ⟨k, hk, rfl⟩)
      have h2 : (k.1, k.2.1) ∈ lkOf ds ms := by rw [← hks]; exact List.mem_map.mpr ⟨k, hk, rfl⟩
      obtain ⟨q', _, e⟩ := List.mem_map.mp h2
      have h3 := h1.1
      rw [u1] at h3
      have e2 : (HO.dK (mvK q'.2)) = k.2.1 := congrArg Prod.snd e
      rw [← e2] at h3
      cases h3
    have off : ∀ b o, H1 b = some o → (∀ kvs, o ≠ .dK kvs) → fzH ks H1 b = some o := fun b o hb ho => by
      rw [fzH_off ks H1 fun q => ?_]
      · exact hb
      · obtain ⟨k, hk, rfl⟩ := List.mem_map.mp q
        have h2 : (k.1, k.2.1) ∈ lkOf ds ms := by rw [← hks]; exact List.mem_map.mpr ⟨k, hk, rfl⟩
        obtain ⟨q', _, e⟩ := List.mem_map.mp h2
        have h3 := kat k hk
        rw [hb] at h3
        have e2 : (HO.dK (mvK q'.2)) = k.2.1 := congrArg Prod.snd e
        exact ho _ ((Option.some.inj h3).trans e2.symm)
    have hMf : SqL K (fzH ks H1) M (ds.map V.ref) := by
      rcases hM1.1 with (h | ⟨o, h⟩) | h
      · exact .inl (.inl (off _ _ h (fun _ z => by cases z)))
      · exact .inl (.inr ⟨o, off _ _ h (fun _ z => by cases z)⟩)
      · exact .inr h
    have pf : fzH ks H1 p = some (.lst (intsV met)) := by rw [fzH_off ks H1 poff]; exact u1
    refine ⟨_, rfl, p, rfl, ⟨_, SqL.of pf⟩, fun Dl hDl => ?_⟩
    refine lc2_out (walk_list (xs := intsV met)) (fun i H' => Same (fzH ks H1) H' ∧ H' Dl = some (.lst (intsV (moreOf ms (met.take i))))) ⟨same_new hDl, by rw [List.take_zero]; exact upd_same⟩ (fun i H' _ e => Same.seq e.1 (SqL.of pf)) (fun i x H2 H2' hi e y => ?_) (fun H2 e => ?_)
    · obtain ⟨rfl, hx⟩ := y
      rw [intsV, List.getElem?_map] at hx
      obtain ⟨st, hst, rfl⟩ := Option.map_eq_some_iff.mp hx
      have slt : st < ms.length := mlt st (List.mem_of_getElem? hst)
      have sld : st < ds.length := by rw [hM.2.1]; exact slt
      have tk : met.take (i + 1) = met.take i ++ [st] := by rw [List.take_add_one, hst]; rfl
      have mo : moreOf ms (met.take (i + 1)) = moreOf ms (met.take i) ++ (ms[st]).map (·.2) := by
        rw [tk, moreOf, List.flatMap_append]
        simp [moreOf, slt]
      have hdm : (ds[st], HO.dK (mvK ms[st])) ∈ lkOf ds ms := by
        refine List.mem_map.mpr ⟨(ds[st], ms[st]), ?_, rfl⟩
        exact List.mem_of_getElem? (i := st) (List.getElem?_zip_eq_some.mpr ⟨List.getElem?_eq_getElem sld, List.getElem?_eq_getElem slt⟩)
      obtain ⟨k, hk, ek⟩ : ∃ k ∈ ks, (k.1, k.2.1) = (ds[st], HO.dK (mvK ms[st])) := by
        rw [← hks] at hdm
        obtain ⟨k, hk, e⟩ := List.mem_map.mp hdm
        exact ⟨k, hk, e⟩
      have ek1 : k.1 = ds[st] := congrArg Prod.fst ek
      have ek2 : k.2.1 = HO.dK (mvK ms[st]) := congrArg Prod.snd ek
      have fz := fzH_at ks H1 knd k hk
      rw [ek1, ek2] at fz
      refine ⟨rfl, yes_q (iteT ⟨_, rfl, _, rfl, M, _, _, .ref ds[st], rfl, rfl, Same.seq e.1 hMf, atI_nat ?_, ds[st], k.2.2, _, rfl, e.1 _ _ fz, ?_⟩)⟩
      · rw [List.getElem?_map, List.getElem?_eq_getElem sld]; rfl
      · refine lc2_in walk_values (fun j H' => Same (fzH ks H1) H' ∧ H' Dl = some (.lst (intsV (moreOf ms (met.take i) ++ ((ms[st]).take j).map (·.2))))) ⟨e.1, by rw [e.2]; simp⟩ (fun j H' _ q => q.1 _ _ fz) (fun j x H3 H3' hj q y => ?_) (fun H3 q => ⟨q.1, ?_⟩)
        · obtain ⟨rfl, kk, hkk⟩ := y
          rw [mvK, List.getElem?_map] at hkk
          obtain ⟨q0, hq0, e0⟩ := Option.map_eq_some_iff.mp hkk
          cases e0
          refine ⟨rfl, yes_q (iteT ⟨_, rfl, _, q.2, ?_, fun b' o' z => ?_, ?_⟩)⟩
          · have l1 := moreOf_length h5 (met.take i)
            have l2 : (met.take i).length ≤ met.length := List.length_take_le' _ _
            have l3 : ((ms[st]).take j).length ≤ (ms[st]).length := List.length_take_le' _ _
            have l4 := h5 ms[st] (List.getElem_mem slt)
            have l5 : 100000 < sizeLine := by decide
            rw [intsV, List.length_map, List.length_append, List.length_map]
            omega
          · rw [upd_ne (ne_of_none z hDl)]
            exact q.1 _ _ z
          · rw [upd_same, List.take_add_one, hq0]
            simp [intsV]
        · rw [q.2, mo]
          have : ((ms[st]).take (mvK ms[st]).length) = ms[st] := List.take_of_length_le (by simp [mvK])
          rw [this]
    · obtain ⟨s12, kf⟩ := thaw_same knd kat rfl e.1
      have doff : Dl ∉ ks.map (·.1) := fun q => by
        obtain ⟨k, hk, rfl⟩ := List.mem_map.mp q
        rw [fzH_at ks H1 knd k hk] at hDl
        cases hDl
      have uD : thaw ks H2 Dl = some (.lst (intsV (moreOf ms met))) := by
        have e2 := e.2
        rw [show (intsV met).length = met.length by simp [intsV], List.take_length] at e2
        rw [thaw_off ks H2 doff]
        exact e2
      refine lkD_nx ks _ _ _ knd kf ?_
      have s2 := s1.trans s12
      generalize thaw ks H2 = H3 at s2 s12 uD ⊢
      have hM3 := hM.same s2
      have mlt3 : ∀ i ∈ moreOf ms met, i < ms.length := fun i hi => moreOf_lt hT.1 hi
      have mlen := moreOf_length h5 met
      refine ⟨_, rfl, Dl, (moreOf ms met).map (fun (i : Nat) => (i : Int)), rfl, SqL.of (by rw [← ints_nat]; exact uD), by simp; omega, fun S1 c hS1 _ hc => ?_⟩
      have hc40 : c ≤ 40 := Nat.le_trans (hc ms.length fun n hn => by
        obtain ⟨i, hi, rfl⟩ := List.mem_map.mp hn
        have := mlt3 i hi
        omega) h40
      obtain ⟨s4, u4⟩ := laid (SetO _ S1 (fun j => decide (j ∈ (moreOf ms met).map (fun (i : Nat) => (i : Int)))) c) hS1
      generalize upd H3 S1 (SetO _ S1 (fun j => decide (j ∈ (moreOf ms met).map (fun (i : Nat) => (i : Int)))) c) = H4 at s4 u4 ⊢
      refine ⟨S1, _, _, rfl, u4, by omega, fun ns q1 hns hmem hnl hq1 => ?_⟩
      obtain ⟨s5, u5⟩ := laid (.lst (ns.map V.int)) hq1
      generalize upd H4 q1 (.lst (ns.map V.int)) = H5 at s5 u5 ⊢
      have s35 := s4.trans s5
      have s15 := s12.trans s35
      have nsm : ∀ k : Int, k ∈ ns ↔ ∃ i ∈ moreOf ms met, (i : Int) = k := fun k => by
        rw [hmem k, decide_eq_true_iff, List.mem_map]
      have ens : ns.map V.int = intsV (ns.map Int.toNat) := by
        rw [intsV, List.map_map]
        refine List.map_congr_left fun k hk => ?_
        obtain ⟨i, _, rfl⟩ := (nsm k).mp hk
        rfl
      have nsn : (ns.map Int.toNat).Nodup := by
        refine (List.pairwise_map.mpr (hns.imp_of_mem fun {a b} ha hb h => ?_))
        obtain ⟨i, _, rfl⟩ := (nsm a).mp ha
        obtain ⟨j, _, rfl⟩ := (nsm b).mp hb
        simp
        omega
      have nsi : ∀ i : Nat, i ∈ ns.map Int.toNat ↔ i ∈ moreOf ms met := fun i => by
        rw [List.mem_map]
        constructor
        · rintro ⟨k, hk, rfl⟩
          obtain ⟨j, hj, rfl⟩ := (nsm k).mp hk
          exact hj
        · intro hi
          exact ⟨i, (nsm i).mpr ⟨i, hi, rfl⟩, rfl⟩
      rw [ens] at u5
      generalize ns.map Int.toNat = nn at u5 nsn nsi
      have flt : ∀ l : List Nat, (intsV l).all flatV = true := fun l => by
        rw [intsV, List.all_map]
        exact List.all_eq_true.mpr fun _ _ => rfl
      have nnl : nn.length ≤ 40 := Nat.le_trans (nodup_sub (l' := List.range ms.length) nsn fun x hx => List.mem_range.mpr (mlt3 x ((nsi x).mp hx))) (by rw [List.length_range]; exact h40)
      refine ⟨q1, rfl, ⟨_, SqL.of u5⟩, fun D2 hD2 => lc_lst (SqL.of u5) hD2 (by simp [intsV]; omega) (fun x => !inV x (intsV met)) (fun x => x) (fun x _ => rfl) (fun x hx acc Q q => ?_) (fun x hx _ acc Q q => ⟨_, rfl, q⟩) ?_⟩
      · obtain ⟨z, hz, rfl⟩ := List.mem_map.mp hx
        exact ⟨_, rfl, _, rfl, p, _, rfl, .inl (seqL_upd (SqL.of (s15 _ _ u1)) hD2), rfl, flt _, _, rfl, q⟩
      have ef : ((intsV nn).filter fun x => !inV x (intsV met)).map (fun x => x) = intsV (nn.filter fun i => !decide (i ∈ met)) := by
        rw [List.map_id', show intsV nn = nn.map (fun (i : Nat) => V.int (i : Int)) from rfl, List.filter_map]
        refine congrArg (List.map fun (i : Nat) => V.int (i : Int)) (List.filter_congr fun i _ => ?_)
        rw [Function.comp_apply, inV_ints]
      rw [ef]
      obtain ⟨s6, u6⟩ := laid (.lst (intsV (nn.filter fun i => !decide (i ∈ met)))) hD2
      generalize upd H5 D2 (.lst (intsV (nn.filter fun i => !decide (i ∈ met)))) = H6 at s6 u6 ⊢
      have s16 := s15.trans s6
      have mem6 : ∀ i, i ∈ nn.filter (fun i => !decide (i ∈ met)) ↔ i ∈ moreOf ms met ∧ i ∉ met := fun i => by
        rw [List.mem_filter, nsi]
        simp
      have nd6 : (nn.filter fun i => !decide (i ∈ met)).Nodup := nsn.filter _
      generalize nn.filter (fun i => !decide (i ∈ met)) = nw at u6 mem6 nd6
      refine ⟨_, rfl, (by show 0 ≤ sizeLine; decide), fun E1 hE1 => ?_⟩
      obtain ⟨s7, u7⟩ := laid (.lst []) hE1
      generalize upd H6 E1 (.lst []) = H7 at s7 u7 ⊢
      have s17 := s16.trans s7
      have shI : ∀ l : List Nat, SeqAt.shaped (.list (l.map fun (i : Nat) => PyData.int (i : Int))) = true := fun l => shapedL fun d hd => by
        obtain ⟨i, _, rfl⟩ := List.mem_map.mp hd
        exact ⟨by rw [PyData.canLay0], by rw [PyData.depth]; omega⟩
      refine ⟨_, _, .lst (SqL.of (s7 _ _ u6)) (dp_ints nw), .lst (SqL.of u7) .nil, shI nw, shI [], _, rfl, ?_⟩
      have s7' := s1.trans s17
      have met' : met.length ≤ ms.length := mle
      cases nw with
      | nil =>
        rw [show PyData.eqv (.list (([] : List Nat).map fun (i : Nat) => PyData.int (i : Int))) (.list []) = true from eqv_self (shI [])]
        have all := met_all hT m0 fun i hi => Classical.byContradiction fun hn => by
          have := (mem6 i).mpr ⟨hi, hn⟩
          cases this
        have ml := met_len mnd mlt all
        refine iteT ⟨_, rfl, p, _, rfl, .inl (SqL.of (s17 _ _ u1)), _, rfl, M, _, rfl, .inl (hM.same s7').1, rfl, _, rfl, ?_⟩
        rw [decide_eq_true (show V.int ((intsV met).length : Nat) = V.int ((ds.map V.ref).length : Nat) by rw [intsV, List.length_map, List.length_map, hM.2.1, ml])]
        refine iteT ⟨_, rfl, _, rfl, M, L, ds, ms, ls, rfl, hM.same s7', Same.seq s7' hL, hlen, by omega, fun m hm => ⟨by have := h5 m hm; omega, hT.1 m hm⟩, fun p8 k H8 _ s8 fx u8 => ?_⟩
        refine ⟨p8, stepN ms k ls, rfl, SqL.of u8, ?_⟩
        rw [show (stepN ms k ls).all id = true from List.all_eq_true.mpr fun b hb => hU k fx b hb]
        exact hQ _ (s7'.trans s8)
      | cons n0 nw =>
        have en : PyData.eqv (.list ((n0 :: nw).map fun (i : Nat) => PyData.int (i : Int))) (.list []) = false := by
          simp [PyData.eqv, PyData.eqvAll]
        rw [en]
        refine iteF ⟨_, rfl, .inl ⟨rfl, _, SqL.of (s17 _ _ u1)⟩, _, rfl, p, _, intsV met, intsV (n0 :: nw), rfl, rfl, s17 _ _ u1, s7 _ _ u6, ?_, ?_⟩
        · have : 100000 < sizeLine := by decide
          have l9 := nodup_sub (l' := List.range ms.length) nd6 fun x hx => List.mem_range.mpr (mlt3 x ((mem6 x).mp hx).1)
          rw [List.length_range] at l9
          simp only [intsV, List.length_map]
          omega
        · have nd9 : (met ++ n0 :: nw).Nodup := List.nodup_append.mpr ⟨mnd, nd6, fun a ha b hb e => ((mem6 b).mp hb).2 (e ▸ ha)⟩
          have lt9 : ∀ s ∈ met ++ n0 :: nw, s < ms.length := fun s hs => by
            rcases List.mem_append.mp hs with hs | hs
            · exact mlt s hs
            · exact mlt3 s ((mem6 s).mp hs).1
          have le9 := nodup_sub (l' := List.range ms.length) nd9 fun x hx => List.mem_range.mpr (lt9 x hx)
          rw [List.length_range] at le9
          refine ⟨_, ?_, met ++ n0 :: nw, p, _, _, _, rfl, rfl, nd9, lt9, List.mem_append_left _ m0, le9, fun b o q => ?_, hp, ?_⟩
          · simp only [List.length_append, List.length_cons] at le9 ⊢
            omega
          · rw [upd_ne (ne_of_none q hp)]
            exact s7' _ _ q
          · rw [upd_same]
            simp [intsV]
end
end MN
/-! states of forms: is_state, are_states, in_order; the class Form -/
namespace MN
open PySem PySem.Spec PyProof.Rows L2
/-- a comprehension over a tuple of pairs -/
theorem lc_pairs {K : PySem.W.Frag} {a D : Addr} {H1 : Hp} {σ : L2.St} {vs : List Nat} {te : TE} {j1 j2 : Nat} {Qd : Hp → Prop} (ts : List Addr) (ps : List (V × V)) (hl : ts.length = ps.length) (hs : SqT K H1 a (ts.map V.ref)) (hz : ts.length ≤ 1000) (hD : H1 D = none)
    (hp : ∀ (i : Nat) (t : Addr) (p : V × V), ts[i]? = some t → ps[i]? = some p → SqT K H1 t [p.1, p.2]) (hw : ∀ p ∈ ps, wipe (((wipe σ vs).set j1 (some p.1)).set j2 (some p.2)) vs = wipe σ vs)
    (R : Nat → V → Hp → Prop) (hR : ∀ k v H H', (∀ b o, b ≠ D → H b = some o → H' b = some o) → R k v H → R k v H')
    (he : ∀ (i : Nat) (p : V × V), ps[i]? = some p → ∀ H2, Same H1 H2 → (∃ o, H2 D = some o) → ∀ Q : VK, (∀ y H3, Same H2 H3 → R i y H3 → Q y H3) → te (((wipe σ vs).set j1 (some p.1)).set j2 (some p.2)) H2 Q)
    (hd : ∀ H' outs, Same H1 H' → H' D = some (.lst outs) → outs.length = ps.length → (∀ (k : Nat) (v : V), outs[k]? = some v → R k v H') → Qd H') :
    LcGoal (Itt K a) (gTup K 2 (gCons (gName j1) (gCons (gName j2) gNil))) tYes te vs σ H1 D Qd := by
  refine lc_it walk_tup (fun i H' => Same H1 H' ∧ ∃ outs, H' D = some (.lst outs) ∧ outs.length = i ∧ ∀ (k : Nat) (v : V), outs[k]? = some v → R k v H') ⟨same_new hD, [], upd_same, rfl, fun k v z => by simp at z⟩ (fun i H' _ e => Same.seqT e.1 hs) (fun i x H H' hi e y => ?_) (fun H' e => ?_)
  · obtain ⟨rfl, hx⟩ := y
    obtain ⟨e1, outs, e2, e3, e4⟩ := e
    rw [List.getElem?_map] at hx
    obtain ⟨t, ht, rfl⟩ := Option.map_eq_some_iff.mp hx
    rw [List.length_map] at hi
    have hip : i < ps.length := by omega
    have hpi : ps[i]? = some ps[i] := List.getElem?_eq_getElem hip
    refine ⟨t, _, rfl, Same.seqT e1 (hp i t _ ht hpi), rfl, _, _, rfl, _, _, rfl, rfl, hw _ (List.getElem_mem hip), yes_q (iteT ?_)⟩
    refine he i _ hpi _ e1 ⟨_, e2⟩ _ fun y H3 s3 r3 => ⟨outs, s3 _ _ e2, ?_, fun b o q => ?_, _, upd_same, by rw [List.length_append, e3]; rfl, fun k v z => ?_⟩
    · have : 1000000 < sizeLine := by decide
      omega
    · rw [upd_ne (ne_of_none q hD)]
      exact s3 _ _ (e1 _ _ q)
    · have up : ∀ b o, b ≠ D → H3 b = some o → upd H3 D (.lst (outs ++ [y])) b = some o := fun b o n q => by rw [upd_ne n]; exact q
      rcases Nat.lt_or_ge k outs.length with hk | hk
      · rw [List.getElem?_append_left hk] at z
        exact hR _ _ _ _ (fun b o n q => up b o n (s3 _ _ q)) (e4 k v z)
      · rw [List.getElem?_append_right hk] at z
        have hk2 : k - outs.length = 0 := by
          have := (List.getElem?_eq_some_iff.mp z).1
          simp at this
          omega
        rw [hk2] at z
        obtain rfl : y = v := by simpa using z
        obtain rfl : k = i := by omega
        exact hR _ _ _ _ up r3
  · obtain ⟨e1, outs, e2, e3, e4⟩ := e
    rw [List.length_map] at e3
    exact hd H' outs e1 e2 (by omega) e4
theorem rep_bl {α : Type} {n : Nat} : ∀ (l : List α), l.length = n → l.map (fun _ => V.bl true) = List.replicate n (V.bl true) := fun l h => by
  subst h
  exact List.map_const' ..
section
variable {P : Program} {w : World} {K : PySem.W.Frag} {mg : Str → Option Value} {base : Heap}
/-- moves of a state: signs, each once, and states below n -/
structure MvOk (n : Nat) (m : Mv) : Prop where
  len : m.length ≤ 5
  sg : ∀ q ∈ m, isSign (.str q.1) = true
  to : ∀ q ∈ m, q.2 < n
  nd : (m.map (·.1)).Nodup
theorem sign_len {z : Str} (h : isSign (.str z) = true) : z.length = 1 := by
  simp [isSign] at h
  exact h.1
/-! ### is_state -/
def spIsState (K : PySem.W.Frag) : Sp := fun vs H Q _ => ∃ t d m l n, vs = [.ref t, .int (n : Nat)] ∧ SqT K H t [.ref d, .bl l] ∧ H d = some (.dK (mvK m)) ∧ MvOk n m ∧ n ≤ 1000 ∧ ∀ H', Same H H' → Q (.bl true) H'
abbrev N_is_state : List Str := ["value", "many", "moves", "last", "sign", "to"]
theorem sc_is_state : FnScope N_is_state ["value", "many"] (defScope (top 34)) := ⟨rfl, rfl, rfl, by decide +kernel, rfl, by decide +kernel, by decide +kernel⟩
theorem c_is_state (A : At K mg "is_state" (top 34)) (B : Blt mg) (c_is_sign : Cal P w K mg base 1 "is_sign" (spIsSign K)) (c_is_integer : Cal P w K mg base 1 "is_integer" (spIsInt K)) : Cal P w K mg base 2 "is_state" (spIsState K) := by
  refine cal_of A sc_is_state (fun _ _ _ _ _ _ us hl => match us, hl with | [_, _], _ => rfl) (fun vs H Q E h => ?_) (fun _ cdv A outer s H vs Q E hr h => ?_)
  · obtain ⟨_, _, _, _, _, rfl, _⟩ := h; rfl
  · obtain ⟨t, d, m, l, n, rfl, ht, hd, hm, hn, hQ⟩ := h
    refine ⟨_, (pss_cons (ps_if (PW.pt (pw_or (pt_not (pt_val (pe_callB call_isS (by rfl) B.isinstance (by decide +kernel) (pa_cons (pv 0) (pa_cons (pe_bltn (v := .ty "tuple") (by rfl) B.tuple (by decide +kernel) rfl) pa_nil))))) (pw_or1 (pt_cmpR op_ne (pe_callB call_len_seq (by rfl) B.len (by decide +kernel) (pa_cons (pv 0) pa_nil)) pe_int (nomark _)))))
        (pss_one (ps_ret pe_bl))
        pss_nil)
      (pss_cons (ps_asg (pv 0) (pg_tup rfl (pgs_cons (pg_name (i := 2) sc_is_state.nd rfl (Or.inl rfl)) (pgs_cons (pg_name (i := 3) sc_is_state.nd rfl (Or.inl rfl)) pgs_nil))))
      (pss_cons (ps_if (PW.pt (pw_or (pt_not (pt_val (pe_callB call_isS (by rfl) B.isinstance (by decide +kernel) (pa_cons (pv 2) (pa_cons (pe_bltn (v := .ty "dict") (by rfl) B.dict (by decide +kernel) rfl) pa_nil))))) (pw_or (pt_not (pt_val (pe_callB call_isS (by rfl) B.isinstance (by decide +kernel) (pa_cons (pv 3) (pa_cons (pe_bltn (v := .ty "bool") (by rfl) B.bool (by decide +kernel) rfl) pa_nil))))) (pw_or1 (pt_not (pt_val (pe_callB (cr_all rfl) (by rfl) B.all (by decide +kernel) (pa_cons (pe_lock (pe_lc (own := [("sign", 4)]) (g := gName 4) (tt := tYes) (by rfl) sc_is_state.nd (pi_keys (pv 2)) (blkOk_by (own := [("sign", 4)]) (N := N_is_state) (sc := defScope (top 34)) (by decide +kernel)) (fun _ _ _ _ _ => (pg_name (i := 4) sc_is_state.nd rfl (Or.inl rfl))) (fun _ _ _ _ _ => pts_nil) (fun _ _ _ _ _ => (pe_c c_is_sign hr (by decide) (by rfl) (pa_cons (pv 4) pa_nil))))) pa_nil))))))))
        (pss_one (ps_ret pe_bl))
        pss_nil)
      (pss_one (ps_ret (pe_callB (cr_all rfl) (by rfl) B.all (by decide +kernel) (pa_cons (pe_lock (pe_lc (own := [("to", 5)]) (g := gName 5) (tt := tYes) (by rfl) sc_is_state.nd (pi_values (pv 2)) (blkOk_by (own := [("to", 5)]) (N := N_is_state) (sc := defScope (top 34)) (by decide +kernel)) (fun _ _ _ _ _ => (pg_name (i := 5) sc_is_state.nd rfl (Or.inl rfl))) (fun _ _ _ _ _ => pts_nil) (fun _ _ _ _ _ => (pe_and (pe_c c_is_integer hr (by decide) (by rfl) (pa_cons (pv 5) pa_nil)) (pe_one (pe_chain op_le op_lt pe_int (pv 5) (pv 1))))))) pa_nil))))))), ?_⟩
    refine ⟨_, rfl, _, _, true, rfl, .ty (tyT ht) (by decide +kernel), _, rfl, iteF ?_⟩
    refine ⟨_, rfl, t, _, rfl, .inr ht, rfl, _, rfl, iteF ?_⟩
    refine ⟨_, rfl, t, _, rfl, ht, rfl, _, _, rfl, _, _, rfl, rfl, ?_⟩
    refine ⟨_, rfl, _, _, true, rfl, .ty (.base (.dK hd)) (by decide +kernel), _, rfl, iteF ?_⟩
    refine ⟨_, rfl, _, _, true, rfl, .ty (.base (.bl l)) (by decide +kernel), _, rfl, iteF ?_⟩
    refine ⟨d, _, hd, trivial, fun od => ⟨_, rfl, d, od, rfl, .inl ⟨_, upd_same, fun D hD => ?_⟩⟩⟩
    have ml : m.length ≤ 5 := hm.len
    refine lc_keysL hd hD (by simp [mvK]; omega) (fun _ => true) (fun _ => .bl true) (fun x _ => rfl) (fun x _ H3 _ _ Q q => q) (fun x hx _ H3 f3 k3 Q q => ?_) (fun H3 f3 s3 h3 => ⟨f3, ?_⟩)
    · obtain ⟨kv, hkv, rfl⟩ := List.mem_map.mp hx
      obtain ⟨q0, hq0, rfl⟩ := List.mem_map.mp hkv
      have e := hm.sg q0 hq0
      refine ⟨_, rfl, .str q0.1, rfl, ValOk.str (by rw [sign_len e]; decide), ?_⟩
      rw [e]
      exact q
    · refine ⟨D, List.replicate m.length true, rfl, .inl (.inl ?_), ?_⟩
      · rw [h3, filter_all, List.map_replicate]
        exact congrArg (fun l => some (HO.lst l)) (rep_bl _ (by simp [mvK]))
      · rw [show (List.replicate m.length true).all id = true by simp]
        refine ⟨_, rfl, iteF ?_⟩
        generalize upd H3 d (.dK (mvK m)) = H4 at s3 ⊢
        have hd4 := s3 _ _ hd
        refine ⟨d, _, hd4, trivial, fun od => ⟨_, rfl, d, od, _, rfl, upd_same, fun D2 hD2 => ?_⟩⟩
        refine lc_valsL hd4 hD2 (by simp [mvK]; omega) (fun _ => true) (fun _ => .bl true) (fun x _ => rfl) (fun x _ H3 _ _ Q q => q) (fun x hx _ H5 f5 k5 Q q => ?_) (fun H5 f5 s5 h5 => ⟨f5, ?_⟩)
        · obtain ⟨kv, hkv, rfl⟩ := List.mem_map.mp hx
          obtain ⟨q0, hq0, rfl⟩ := List.mem_map.mp hkv
          have e := hm.to q0 hq0
          refine ⟨_, rfl, .int (q0.2 : Nat), rfl, .inl ⟨_, rfl, ?_⟩⟩
          rw [isInt_of (by omega) (by omega)]
          refine ⟨_, rfl, iteT ⟨_, rfl, _, _, rfl, rfl, _, rfl, ?_⟩⟩
          rw [decide_eq_true (show (0 : Int) ≤ (q0.2 : Nat) by omega)]
          refine iteT ⟨_, rfl, _, _, rfl, rfl, ?_⟩
          have e2 : decide (((q0.2 : Nat) : Int) < (n : Nat)) = true := decide_eq_true (by omega)
          show Q (.bl (decide (((q0.2 : Nat) : Int) < (n : Nat)))) H5
          rw [e2]
          exact q
        · refine ⟨D2, List.replicate m.length true, rfl, .inl (.inl ?_), ?_⟩
          · rw [h5, filter_all, List.map_replicate]
            exact congrArg (fun l => some (HO.lst l)) (rep_bl _ (by simp [mvK]))
          · rw [show (List.replicate m.length true).all id = true by simp]
            exact hQ _ (s3.trans s5)
end
end MN
/-! are_states, in_order, Form.__init__, Form.__len__ -/
namespace MN
open PySem PySem.Spec PyProof.Rows L2
section
variable {P : Program} {w : World} {K : PySem.W.Frag} {mg : Str → Option Value} {base : Heap}
/-- a tuple of states -/
structure StsAt (K : PySem.W.Frag) (H : Hp) (T : Addr) (ts ds : List Addr) (ms : List Mv) (ls : List Bool) : Prop where
  tup : SqT K H T (ts.map V.ref)
  lt : ts.length = ms.length
  ll : ls.length = ms.length
  dc : DctsAt H ds ms
  pr : ∀ (i : Nat) t d l, ts[i]? = some t → ds[i]? = some d → ls[i]? = some l → SqT K H t [.ref d, .bl l]
theorem StsAt.same {H H' : Hp} {T : Addr} {ts ds : List Addr} {ms : List Mv} {ls : List Bool} (h : StsAt K H T ts ds ms ls) (e : Same H H') : StsAt K H' T ts ds ms ls := ⟨Same.seqT e h.tup, h.lt, h.ll, h.dc.same e, fun i t d l h1 h2 h3 => Same.seqT e (h.pr i t d l h1 h2 h3)⟩
/-- what a form's states must be -/
structure StsOk (ms : List Mv) (ls : List Bool) : Prop where
  pos : 0 < ms.length
  few : ms.length ≤ 8
  mv : ∀ m ∈ ms, MvOk ms.length m
  tree : Tree ms
  use : ∀ k, stepU ms (stepN ms k ls) = stepN ms k ls → ∀ b ∈ stepN ms k ls, b = true
def pairsOf (ds : List Addr) (ls : List Bool) : List (V × V) := (ds.zip ls).map fun p => (.ref p.1, .bl p.2)
theorem pairsOf_get {ds : List Addr} {ls : List Bool} {i : Nat} {p : V × V} (h : (pairsOf ds ls)[i]? = some p) : ∃ d l, ds[i]? = some d ∧ ls[i]? = some l ∧ p = (.ref d, .bl l) := by
  rw [pairsOf, List.getElem?_map] at h
  obtain ⟨q, hq, rfl⟩ := Option.map_eq_some_iff.mp h
  obtain ⟨h1, h2⟩ := List.getElem?_zip_eq_some.mp hq
  exact ⟨_, _, h1, h2, rfl⟩
theorem StsAt.pairs {H : Hp} {T : Addr} {ts ds : List Addr} {ms : List Mv} {ls : List Bool} (h : StsAt K H T ts ds ms ls) : ts.length = (pairsOf ds ls).length ∧ ∀ (i : Nat) (t : Addr) (p : V × V), ts[i]? = some t → (pairsOf ds ls)[i]? = some p → SqT K H t [p.1, p.2] := by
  refine ⟨?_, fun i t p h1 h2 => ?_⟩
  · have := h.dc.1
    have := h.lt
    have := h.ll
    simp [pairsOf]
    omega
  · obtain ⟨d, l, h3, h4, rfl⟩ := pairsOf_get h2
    exact h.pr i t d l h1 h3 h4
def spAreStates (K : PySem.W.Frag) : Sp := fun vs H Q _ => ∃ T ts ds ms ls, vs = [.ref T] ∧ StsAt K H T ts ds ms ls ∧ ds.Nodup ∧ StsOk ms ls ∧ ∀ H', Same H H' → Q (.bl true) H'
abbrev N_are_states : List Str := ["value", "pair", "moves", "last"]
theorem sc_are_states : FnScope N_are_states ["value"] (defScope (top 35)) := ⟨rfl, rfl, rfl, by decide +kernel, rfl, by decide +kernel, by decide +kernel⟩
theorem c_are_states (A : At K mg "are_states" (top 35)) (B : Blt mg) (G : GlC mg "MAX_WRITTEN" (.int 8)) (c_is_state : Cal P w K mg base 2 "is_state" (spIsState K)) (c_are_useful : Cal P w K mg base 2 "are_useful" (spAreUseful K)) : Cal P w K mg base 3 "are_states" (spAreStates K) := by
  refine cal_of A sc_are_states (fun _ _ _ _ _ _ us hl => match us, hl with | [_], _ => rfl) (fun vs H Q E h => ?_) (fun _ cdv A outer s H vs Q E hr h => ?_)
  · obtain ⟨_, _, _, _, _, rfl, _⟩ := h; rfl
  · obtain ⟨T, ts, ds, ms, ls, rfl, hS, hnd, hO, hQ⟩ := h
    refine ⟨_, (pss_cons (ps_if (PW.pt (pw_or (pt_not (pt_val (pe_callB call_isS (by rfl) B.isinstance (by decide +kernel) (pa_cons (pv 0) (pa_cons (pe_bltn (v := .ty "tuple") (by rfl) B.tuple (by decide +kernel) rfl) pa_nil))))) (pw_or1 (pt_not (pt_chain op_le op_le pe_int (pe_callB call_len_seq (by rfl) B.len (by decide +kernel) (pa_cons (pv 0) pa_nil)) (pe_gl (by rfl) G))))))
        (pss_one (ps_ret pe_bl))
        pss_nil)
      (pss_cons (ps_if (pt_not (pt_val (pe_callB (cr_all rfl) (by rfl) B.all (by decide +kernel) (pa_cons (pe_lc (own := [("pair", 1)]) (g := gName 1) (tt := tYes) (by rfl) sc_are_states.nd (pi_tup (pv 0)) (blkOk_by (own := [("pair", 1)]) (N := N_are_states) (sc := defScope (top 35)) (by decide +kernel)) (fun _ _ _ _ _ => (pg_name (i := 1) sc_are_states.nd rfl (Or.inl rfl))) (fun _ _ _ _ _ => pts_nil) (fun _ _ _ _ _ => (pe_c c_is_state hr (by decide) (by rfl) (pa_cons (pv 1) (pa_cons (pe_callB (lenK (K := K) rfl) (by rfl) B.len (by decide +kernel) (pa_cons (pv 0) pa_nil)) pa_nil))))) pa_nil))))
        (pss_one (ps_ret pe_bl))
        pss_nil)
      (pss_one (ps_ret (pe_c c_are_useful hr (by decide) (by rfl) (pa_cons (pe_lc (own := [("moves", 2), ("last", 3)]) (tt := tYes) (by rfl) sc_are_states.nd (pi_tup (pv 0)) (blkOk_by (own := [("moves", 2), ("last", 3)]) (N := N_are_states) (sc := defScope (top 35)) (by decide +kernel)) (fun _ _ _ _ _ => (pg_tupK (K := K) (n := 2) rfl rfl (pgs_cons (pg_name (i := 2) sc_are_states.nd rfl (Or.inl rfl)) (pgs_cons (pg_name (i := 3) sc_are_states.nd rfl (Or.inl rfl)) pgs_nil)))) (fun _ _ _ _ _ => pts_nil) (fun _ _ _ _ _ => (pv 2))) (pa_cons (pe_lc (own := [("moves", 2), ("last", 3)]) (tt := tYes) (by rfl) sc_are_states.nd (pi_tup (pv 0)) (blkOk_by (own := [("moves", 2), ("last", 3)]) (N := N_are_states) (sc := defScope (top 35)) (by decide +kernel)) (fun _ _ _ _ _ => (pg_tupK (K := K) (n := 2) rfl rfl (pgs_cons (pg_name (i := 2) sc_are_states.nd rfl (Or.inl rfl)) (pgs_cons (pg_name (i := 3) sc_are_states.nd rfl (Or.inl rfl)) pgs_nil)))) (fun _ _ _ _ _ => pts_nil) (fun _ _ _ _ _ => (pv 3))) pa_nil))))))), ?_⟩
    have lts := hS.lt
    have p0 := hO.pos
    have p8 := hO.few
    refine ⟨_, rfl, _, _, true, rfl, .ty (tyT hS.tup) (by decide +kernel), _, rfl, iteF ?_⟩
    refine ⟨_, rfl, T, _, rfl, .inr hS.tup, _, _, rfl, rfl, _, rfl, ?_⟩
    rw [decide_eq_true (show (1 : Int) ≤ ((ts.map V.ref).length : Nat) by rw [List.length_map]; omega)]
    refine iteT ⟨_, _, rfl, rfl, _, rfl, ?_⟩
    rw [decide_eq_true (show (((ts.map V.ref).length : Nat) : Int) ≤ 8 by rw [List.length_map]; omega)]
    refine iteF ?_
    refine ⟨_, rfl, T, rfl, ⟨_, hS.tup⟩, fun D hD => lc_tplE hS.tup hD (by rw [List.length_map]; omega) (fun _ => true) (fun _ => .bl true) (fun x _ => rfl) (fun x _ H2 e2 Q q => q _ (Same.refl _)) (fun x hx _ H2 e2 Q q => ?_) (fun H2 e2 u2 => ?_)⟩
    · obtain ⟨t, ht, rfl⟩ := List.mem_map.mp hx
      obtain ⟨i, hi⟩ := List.getElem?_of_mem ht
      have il : i < ms.length := by have := (List.getElem?_eq_some_iff.mp hi).1; omega
      have hS2 := hS.same e2
      have dl : i < ds.length := by rw [hS.dc.1]; exact il
      have li : i < ls.length := by rw [hS.ll]; exact il
      have h1 := List.getElem?_eq_getElem dl
      have h2 := List.getElem?_eq_getElem li
      have h3 := List.getElem?_eq_getElem il
      refine ⟨_, rfl, _, rfl, T, _, rfl, .inr hS2.tup, t, ds[i], ms[i], ls[i], ms.length, ?_, hS2.pr i t _ _ hi h1 h2, hS2.dc.2 i _ _ h1 h3, hO.mv _ (List.getElem_mem il), by omega, fun H3 e3 => q _ e3⟩
      rw [List.length_map, lts]
      rfl
    · refine ⟨D, List.replicate ts.length true, rfl, .inl (.inl ?_), ?_⟩
      · rw [u2, filter_all, List.map_replicate]
        exact congrArg (fun l => some (HO.lst l)) (rep_bl _ (by simp))
      · rw [show (List.replicate ts.length true).all id = true by simp]
        refine ⟨_, rfl, iteF ?_⟩
        have hS2 := hS.same e2
        obtain ⟨pl, pp⟩ := hS2.pairs
        refine ⟨_, rfl, T, rfl, ⟨_, hS2.tup⟩, fun D3 hD3 => lc_pairs ts (pairsOf ds ls) pl hS2.tup (by omega) hD3 pp (fun p _ => rfl) (fun k v _ => ∃ d, ds[k]? = some d ∧ v = .ref d) (fun _ _ _ _ _ r => r) (fun i p hp H4 e4 _ Q q => ?_) (fun H4 outs e4 u4 l4 r4 => ?_)⟩
        · obtain ⟨d, l, h1, h2, rfl⟩ := pairsOf_get hp
          exact ⟨_, rfl, q _ _ (Same.refl _) ⟨d, h1, rfl⟩⟩
        · have eo : outs = ds.map V.ref := by
            refine List.ext_getElem? fun k => ?_
            rw [List.getElem?_map]
            cases h : outs[k]? with
            | none =>
              have : outs.length ≤ k := List.getElem?_eq_none_iff.mp h
              have : ds.length ≤ k := by have := hS.dc.1; omega
              rw [List.getElem?_eq_none this]; rfl
            | some v =>
              obtain ⟨d, h1, rfl⟩ := r4 k v h
              rw [h1]; rfl
          subst eo
          have hS4 := hS2.same e4
          obtain ⟨pl, pp⟩ := hS4.pairs
          refine ⟨_, rfl, T, rfl, ⟨_, hS4.tup⟩, fun D5 hD5 => lc_pairs ts (pairsOf ds ls) pl hS4.tup (by omega) hD5 pp (fun p _ => rfl) (fun k v _ => ∃ l, ls[k]? = some l ∧ v = .bl l) (fun _ _ _ _ _ r => r) (fun i p hp H5 e5 _ Q q => ?_) (fun H5 outs e5 u5 l5 r5 => ?_)⟩
          · obtain ⟨d, l, h1, h2, rfl⟩ := pairsOf_get hp
            exact ⟨_, rfl, q _ _ (Same.refl _) ⟨l, h2, rfl⟩⟩
          · have eo : outs = ls.map V.bl := by
              refine List.ext_getElem? fun k => ?_
              rw [List.getElem?_map]
              cases h : outs[k]? with
              | none =>
                have : outs.length ≤ k := List.getElem?_eq_none_iff.mp h
                have : ls.length ≤ k := by have := hS.ll; omega
                rw [List.getElem?_eq_none this]; rfl
              | some v =>
                obtain ⟨d, h1, rfl⟩ := r5 k v h
                rw [h1]; rfl
            subst eo
            exact ⟨D3, D5, ds, ms, ls, rfl, ⟨SqL.of (e5 _ _ u4), (hS4.same e5).dc⟩, hnd, SqL.of u5, hS.ll, p0, by omega, fun m hm => (hO.mv m hm).len, hO.tree, hO.use, fun H6 e6 => hQ _ (((e2.trans e4).trans e5).trans e6)⟩
/-! ### in_order -/
theorem valV_mem {m : Mv} {z : Str} (h : z ∈ m.map (·.1)) : ∃ i : Nat, valV (mvK m) (.inr z) = some (.int (i : Int)) := by
  induction m with
  | nil => cases h
  | cons q m ih =>
    by_cases e : q.1 = z
    · exact ⟨q.2, valV_pos (p := ((.inr q.1 : Key), V.int (q.2 : Int))) (by rw [e])⟩
    · have h' : z ∈ m.map (·.1) := by
        rcases List.mem_cons.mp h with h | h
        · exact absurd h.symm e
        · exact h
      obtain ⟨i, hi⟩ := ih h'
      exact ⟨i, (valV_neg (p := ((.inr q.1 : Key), V.int (q.2 : Int))) fun z' => e (Sum.inr.inj z')).trans hi⟩
def spInOrder : Sp := fun vs H Q _ => ∃ d m, vs = [.ref d] ∧ H d = some (.dK (mvK m)) ∧ m.length ≤ 5 ∧ ∀ q H' kvs, H q = none → Same H H' → H' q = some (.dK kvs) → Q (.ref q) H'
abbrev N_in_order : List Str := ["moves", "sign"]
theorem sc_in_order : FnScope N_in_order ["moves"] (defScope (top 36)) := ⟨rfl, rfl, rfl, by decide +kernel, rfl, by decide +kernel, by decide +kernel⟩
theorem c_in_order (A : At K mg "in_order" (top 36)) (B : Blt mg) : Cal P w K mg base 1 "in_order" spInOrder := by
  refine cal_of A sc_in_order (fun _ _ _ _ _ _ us hl => match us, hl with | [_], _ => rfl) (fun vs H Q E h => ?_) (fun _ cdv A outer s H vs Q E hr h => ?_)
  · obtain ⟨_, _, rfl, _⟩ := h; rfl
  · obtain ⟨d, m, rfl, hd, h5, hQ⟩ := h
    refine ⟨_, pss_one (ps_ret (pe_dc (own := [("sign", 1)]) (g := gName 1) (tt := tYes) rfl sc_in_order.nd (pi_list (pe_callB (call_sortedD rfl) (by rfl) B.sorted (by decide +kernel) (pa_cons (pv 0) pa_nil)))
        (blkOk_by (own := [("sign", 1)]) (N := N_in_order) (sc := defScope (top 36)) (by decide +kernel)) (fun _ _ _ _ _ => (pg_name (i := 1) sc_in_order.nd rfl (Or.inl rfl))) (fun _ _ _ _ _ => pts_nil) (fun _ _ _ _ _ => pv 1) (fun _ _ _ _ _ => pe_dget (hu_of hr) (pv 0) (pv 1) (fun _ _ => rfl)))), ?_⟩
    refine ⟨_, rfl, d, mvK m, m.map (·.1), rfl, .inl hd, by simp [mvK], by rw [List.length_map]; omega, fun ys p hys _ hp => ?_⟩
    have hyl : ys.length ≤ 5 := by rw [hys.length_eq, List.length_map]; exact h5
    obtain ⟨s1, u1⟩ := laid (.lst (ys.map V.str)) hp
    generalize upd H p (.lst (ys.map V.str)) = H1 at s1 u1 ⊢
    refine ⟨p, rfl, ⟨_, SqL.of u1⟩, fun D hD => ?_⟩
    refine dc_it walk_list (fun i H' => Same H1 H' ∧ ∃ kvs, H' D = some (.dK kvs) ∧ kvs.length ≤ i) ⟨same_new hD, _, upd_same, Nat.le_refl _⟩ (fun i H' _ e => Same.seq e.1 (SqL.of u1)) (fun i y H' H2 hi e hy => ?_) (fun H2 e => ?_)
    · obtain ⟨rfl, hy⟩ := hy
      obtain ⟨e3, kvs, hk, hl⟩ := e
      obtain ⟨z, hz, rfl⟩ := List.mem_map.mp (List.mem_of_getElem? hy)
      obtain ⟨n, hn⟩ := valV_mem (hys.mem_iff.mp hz)
      refine ⟨rfl, yes_q (iteT ⟨_, rfl, _, rfl, _, rfl, d, .int n, rfl, .inl ⟨mvK m, .inr z, .inl (e3 _ _ (s1 _ _ hd)), rfl, hn.symm⟩, kvs, .inr z, rfl, hk, ?_, fun b o q => ?_, _, upd_same, ?_⟩)⟩
      · have : 100000 < sizeLine := by decide
        rw [List.length_map] at hi
        omega
      · rw [upd_ne (ne_of_none q hD)]; exact e3 _ _ q
      · have := putK_le kvs (.inr z) (.int n)
        omega
    · obtain ⟨e3, kvs, hk, hl⟩ := e
      exact hQ D H2 kvs (s1.free hD) (s1.trans e3) hk
end
end MN
/-! the class Form: its maker, its length; what is required of forms -/
namespace MN
open PySem PySem.Spec PyProof.Rows L2
section
variable {P : Program} {w : World} {K : PySem.W.Frag} {mg : Str → Option Value} {base : Heap} {C p0 p1 : Addr} {i0 i1 : Nat}
structure FormC (K : PySem.W.Frag) (C p0 p1 : Addr) (i0 i1 : Nat) : Prop where
  sc : SlX.SCls K C
  si : SlX.SIsi K C
  s0 : SlX.Slot1 K C "own_moves" p0 i0
  s1 : SlX.Slot1 K C "own_lasts" p1 i1
  ne : i0 ≠ i1
  isF : PySem.W.kitOne K (.ref C) (.ref C) = some true
  ini : ∃ f fd, Mk K C f ∧ FunAt K "__init__" "Form.__init__" (inClass (top 37) 1) [] f fd
  len : ∃ g fd, PySem.W.findIn K (.ref C) "__len__" = some (some (.ref g)) ∧ PySem.W.isFn K (.ref g) = true ∧ FunAt K "__len__" "Form.__len__" (inClass (top 37) 24) [] g fd
/-- a form: n states, which of them are last -/
structure FormAt (K : PySem.W.Frag) (C : Addr) (i0 i1 : Nat) (H : Hp) (x dx M L : Addr) (n : Nat) (ls : List Bool) : Prop where
  ex : ∃ ws, SlX.Slt H x C dx ws ∧ ws[i0]? = some (some (.ref M)) ∧ ws[i1]? = some (some (.ref L))
  mv : ∃ xs, SqL K H M xs ∧ xs.length = n
  la : SqL K H L (ls.map V.bl)
  ll : ls.length = n
theorem FormAt.same {H H' : Hp} {x dx M L : Addr} {n : Nat} {ls : List Bool} (h : FormAt K C i0 i1 H x dx M L n ls) (e : Same H H') : FormAt K C i0 i1 H' x dx M L n ls := by
  obtain ⟨⟨ws, h1, h2, h3⟩, ⟨xs, h4, h5⟩, h6, h7⟩ := h
  exact ⟨⟨ws, slt_same e h1, h2, h3⟩, ⟨xs, Same.seq e h4, h5⟩, Same.seq e h6, h7⟩
/-! ### what is apart from a new instance -/
theorem kp_seqT {x dx : Addr} {H H' : Hp} {t : Addr} {xs : List V} (k : Kp x dx H H') (hx : H x = some (.ins C dx [])) (hd : H dx = some (.own x)) (h : SqT K H t xs) : SqT K H' t xs := by
  rcases h with (h | ⟨o, h⟩) | h
  · exact .inl (.inl (k _ _ (fun e => by rw [e, hx] at h; cases h) (fun e => by rw [e, hd] at h; cases h) h))
  · exact .inl (.inr ⟨o, k _ _ (fun e => by rw [e, hx] at h; cases h) (fun e => by rw [e, hd] at h; cases h) h⟩)
  · exact .inr h
theorem kp_sts {x dx : Addr} {H H' : Hp} {T : Addr} {ts ds : List Addr} {ms : List Mv} {ls : List Bool} (k : Kp x dx H H') (hx : H x = some (.ins C dx [])) (hd : H dx = some (.own x)) (h : StsAt K H T ts ds ms ls) : StsAt K H' T ts ds ms ls := by
  refine ⟨kp_seqT k hx hd h.tup, h.lt, h.ll, ⟨h.dc.1, fun i d m h1 h2 => ?_⟩, fun i t d l h1 h2 h3 => kp_seqT k hx hd (h.pr i t d l h1 h2 h3)⟩
  have q := h.dc.2 i d m h1 h2
  exact k _ _ (fun e => by rw [e, hx] at q; cases q) (fun e => by rw [e, hd] at q; cases q) q
/-! ### Form.__init__ -/
def spFormInit (K : PySem.W.Frag) (C : Addr) (i0 i1 : Nat) : Sp := fun vs H Q _ => ∃ x dx T ts ds ms ls, vs = [.ref x, .ref T] ∧ H x = some (.ins C dx []) ∧ H dx = some (.own x) ∧ dx ≠ x ∧ StsAt K H T ts ds ms ls ∧ ds.Nodup ∧ StsOk ms ls ∧
  ∀ H' M L, Kp x dx H H' → H M = none → H L = none → FormAt K C i0 i1 H' x dx M L ms.length ls → Q .non H'
abbrev N_finit : List Str := ["self", "states", "moves", "last"]
theorem sc_finit : FnScope N_finit ["self", "states"] (defScope (inClass (top 37) 1)) := ⟨rfl, rfl, rfl, by decide +kernel, rfl, by decide +kernel, by decide +kernel⟩
theorem f_finit {f : Addr} {fd : FuncData} (FC : FormC K C p0 p1 i0 i1) (F : FunAt K "__init__" "Form.__init__" (inClass (top 37) 1) [] f fd) (B : Blt mg) (c_are_states : Cal P w K mg base 3 "are_states" (spAreStates K)) (c_in_order : Cal P w K mg base 1 "in_order" spInOrder) : FnOk P w K mg base CX0 4 f fd ["self", "states"] (spFormInit K C i0 i1) := by
  refine fnok_of F sc_finit (fun vs H Q E h => ?_) (fun cdv A outer s H vs Q E hr h => ?_)
  · obtain ⟨x, dx, T, ts, ds, ms, ls, rfl, _⟩ := h; rfl
  · obtain ⟨x, dx, T, ts, ds, ms, ls, rfl, hx, hdx, dxx, hS, hnd, hO, hQ⟩ := h
    refine ⟨_, pss_cons (ps_if (pt_not (pt_val (pe_c c_are_states hr (by decide) (by rfl) (pa_cons (pv 1) pa_nil)))) (pss_one ps_never) pss_nil)
      (pss_cons (SlX.ps_sl (pv 0) (pe_lc (own := [("moves", 2), ("last", 3)]) (tt := tYes) (by rfl) sc_finit.nd (pi_tup (pv 1)) (blkOk_by (own := [("moves", 2), ("last", 3)]) (N := N_finit) (sc := defScope (inClass (top 37) 1)) (by decide +kernel)) (fun _ _ _ _ _ => (pg_tupK (K := K) (n := 2) rfl rfl (pgs_cons (pg_name (i := 2) sc_finit.nd rfl (Or.inl rfl)) (pgs_cons (pg_name (i := 3) sc_finit.nd rfl (Or.inl rfl)) pgs_nil)))) (fun _ _ _ _ _ => pts_nil) (fun _ _ _ _ _ => (pe_c c_in_order hr (by decide) (by rfl) (pa_cons (pv 2) pa_nil)))))
      (pss_one (SlX.ps_sl (pv 0) (pe_lc (own := [("moves", 2), ("last", 3)]) (tt := tYes) (by rfl) sc_finit.nd (pi_tup (pv 1)) (blkOk_by (own := [("moves", 2), ("last", 3)]) (N := N_finit) (sc := defScope (inClass (top 37) 1)) (by decide +kernel)) (fun _ _ _ _ _ => (pg_tupK (K := K) (n := 2) rfl rfl (pgs_cons (pg_name (i := 2) sc_finit.nd rfl (Or.inl rfl)) (pgs_cons (pg_name (i := 3) sc_finit.nd rfl (Or.inl rfl)) pgs_nil)))) (fun _ _ _ _ _ => pts_nil) (fun _ _ _ _ _ => (pv 3)))))), ?_⟩
    refine ⟨_, rfl, T, ts, ds, ms, ls, rfl, hS, hnd, hO, fun H1 e1 => ⟨_, rfl, iteF ?_⟩⟩
    have p8 := hO.few
    have lts := hS.lt
    have hS1 := hS.same e1
    obtain ⟨pl, pp⟩ := hS1.pairs
    refine ⟨_, rfl, T, rfl, ⟨_, hS1.tup⟩, fun D hD => lc_pairs ts (pairsOf ds ls) pl hS1.tup (by omega) hD pp (fun p _ => rfl) (fun k v _ => True) (fun _ _ _ _ _ r => r) (fun i p hp H2 e2 _ Q q => ?_) (fun H2 outs e2 u2 l2 _ => ?_)⟩
    · obtain ⟨d, l, h1, h2, rfl⟩ := pairsOf_get hp
      have il : i < ms.length := by rw [← hS.dc.1]; exact (List.getElem?_eq_some_iff.mp h1).1
      have h3 := List.getElem?_eq_getElem il
      exact ⟨_, rfl, d, ms[i], rfl, e2 _ _ (hS1.dc.2 i _ _ h1 h3), (hO.mv _ (List.getElem_mem il)).len, fun q1 H3 kvs _ e3 _ => q _ _ e3 trivial⟩
    · have hx2 := e2 _ _ (e1 _ _ hx)
      have hd2 := e2 _ _ (e1 _ _ hdx)
      refine ⟨_, rfl, x, C, dx, p0, [], i0, rfl, .inl ⟨hx2, rfl⟩, FC.sc, FC.s0, ?_⟩
      have k2 : Kp x dx H H2 := fun b o _ _ q => e2 _ _ (e1 _ _ q)
      have k23 : Kp x dx H2 (SlX.slH H2 x C dx (SlX.putS i0 (.ref D) [])) := Kp.sl fun b o _ _ q => q
      have k3 : Kp x dx H (SlX.slH H2 x C dx (SlX.putS i0 (.ref D) [])) := k2.sl
      have z3 : SlX.Slt (SlX.slH H2 x C dx (SlX.putS i0 (.ref D) [])) x C dx (SlX.putS i0 (.ref D) []) := SlX.slH_slt dxx
      have Dx : D ≠ x := fun z => by rw [z, e1 _ _ hx] at hD; cases hD
      have Dd : D ≠ dx := fun z => by rw [z, e1 _ _ hdx] at hD; cases hD
      have u3 := k23 _ _ Dx Dd u2
      have hS3 : StsAt K _ T ts ds ms ls := kp_sts k23 hx2 hd2 (hS1.same e2)
      generalize SlX.slH H2 x C dx (SlX.putS i0 (.ref D) []) = H3 at *
      obtain ⟨pl, pp⟩ := hS3.pairs
      refine ⟨_, rfl, T, rfl, ⟨_, hS3.tup⟩, fun D5 hD5 => lc_pairs ts (pairsOf ds ls) pl hS3.tup (by omega) hD5 pp (fun p _ => rfl) (fun k v _ => ∃ l, ls[k]? = some l ∧ v = .bl l) (fun _ _ _ _ _ r => r) (fun i p hp H5 e5 _ Q q => ?_) (fun H5 outs5 e5 u5 l5 r5 => ?_)⟩
      · obtain ⟨d, l, h1, h2, rfl⟩ := pairsOf_get hp
        exact ⟨_, rfl, q _ _ (Same.refl _) ⟨l, h2, rfl⟩⟩
      · have eo : outs5 = ls.map V.bl := by
          refine List.ext_getElem? fun k => ?_
          rw [List.getElem?_map]
          cases h : outs5[k]? with
          | none =>
            have : outs5.length ≤ k := List.getElem?_eq_none_iff.mp h
            have : ls.length ≤ k := by have := hS.ll; omega
            rw [List.getElem?_eq_none this]; rfl
          | some v =>
            obtain ⟨d, h1, rfl⟩ := r5 k v h
            rw [h1]; rfl
        subst eo
        have z5 := slt_same e5 z3
        have xi : ∃ o, H3 x = some o := by
          rcases z3 with ⟨h, _⟩ | ⟨h, _⟩ <;> exact ⟨_, h⟩
        have di : ∃ o, H3 dx = some o := by
          rcases z3 with ⟨h, h'⟩ | ⟨_, h⟩
          · have := SlX.putS_get i0 (.ref D) []
            rw [h'] at this
            simp at this
          · exact ⟨_, h⟩
        obtain ⟨ox, hox⟩ := xi
        obtain ⟨od, hod⟩ := di
        have D5x : D5 ≠ x := fun z => by rw [z, hox] at hD5; cases hD5
        have D5d : D5 ≠ dx := fun z => by rw [z, hod] at hD5; cases hD5
        refine ⟨_, rfl, x, C, dx, p1, _, i1, rfl, z5, FC.sc, FC.s1, ?_⟩
        have k5 : Kp x dx H (SlX.slH H5 x C dx (SlX.putS i1 (.ref D5) (SlX.putS i0 (.ref D) []))) := (k3.same e5).sl
        have k56 : Kp x dx H5 (SlX.slH H5 x C dx (SlX.putS i1 (.ref D5) (SlX.putS i0 (.ref D) []))) := Kp.sl fun b o _ _ q => q
        refine hQ _ D D5 k5 (e1.free hD) ?_ ⟨⟨_, SlX.slH_slt dxx, (SlX.putS_ne FC.ne).mpr (SlX.putS_get ..), SlX.putS_get ..⟩, ⟨outs, SqL.of (k56 _ _ Dx Dd (e5 _ _ u3)), ?_⟩, SqL.of (k56 _ _ D5x D5d u5), hS.ll⟩
        · cases e : H D5 with
          | none => rfl
          | some o =>
            have := k3 _ _ D5x D5d e
            rw [hD5] at this
            cases this
        · rw [l2, ← pl, lts]
/-! ### Form.__len__ -/
def spFormLen (K : PySem.W.Frag) (C : Addr) (i0 i1 : Nat) : Sp := fun vs H Q _ => ∃ x dx M L n ls, vs = [.ref x] ∧ FormAt K C i0 i1 H x dx M L n ls ∧ Q (.int (n : Nat)) H
abbrev N_flen : List Str := ["self"]
theorem sc_flen : FnScope N_flen ["self"] (defScope (inClass (top 37) 24)) := ⟨rfl, rfl, rfl, by decide +kernel, rfl, by decide +kernel, by decide +kernel⟩
theorem f_flen {f : Addr} {fd : FuncData} (FC : FormC K C p0 p1 i0 i1) (F : FunAt K "__len__" "Form.__len__" (inClass (top 37) 24) [] f fd) (B : Blt mg) : FnOk P w K mg base CX0 1 f fd ["self"] (spFormLen K C i0 i1) := by
  refine fnok_of F sc_flen (fun vs H Q E h => ?_) (fun cdv A outer s H vs Q E hr h => ?_)
  · obtain ⟨_, _, _, _, _, _, rfl, _⟩ := h; rfl
  · obtain ⟨x, dx, M, L, n, ls, rfl, ⟨⟨ws, h1, h2, h3⟩, ⟨xs, h4, rfl⟩, h6, h7⟩, hQ⟩ := h
    refine ⟨_, pss_one (ps_ret (pe_callB call_len_seq (by rfl) B.len (by decide +kernel) (pa_cons (SlX.pe_sl (pv 0)) pa_nil))), ?_⟩
    exact ⟨_, rfl, x, C, dx, p0, ws, i0, _, rfl, h1, FC.sc, FC.s0, h2, M, xs, rfl, .inl h4, hQ⟩
theorem r_flen (FC : FormC K C p0 p1 i0 i1) (B : Blt mg) : ∃ g, PySem.W.findIn K (.ref C) "__len__" = some (some (.ref g)) ∧ PySem.W.isFn K (.ref g) = true ∧ FnR P w K mg base CX0 1 g (fun vs H Q E => spFormLen K C i0 i1 (vs ++ []) H Q E) := by
  obtain ⟨g, fd, h1, h2, F⟩ := FC.len
  have b := FunD.bindsN (ps := ["self"]) F fun _ _ _ _ _ _ us hl => match us, hl with | [_], _ => rfl
  exact ⟨g, h1, h2, (f_flen FC F B).raw b .nil⟩
/-! ### require_form, require_small -/
def spReqForm (K : PySem.W.Frag) (C : Addr) (i0 i1 : Nat) : Sp := fun vs H Q _ => ∃ x dx M L n ls, vs = [.ref x] ∧ FormAt K C i0 i1 H x dx M L n ls ∧ n ≤ 6 ∧ Q .non H
theorem sc_require_form : FnScope ["value"] ["value"] (defScope (top 39)) := ⟨rfl, rfl, rfl, by decide +kernel, rfl, by decide +kernel, by decide +kernel⟩
theorem c_require_form (A : At K mg "require_form" (top 39)) (B : Blt mg) (FC : FormC K C p0 p1 i0 i1) (GF : GlC mg "Form" (.ref C)) : Cal P w K mg base 1 "require_form" (spReqForm K C i0 i1) := by
  refine cal_of A sc_require_form (fun _ _ _ _ _ _ us hl => match us, hl with | [_], _ => rfl) (fun vs H Q E h => ?_) (fun _ cdv A outer s H vs Q E hr h => ?_)
  · obtain ⟨_, _, _, _, _, _, rfl, _⟩ := h; rfl
  · obtain ⟨x, dx, M, L, n, ls, rfl, ⟨⟨ws, h1, h2, h3⟩, _⟩, _, hQ⟩ := h
    refine ⟨_, pss_one (ps_if (pt_not (pt_val (pe_callB (SlX.call_isiSl (.ref C)) (by rfl) B.isinstance (by decide +kernel) (pa_cons (pv 0) (pa_cons (pe_gl (by rfl) GF) pa_nil))))) (pss_one ps_never) pss_nil), ?_⟩
    exact ⟨_, rfl, x, C, dx, ws, _, true, rfl, rfl, fun w e => e, h1, FC.sc, FC.si, FC.isF, _, rfl, iteF hQ⟩
theorem sc_require_small : FnScope ["form"] ["form"] (defScope (top 51)) := ⟨rfl, rfl, rfl, by decide +kernel, rfl, by decide +kernel, by decide +kernel⟩
theorem c_require_small (A : At K mg "require_small" (top 51)) (B : Blt mg) (FC : FormC K C p0 p1 i0 i1) (G6 : GlC mg "MAX_SIDE" (.int 6)) : Cal P w K mg base 3 "require_small" (spReqForm K C i0 i1) := by
  refine cal_of A sc_require_small (fun _ _ _ _ _ _ us hl => match us, hl with | [_], _ => rfl) (fun vs H Q E h => ?_) (fun _ cdv A outer s H vs Q E hr h => ?_)
  · obtain ⟨_, _, _, _, _, _, rfl, _⟩ := h; rfl
  · obtain ⟨x, dx, M, L, n, ls, rfl, hF, h6, hQ⟩ := h
    obtain ⟨g, l1, l2, l3⟩ := r_flen (P := P) (w := w) (mg := mg) (base := base) FC B
    refine ⟨_, pss_one (ps_if (pt_cmpR op_gt (pe_callB (call_lenOwn l1 l2 l3 hr pass0) (by rfl) B.len (by decide +kernel) (pa_cons (pv 0) pa_nil)) (pe_gl (by rfl) G6) (nomark _)) (pss_one ps_never) pss_nil), ?_⟩
    have hF0 := hF
    obtain ⟨⟨ws, h1, h2, h3⟩, _⟩ := hF
    refine ⟨_, rfl, x, dx, ws, rfl, h1, x, dx, M, L, n, ls, rfl, hF0, n, rfl, by omega, by omega, _, _, rfl, rfl, _, rfl, ?_⟩
    rw [decide_eq_false (show ¬ ((n : Nat) : Int) > 6 by omega)]
    exact iteF hQ
end
end MN
/-! zip of two sequences, each of them a list or a tuple -/
namespace MN
open PySem PySem.Spec PyProof.Rows L2
def KIt : Bool → Heap → Addr → Addr → Nat → Prop
  | true, h, it, a, i => h.IsTupleIter it a i
  | false, h, it, a, i => h.IsListIter it a i
def KSq : Bool → Heap → Addr → Array Value → Prop
  | true, h, a, xs => h.IsTuple a xs
  | false, h, a, xs => h.IsList a xs
def SqK (K : PySem.W.Frag) : Bool → Hp → Addr → List V → Prop
  | true, H, a, xs => SqT K H a xs
  | false, H, a, xs => SqL K H a xs
def itObj : Bool → Addr → Obj
  | true, a => ⟨.type "tuple_iterator", none, .fields #[.ref a, .int 0 0], #[]⟩
  | false, a => ⟨.type "list_iterator", none, .fields #[.ref a, .int 0 0], #[]⟩
theorem drawsK {prog : Program} {w : World} {A : Around} (hh : A.handled = none) (b : Bool) (it a : Addr) (hne : a ≠ it) (items : Array Value) :
    Draws prog w A it [it, a] items.size (fun i v => items[i]? = some v) (fun i h => KIt b h it a i ∧ KSq b h a items) := by
  cases b with
  | false => exact Draws.list hh it a hne items
  | true => exact Draws.tuple hh it a hne items
theorem beginsK (b : Bool) (a : Addr) (items : Array Value) : Begins (.ref a) (itObj b a) fun h => KSq b h a items := by
  cases b with
  | false => exact begins_list a items
  | true => exact begins_tuple a items
section
variable {b : Bool} {h h' : Heap} {it a : Addr} {i : Nat} {xs : Array Value}
theorem KIt.obj (x : KIt b h it a i) : ∃ o, h.get? it = some o ∧ ∀ v, o.data ≠ .cell v := by
  cases b <;> (obtain ⟨o, e, _, d⟩ := x; exact ⟨o, e, fun v q => by rw [d] at q; cases q⟩)
theorem KIt.keep (x : KIt b h it a i) (k : ∀ o, h.get? it = some o → h'.get? it = some o) : KIt b h' it a i := by
  cases b <;> (obtain ⟨o, e, r⟩ := x; exact ⟨o, k _ e, r⟩)
theorem KIt.of (e : h.get? it = some (itObj b a)) : KIt b h it a 0 := by
  cases b <;> exact ⟨_, e, rfl, rfl⟩
theorem KSq.lt (x : KSq b h a xs) : a < h.objs.size := by
  cases b <;> (obtain ⟨o, e, _⟩ := x; exact Heap.lt_size e)
end
section
variable {X : Cx} {pins : List (Addr × Obj)} {σ : L2.St} {H : Hp} {s : Shared}
theorem seqK {b : Bool} {a : Addr} {xs : List V} (I : Inv X pins σ H s) (h : SqK X.K b H a xs) : ∃ its : List Value, Vals xs its ∧ KSq b s.heap a its.toArray := by
  cases b with
  | false =>
    obtain ⟨its, r, p, _⟩ := I.list h
    exact ⟨its, r, p.isList⟩
  | true =>
    obtain ⟨its, r, p, _⟩ := I.tuple h
    exact ⟨its, r, p⟩
theorem SqK.same {K : PySem.W.Frag} {H H' : Hp} {b : Bool} {a : Addr} {xs : List V} (e : Same H H') (h : SqK K b H a xs) : SqK K b H' a xs := by
  cases b with
  | false => exact Same.seq e h
  | true => exact Same.seqT e h
end
def ItzM (K : PySem.W.Frag) (ba bb : Bool) (a b : Addr) (xs ys : List V) : It :=
  ⟨fun i H => SqK K ba H a xs ∧ SqK K bb H b ys ∧ i < xs.length ∧ i < ys.length,
   YPair (fun i => xs[i]?) (fun i => ys[i]?),
   fun i H => SqK K ba H a xs ∧ SqK K bb H b ys ∧ i = min xs.length ys.length⟩
theorem turn_zipM {P : Program} {w : World} {K : PySem.W.Frag} {elts : List Expr} {kk : Nat} {tpos : Pos} {ba bb : Bool} {a b z TI TO i1 i2 : Addr} {xs ys : List V} (D : ZipSep2 z TI TO i1 i2 [i1, a] [i2, b]) (ha : a ≠ i1) (hb : b ≠ i2) :
    Turn P w K (.Tuple elts kk tpos) (ItzM K ba bb a b xs ys) [z, TI, TO, i1, i2] z (fun i h => IsZip h z TI TO .none ∧ IsTupOf2 h TI (.ref i1) (.ref i2) ∧ (∃ x y, IsTupOf2 h TO x y) ∧ KIt ba h i1 a i ∧ KIt bb h i2 b i) := by
  have obj : ∀ (i : Nat) (h : Heap), (IsZip h z TI TO .none ∧ IsTupOf2 h TI (.ref i1) (.ref i2) ∧ (∃ x y, IsTupOf2 h TO x y) ∧ KIt ba h i1 a i ∧ KIt bb h i2 b i) → ∀ c ∈ [z, TI, TO, i1, i2], ∃ o, h.get? c = some o ∧ ∀ v, o.data ≠ .cell v := fun i h st c hc => by
    obtain ⟨hz, hTI, ⟨x, y, hTO⟩, k1, k2⟩ := st
    simp only [List.mem_cons, List.not_mem_nil, or_false] at hc
    rcases hc with rfl | rfl | rfl | rfl | rfl
    · exact ⟨_, hz, nofun⟩
    · exact ⟨_, hTI, nofun⟩
    · exact ⟨_, hTO, nofun⟩
    · exact k1.obj
    · exact k2.obj
  refine ⟨by simp, obj, fun i h h' st k => ?_, ?_, ?_, fun A i s Q E st h => wpAny_pyIter_zip st.1 h⟩
  · obtain ⟨hz, hTI, ⟨x, y, hTO⟩, k1, k2⟩ := st
    exact ⟨k z (by simp) _ hz, k TI (by simp) _ hTI, ⟨x, y, k TO (by simp) _ hTO⟩, k1.keep (k i1 (by simp)), k2.keep (k i2 (by simp))⟩
  · intro X hP hw hK hc i pins s σ H E I hf st hg
    subst hP hw hK
    have st0 := st
    obtain ⟨hz, hTI, hTO, k1, k2⟩ := st
    obtain ⟨qx, qy, hx, hy⟩ := hg
    obtain ⟨its, rv, p1⟩ := seqK I qx
    obtain ⟨its2, rv2, p2⟩ := seqK I qy
    obtain ⟨u0, hu0, ru⟩ := rv.get (List.getElem?_eq_getElem hx)
    obtain ⟨w0, hw0, rw0⟩ := rv2.get (List.getElem?_eq_getElem hy)
    have l1 := rv.length
    have l2 := rv2.length
    refine (GoesN.zip2 (elts := elts) (x1 := kk) (pos := tpos) D (drawsK (A := X.A.in1) (I.ok.hd hc) ba i1 a ha its.toArray) (drawsK (A := X.A.in1) (I.ok.hd hc) bb i2 b hb its2.toArray)).goes i s _ E (by simp; omega) ⟨hz, hTI, hTO, ⟨k1, p1⟩, ⟨k2, p2⟩⟩ fun v h' tk y st' hk _ => ?_
    obtain ⟨T, u, u2, rfl, hT, hu, hu2, ht⟩ := y
    obtain ⟨hz', hTI', hTO', ⟨k1', _⟩, ⟨k2', _⟩⟩ := st'
    obtain rfl : u0 = u := by simpa [hu0] using hu
    obtain rfl : w0 = u2 := by simpa [hw0] using hu2
    refine ⟨.ref T, upd H T (.tup [xs[i], ys[i]]), I.turnedNew (t' := tk) (ch := [z, TI, TO, i1, i2]) (fun c o hb q => hk c o (fun m => hb ?_) q) hf hT ⟨by show 2 ≤ sizeLine; decide, [u0, w0], .cons ru (.cons rw0 .nil), ht⟩, rfl,
      ⟨T, _, _, rfl, I.hok.fresh hT, rfl, List.getElem?_eq_getElem hx, List.getElem?_eq_getElem hy⟩, ⟨hz', hTI', hTO', k1', k2'⟩, fun c hcm => ?_⟩
    · simp only [List.mem_cons, List.not_mem_nil, or_false] at m ⊢
      rcases m with m | m | m | m
      · exact .inl m
      · exact .inr (.inr (.inl m))
      · exact .inr (.inr (.inr (.inl m)))
      · exact .inr (.inr (.inr (.inr m)))
    · obtain ⟨o, ho, _⟩ := obj i _ st0 c hcm
      have hlt : c < s.heap.objs.size := Heap.lt_size ho
      rw [upd_ne (Nat.ne_of_lt (Nat.lt_of_lt_of_le hlt hT))]
      exact (hf c hcm).1
  · intro X hP hw hK hc i pins s σ H E I hf st hg
    subst hP hw hK
    obtain ⟨hz, hTI, hTO, k1, k2⟩ := st
    obtain ⟨qx, qy, hi⟩ := hg
    obtain ⟨its, rv, p1⟩ := seqK I qx
    obtain ⟨its2, rv2, p2⟩ := seqK I qy
    have l1 := rv.length
    have l2 := rv2.length
    obtain rfl : i = min its.toArray.size its2.toArray.size := by simp; omega
    refine (GoesN.zip2 (elts := elts) (x1 := kk) (pos := tpos) D (drawsK (A := X.A.in1) (I.ok.hd hc) ba i1 a ha its.toArray) (drawsK (A := X.A.in1) (I.ok.hd hc) bb i2 b hb its2.toArray)).stops s _ E ⟨hz, hTI, hTO, ⟨k1, p1⟩, ⟨k2, p2⟩⟩ fun h' tk hk _ => ?_
    refine I.turnedL (t' := tk) (ch := [z, TI, TO, i1, i2]) (fun c o hb q => hk c o (fun m => hb ?_) q) hf
    simp only [List.mem_cons, List.not_mem_nil, or_false] at m ⊢
    rcases m with m | m | m | m
    · exact .inl m
    · exact .inr (.inr (.inl m))
    · exact .inr (.inr (.inr (.inl m)))
    · exact .inr (.inr (.inr (.inr m)))
def iZipM (K : PySem.W.Frag) (ba bb : Bool) (ta : TA) : TI := fun σ H R => ta σ H fun vs H1 => ∃ a b xs ys, vs = [.ref a, .ref b] ∧ SqK K ba H1 a xs ∧ SqK K bb H1 b ys ∧ R (ItzM K ba bb a b xs ys) H1
theorem pi_zipM {X : Cx} {e e2 : Expr} {ta : TA} {p pos tpos : Pos} {elts : List Expr} {kk : Nat} (ba bb : Bool) (hg : Gl X "zip") (hm : X.mg "zip" = none) (ha : PA X [e, e2] ta)
    (hs : starEach [e, e2] X.env = (false, eval e X.env) :: starEach [e2] X.env := by rfl) (hpl : (backTo pos (starEach [e2] X.env)).any (·.1) = false := by rfl) :
    PI X (.Tuple elts kk tpos) (.Call (.Name "zip" p) [e, e2] [] pos) (iZipM X.K ba bb ta) := by
  refine ⟨fun pins s σ H R I h => Call_ (ld_blt I hg hm PyProof.Rows.boot_zip (PyProof.Rows.callWith_type1 (thn (ha.run pos pins s σ H _ I h) fun us s1 ⟨vs, H1, I1, r1, q1⟩ => ?_) hs hpl))⟩
  obtain ⟨a, b, xs, ys, rfl, qx, qy, q⟩ := q1
  obtain ⟨u1, u2, rfl, r2, r3⟩ := vals2 r1
  cases r2
  cases r3
  obtain ⟨its, rv, p1⟩ := seqK I1 qx
  obtain ⟨its2, rv2, p2⟩ := seqK I1 qy
  have la := p1.lt
  have lb := p2.lt
  refine zip_begins2 (beginsK ba a its.toArray) (beginsK bb b its2.toArray) p1 p2 fun h' hz hTI hTO h1 h2 _ hk => wpAny_pyIter_zip hz ?_
  have I2 : Inv X pins σ H1 { s1 with heap := h' } := I1.kept (t' := s1.toks) hk
  refine ⟨s1.heap.objs.size + 4, [s1.heap.objs.size + 4, s1.heap.objs.size + 2, s1.heap.objs.size + 3, s1.heap.objs.size, s1.heap.objs.size + 1], _, _, H1, rfl, I2, turn_zipM (ba := ba) (bb := bb) (zip_sep2 (fp1 := [a]) (fp2 := [b]) ?_ ?_) ?_ ?_, ⟨hz, hTI, ⟨_, _, hTO⟩, KIt.of h1, KIt.of h2⟩, fun c hcm => ?_, q⟩
  · intro c hc; rw [List.mem_singleton.mp hc]; exact la
  · intro c hc; rw [List.mem_singleton.mp hc]; exact lb
  · exact Nat.ne_of_lt la
  · exact Nat.ne_of_lt (Nat.lt_succ_of_lt lb)
  · have hle : s1.heap.objs.size ≤ c := by
      simp only [List.mem_cons, List.not_mem_nil, or_false] at hcm
      rcases hcm with rfl | rfl | rfl | rfl | rfl
      all_goals first | exact Nat.le_refl _ | exact Nat.le_add_right _ _
    exact I1.fpOk hle (I1.hok.fresh hle)
theorem walk_zipM {K : PySem.W.Frag} {ba bb : Bool} {a b : Addr} {xs ys : List V} {n : Nat} (hn : n = min xs.length ys.length) : Walk (ItzM K ba bb a b xs ys) n (fun H => SqK K ba H a xs ∧ SqK K bb H b ys) (YPair (fun i => xs[i]?) (fun i => ys[i]?)) := by
  subst hn
  exact ⟨fun i _ hi q => ⟨q.1, q.2, by omega, by omega⟩, fun _ q => ⟨q.1, q.2, rfl⟩, fun i H v H' _ _ y => y⟩
end MN
/-! rows of numbers: is_plain_row, require_*, is_row, end_cost, cut_row, stands_above -/
namespace MN
open PySem PySem.Spec PyProof.Rows L2
theorem lc_zipM {K : PySem.W.Frag} {ba bb : Bool} {a b D : Addr} {xs ys : List V} {H1 : Hp} {σ : L2.St} {vs : List Nat} {tt : TT} {te : TE} {j1 j2 : Nat} {Qd : Hp → Prop} (hx : SqK K ba H1 a xs) (hy : SqK K bb H1 b ys) (hz : xs.length ≤ 1000) (hD : H1 D = none) (f : V × V → Bool) (v : V × V → V)
    (hw : ∀ p ∈ xs.zip ys, wipe (((wipe σ vs).set j1 (some p.1)).set j2 (some p.2)) vs = wipe σ vs)
    (ht : ∀ p ∈ xs.zip ys, ∀ H2, Same H1 H2 → ∀ (Q : Bool → Hp → Prop), Q (f p) H2 → tt (((wipe σ vs).set j1 (some p.1)).set j2 (some p.2)) H2 Q)
    (he : ∀ p ∈ xs.zip ys, f p = true → ∀ H2, Same H1 H2 → ∀ (Q : VK), (∀ H3, Same H2 H3 → Q (v p) H3) → te (((wipe σ vs).set j1 (some p.1)).set j2 (some p.2)) H2 Q)
    (hd : ∀ H', Same H1 H' → H' D = some (.lst (((xs.zip ys).filter f).map v)) → Qd H') :
    LcGoal (ItzM K ba bb a b xs ys) (gTup K 2 (gCons (gName j1) (gCons (gName j2) gNil))) tt te vs σ H1 D Qd := by
  have ln : (xs.zip ys).length = min xs.length ys.length := List.length_zip ..
  refine lc_it (walk_zipM rfl) (fun i H' => Same H1 H' ∧ H' D = some (.lst ((((xs.zip ys).take i).filter f).map v))) ⟨same_new hD, by rw [List.take_zero]; exact upd_same⟩ (fun i H' _ e => ⟨SqK.same e.1 hx, SqK.same e.1 hy⟩) (fun i x H H' hi e y => ?_) (fun H' e => ?_)
  · obtain ⟨T, x1, y1, rfl, hT, rfl, h1, h2⟩ := y
    obtain ⟨e1, e2⟩ := e
    have hp : (xs.zip ys)[i]? = some (x1, y1) := List.getElem?_zip_eq_some.mpr ⟨h1, h2⟩
    have hm : (x1, y1) ∈ xs.zip ys := List.mem_of_getElem? hp
    have tk : (xs.zip ys).take (i + 1) = (xs.zip ys).take i ++ [(x1, y1)] := by rw [List.take_add_one, hp]; rfl
    have sT := same_new (o := .tup [x1, y1]) hT
    have s1 := e1.trans sT
    refine ⟨T, _, rfl, .inl (.inl upd_same), rfl, _, _, rfl, _, _, rfl, rfl, hw _ hm, ht _ hm _ s1 _ ?_⟩
    cases hf : f (x1, y1) with
    | false =>
      refine iteF ⟨s1, ?_⟩
      rw [tk, List.filter_append, List.filter_cons, hf]
      simpa using sT _ _ e2
    | true =>
      refine iteT (he _ hm hf _ s1 _ fun H3 s3 => ⟨_, s3 _ _ (sT _ _ e2), ?_, fun b o q => ?_, ?_⟩)
      · rw [List.length_map]
        refine Nat.lt_of_le_of_lt (List.length_filter_le _ _) (Nat.lt_of_le_of_lt (List.length_take_le _ _) ?_)
        have : 1000000 < sizeLine := by decide
        omega
      · rw [upd_ne (ne_of_none q hD)]
        exact s3 _ _ (s1 _ _ q)
      · rw [upd_same, tk, List.filter_append, List.filter_cons, hf]
        simp
  · rw [← ln, List.take_length] at e
    exact hd H' e.1 e.2
theorem TyX.same {K : PySem.W.Frag} {H H' : Hp} {v : V} {t : Value} (e : Same H H') (h : TyX K H v t) : TyX K H' v t := by
  cases h with
  | base h =>
    refine .base ?_
    cases h with
    | non => exact .non
    | bl x => exact .bl x
    | int i => exact .int i
    | str x => exact .str x
    | flt x => exact .flt x
    | lst h => exact .lst (e _ _ h)
    | frz h => exact .frz (e _ _ h)
    | tup h => exact .tup (e _ _ h)
    | dK h => exact .dK (e _ _ h)
    | dT h => exact .dT (e _ _ h)
    | ins h h1 h2 h3 h4 h5 => exact .ins (e _ _ h) h1 h2 h3 h4 h5
  | byt b => exact .byt b
  | set h => exact .set (e _ _ h)
  | kList h h1 => exact .kList h h1
  | kTuple h h1 => exact .kTuple h h1
  | kDict h h1 => exact .kDict h h1
  | fTuple h => exact .fTuple (e _ _ h)
  | fDict h => exact .fDict (e _ _ h)
theorem IsX.same {K : PySem.W.Frag} {H H' : Hp} {v : V} {c : String} {b : Bool} (e : Same H H') (h : IsX K H v c b) : IsX K H' v c b := by
  rcases h with ⟨t, h1, h2⟩ | ⟨hb, a, C, dx, vs, h1, h2, h3⟩
  · exact .inl ⟨t, TyX.same e h1, h2⟩
  · exact .inr ⟨hb, a, C, dx, vs, h1, slt_same e h2, h3⟩
/-- an item of a row: a number, a truth, or no number -/
def NumOk (K : PySem.W.Frag) (H : Hp) (v : V) : Prop := (∃ n, v = .int n) ∨ (∃ b, v = .bl b) ∨ ((∀ n, v ≠ .int n) ∧ IsX K H v "int" false)
theorem NumOk.same {K : PySem.W.Frag} {H H' : Hp} {v : V} (e : Same H H') (h : NumOk K H v) : NumOk K H' v := by
  rcases h with h | h | ⟨h1, h2⟩
  · exact .inl h
  · exact .inr (.inl h)
  · exact .inr (.inr ⟨h1, IsX.same e h2⟩)
def numI (n : Int) : Bool := decide (0 ≤ n) && decide (n < 10000)
def numV : V → Bool
  | .int n => numI n
  | _ => false
theorem numV_no {v : V} (h : ∀ n, v ≠ .int n) : numV v = false := by
  cases v with
  | int n => exact absurd rfl (h n)
  | _ => rfl
def rowB (xs : List V) : Bool := decide (1 ≤ xs.length) && decide (xs.length ≤ 6) && xs.all numV
theorem rowB_of {xs : List V} (h1 : 1 ≤ xs.length) (h2 : xs.length ≤ 6) (h3 : xs.all numV = true) : rowB xs = true := by
  unfold rowB
  rw [decide_eq_true h1, decide_eq_true h2, h3]
  rfl
section
variable {P : Program} {w : World} {K : PySem.W.Frag} {mg : Str → Option Value} {base : Heap} {C p0 p1 : Addr} {i0 i1 : Nat}
def RowArg (K : PySem.W.Frag) (H : Hp) (v : V) (r : Bool) : Prop := (IsX K H v "tuple" false ∧ r = false) ∨ ∃ t xs, v = .ref t ∧ SqT K H t xs ∧ xs.length ≤ 1000 ∧ (∀ x ∈ xs, NumOk K H x) ∧ r = rowB xs
theorem RowArg.same {H H' : Hp} {v : V} {r : Bool} (e : Same H H') (h : RowArg K H v r) : RowArg K H' v r := by
  rcases h with ⟨h1, h2⟩ | ⟨t, xs, h1, h2, h3, h4, h5⟩
  · exact .inl ⟨IsX.same e h1, h2⟩
  · exact .inr ⟨t, xs, h1, Same.seqT e h2, h3, fun x hx => (h4 x hx).same e, h5⟩
theorem RowArg.ints {H : Hp} {t : Addr} {ns : List Int} (h : SqT K H t (ns.map V.int)) (hl : ns.length ≤ 1000) : RowArg K H (.ref t) (rowB (ns.map V.int)) :=
  .inr ⟨t, _, rfl, h, by rw [List.length_map]; exact hl, fun x hx => by obtain ⟨n, _, rfl⟩ := List.mem_map.mp hx; exact .inl ⟨n, rfl⟩, rfl⟩
def spPlain (K : PySem.W.Frag) : Sp := fun vs H Q _ => ∃ v r, vs = [v] ∧ RowArg K H v r ∧ ∀ H', Same H H' → Q (.bl r) H'
abbrev N_is_plain_row : List Str := ["value", "number"]
theorem sc_is_plain_row : FnScope N_is_plain_row ["value"] (defScope (top 52)) := ⟨rfl, rfl, rfl, by decide +kernel, rfl, by decide +kernel, by decide +kernel⟩
theorem c_is_plain_row (A : At K mg "is_plain_row" (top 52)) (B : Blt mg) (G6 : GlC mg "MAX_SIDE" (.int 6)) (GB : GlC mg "BEYOND" (.int 10000)) (c_is_integer : Cal P w K mg base 1 "is_integer" (spIsInt K)) : Cal P w K mg base 2 "is_plain_row" (spPlain K) := by
  refine cal_of A sc_is_plain_row (fun _ _ _ _ _ _ us hl => match us, hl with | [_], _ => rfl) (fun vs H Q E h => ?_) (fun _ cdv A outer s H vs Q E hr h => ?_)
  · obtain ⟨_, _, rfl, _⟩ := h; rfl
  · obtain ⟨v, r, rfl, hv, hQ⟩ := h
    refine ⟨_, (pss_cons (ps_if (PW.pt (pw_or (pt_not (pt_val (pe_callB call_isS (by rfl) B.isinstance (by decide +kernel) (pa_cons (pv 0) (pa_cons (pe_bltn (v := .ty "tuple") (by rfl) B.tuple (by decide +kernel) rfl) pa_nil))))) (pw_or1 (pt_not (pt_chain op_le op_le pe_int (pe_callB call_len_seq (by rfl) B.len (by decide +kernel) (pa_cons (pv 0) pa_nil)) (pe_gl (by rfl) G6))))))
        (pss_one (ps_ret pe_bl))
        pss_nil)
      (pss_one (ps_ret (pe_callB (cr_all rfl) (by rfl) B.all (by decide +kernel) (pa_cons (pe_lc (own := [("number", 1)]) (g := gName 1) (tt := tYes) (by rfl) sc_is_plain_row.nd (pi_tup (pv 0)) (blkOk_by (own := [("number", 1)]) (N := N_is_plain_row) (sc := defScope (top 52)) (by decide +kernel)) (fun _ _ _ _ _ => (pg_name (i := 1) sc_is_plain_row.nd rfl (Or.inl rfl))) (fun _ _ _ _ _ => pts_nil) (fun _ _ _ _ _ => (pe_and (pe_c c_is_integer hr (by decide) (by rfl) (pa_cons (pv 1) pa_nil)) (pe_one (pe_chain op_le op_lt pe_int (pv 1) (pe_gl (by rfl) GB)))))) pa_nil))))), ?_⟩
    rcases hv with ⟨hv, rfl⟩ | ⟨t, xs, rfl, ht, hl, hi, rfl⟩
    · exact ⟨_, rfl, _, _, false, rfl, hv, _, rfl, iteT (hQ _ (Same.refl _))⟩
    · refine ⟨_, rfl, _, _, true, rfl, .ty (tyT ht) (by decide +kernel), _, rfl, iteF ?_⟩
      refine ⟨_, rfl, t, xs, rfl, .inr ht, _, _, rfl, rfl, _, rfl, ?_⟩
      by_cases h1 : 1 ≤ xs.length
      · rw [decide_eq_true (show (1 : Int) ≤ (xs.length : Nat) by omega)]
        refine iteT ⟨_, _, rfl, rfl, _, rfl, ?_⟩
        by_cases h6 : xs.length ≤ 6
        · rw [decide_eq_true (show ((xs.length : Nat) : Int) ≤ 6 by omega)]
          refine iteF ⟨_, rfl, t, rfl, ⟨_, ht⟩, fun D hD => lc_tpl ht hD (by omega) (fun _ => true) (fun x => .bl (numV x)) (fun x _ => rfl) (fun x _ acc Q q => q) (fun x hx _ acc Q q => ?_) ?_⟩
          · rcases (hi x hx).same (same_new (o := .lst acc) hD) with ⟨n, rfl⟩ | ⟨b, rfl⟩ | ⟨hn, hx'⟩
            · refine ⟨_, rfl, _, rfl, .inl ⟨n, rfl, _, rfl, ?_⟩⟩
              by_cases hb : isInt n = true
              · rw [hb]
                refine iteT ⟨_, rfl, _, _, rfl, rfl, _, rfl, ?_⟩
                by_cases h0 : 0 ≤ n
                · rw [decide_eq_true h0]
                  refine iteT ⟨_, _, rfl, rfl, ?_⟩
                  have e : numV (.int n) = decide (n < 10000) := by simp [numV, numI, h0]
                  rw [e] at q
                  exact q
                · rw [decide_eq_false h0]
                  have e : numV (.int n) = false := by simp [numV, numI, h0]
                  rw [e] at q
                  exact iteF q
              · have e : numV (.int n) = false := by
                  cases h9 : numV (.int n) with
                  | false => rfl
                  | true =>
                    simp [numV, numI] at h9
                    exact absurd (isInt_of (by omega) (by omega)) hb
                rw [e] at q
                rw [show isInt n = false by simpa using hb]
                exact iteF q
            · exact ⟨_, rfl, _, rfl, .inr (.inl ⟨b, rfl, _, rfl, iteF q⟩)⟩
            · rw [numV_no hn] at q
              exact ⟨_, rfl, _, rfl, .inr (.inr ⟨hx', _, rfl, iteF q⟩)⟩
          · refine ⟨D, xs.map numV, rfl, .inl (.inl ?_), ?_⟩
            · rw [filter_all, List.map_map]; exact upd_same
            · have e : (xs.map numV).all id = rowB xs := by
                simp [rowB, h1, h6, List.all_map]
              rw [e]
              exact hQ _ (same_new hD)
        · rw [decide_eq_false (show ¬ ((xs.length : Nat) : Int) ≤ 6 by omega)]
          have e : rowB xs = false := by simp [rowB, h6]
          rw [e] at hQ
          exact iteT (hQ _ (Same.refl _))
      · rw [decide_eq_false (show ¬ (1 : Int) ≤ (xs.length : Nat) by omega)]
        have e : rowB xs = false := by simp [rowB, h1]
        rw [e] at hQ
        exact iteF ⟨_, rfl, iteT (hQ _ (Same.refl _))⟩
def spReqPlain (K : PySem.W.Frag) : Sp := fun vs H Q _ => ∃ v, vs = [v] ∧ RowArg K H v true ∧ ∀ H', Same H H' → Q .non H'
theorem sc_require_plain_row : FnScope ["value"] ["value"] (defScope (top 53)) := ⟨rfl, rfl, rfl, by decide +kernel, rfl, by decide +kernel, by decide +kernel⟩
theorem c_require_plain_row (A : At K mg "require_plain_row" (top 53)) (c_is_plain_row : Cal P w K mg base 2 "is_plain_row" (spPlain K)) : Cal P w K mg base 3 "require_plain_row" (spReqPlain K) := by
  refine cal_of A sc_require_plain_row (fun _ _ _ _ _ _ us hl => match us, hl with | [_], _ => rfl) (fun vs H Q E h => ?_) (fun _ cdv A outer s H vs Q E hr h => ?_)
  · obtain ⟨_, rfl, _⟩ := h; rfl
  · obtain ⟨v, rfl, hv, hQ⟩ := h
    refine ⟨_, (pss_one (ps_if (pt_not (pt_val (pe_c c_is_plain_row hr (by decide) (by rfl) (pa_cons (pv 0) pa_nil))))
        (pss_one ps_never)
        pss_nil)), ?_⟩
    exact ⟨_, rfl, v, true, rfl, hv, fun H1 e1 => ⟨_, rfl, iteF (hQ _ e1)⟩⟩
def spReqRow (K : PySem.W.Frag) (C : Addr) (i0 i1 : Nat) : Sp := fun vs H Q _ => ∃ x dx M L n ls t xs, vs = [.ref x, .ref t] ∧ FormAt K C i0 i1 H x dx M L n ls ∧ SqT K H t xs ∧ xs.length = n ∧ n ≤ 6 ∧ RowArg K H (.ref t) true ∧ ∀ H', Same H H' → Q .non H'
theorem sc_require_row : FnScope ["target", "value"] ["target", "value"] (defScope (top 54)) := ⟨rfl, rfl, rfl, by decide +kernel, rfl, by decide +kernel, by decide +kernel⟩
theorem c_require_row (A : At K mg "require_row" (top 54)) (B : Blt mg) (FC : FormC K C p0 p1 i0 i1) (c_is_plain_row : Cal P w K mg base 2 "is_plain_row" (spPlain K)) : Cal P w K mg base 3 "require_row" (spReqRow K C i0 i1) := by
  refine cal_of A sc_require_row (fun _ _ _ _ _ _ us hl => match us, hl with | [_, _], _ => rfl) (fun vs H Q E h => ?_) (fun _ cdv A outer s H vs Q E hr h => ?_)
  · obtain ⟨_, _, _, _, _, _, _, _, rfl, _⟩ := h; rfl
  · obtain ⟨x, dx, M, L, n, ls, t, xs, rfl, hF, ht, hn, h6, hv, hQ⟩ := h
    obtain ⟨g, l1, l2, l3⟩ := r_flen (P := P) (w := w) (mg := mg) (base := base) FC B
    refine ⟨_, (pss_one (ps_if (PW.pt (pw_or (pt_not (pt_val (pe_c c_is_plain_row hr (by decide) (by rfl) (pa_cons (pv 1) pa_nil)))) (pw_or1 (pt_cmpR op_ne (pe_callB call_len_seq (by rfl) B.len (by decide +kernel) (pa_cons (pv 1) pa_nil)) (pe_callB (call_lenOwn l1 l2 l3 hr pass0) (by rfl) B.len (by decide +kernel) (pa_cons (pv 0) pa_nil)) (nomark _)))))
        (pss_one ps_never)
        pss_nil)), ?_⟩
    refine ⟨_, rfl, _, true, rfl, hv, fun H1 e1 => ⟨_, rfl, iteF ?_⟩⟩
    have hF1 := hF.same e1
    have hF0 := hF1
    obtain ⟨⟨ws, h1, h2, h3⟩, ⟨ys, _, hy⟩, _⟩ := hF1
    subst hn
    refine ⟨_, rfl, t, xs, rfl, .inr (Same.seqT e1 ht), _, rfl, x, dx, ws, rfl, h1, x, dx, M, L, _, ls, rfl, hF0, _, rfl, by omega, by omega, rfl, _, rfl, ?_⟩
    have e : decide (V.int ((xs.length : Nat) : Int) = V.int ((xs.length : Nat) : Int)) = true := decide_eq_true rfl
    rw [e]
    exact iteF (hQ _ e1)
def IsRowArg (K : PySem.W.Frag) (H : Hp) (v : V) (n : Nat) (b : Bool) : Prop := (IsX K H v "tuple" false ∧ b = false) ∨ ∃ t xs, v = .ref t ∧ SqT K H t xs ∧ xs.length ≤ 1000 ∧ (∀ x ∈ xs, NumOk K H x) ∧ b = (rowB xs && decide (xs.length = n))
theorem IsRowArg.same {H H' : Hp} {v : V} {n : Nat} {r : Bool} (e : Same H H') (h : IsRowArg K H v n r) : IsRowArg K H' v n r := by
  rcases h with ⟨h1, h2⟩ | ⟨t, xs, h1, h2, h3, h4, h5⟩
  · exact .inl ⟨IsX.same e h1, h2⟩
  · exact .inr ⟨t, xs, h1, Same.seqT e h2, h3, fun x hx => (h4 x hx).same e, h5⟩
def spIsRow (K : PySem.W.Frag) (C : Addr) (i0 i1 : Nat) : Sp := fun vs H Q _ => ∃ x dx M L n ls v b, vs = [.ref x, v] ∧ FormAt K C i0 i1 H x dx M L n ls ∧ n ≤ 6 ∧ IsRowArg K H v n b ∧ ∀ H', Same H H' → Q (.bl b) H'
theorem sc_is_row : FnScope ["target", "value"] ["target", "value"] (defScope (top 55)) := ⟨rfl, rfl, rfl, by decide +kernel, rfl, by decide +kernel, by decide +kernel⟩
theorem c_is_row (A : At K mg "is_row" (top 55)) (B : Blt mg) (FC : FormC K C p0 p1 i0 i1) (c_is_plain_row : Cal P w K mg base 2 "is_plain_row" (spPlain K)) (c_require_form : Cal P w K mg base 1 "require_form" (spReqForm K C i0 i1)) (c_require_small : Cal P w K mg base 3 "require_small" (spReqForm K C i0 i1)) : Cal P w K mg base 4 "is_row" (spIsRow K C i0 i1) := by
  refine cal_of A sc_is_row (fun _ _ _ _ _ _ us hl => match us, hl with | [_, _], _ => rfl) (fun vs H Q E h => ?_) (fun _ cdv A outer s H vs Q E hr h => ?_)
  · obtain ⟨_, _, _, _, _, _, _, _, rfl, _⟩ := h; rfl
  · obtain ⟨x, dx, M, L, n, ls, v, b, rfl, hF, h6, hv, hQ⟩ := h
    obtain ⟨g, l1, l2, l3⟩ := r_flen (P := P) (w := w) (mg := mg) (base := base) FC B
    refine ⟨_, (pss_cons (ps_expr (pe_c c_require_form hr (by decide) (by rfl) (pa_cons (pv 0) pa_nil)))
      (pss_cons (ps_expr (pe_c c_require_small hr (by decide) (by rfl) (pa_cons (pv 0) pa_nil)))
      (pss_one (ps_ret (pe_and (pe_c c_is_plain_row hr (by decide) (by rfl) (pa_cons (pv 1) pa_nil)) (pe_one (pe_cmpR op_eq (pe_callB call_len_seq (by rfl) B.len (by decide +kernel) (pa_cons (pv 1) pa_nil)) (pe_callB (call_lenOwn l1 l2 l3 (hr.mono (by decide)) pass0) (by rfl) B.len (by decide +kernel) (pa_cons (pv 0) pa_nil)) (nomark _)))))))), ?_⟩
    refine ⟨_, rfl, x, dx, M, L, n, ls, rfl, hF, h6, ?_⟩
    refine ⟨_, rfl, x, dx, M, L, n, ls, rfl, hF, h6, ?_⟩
    rcases hv with ⟨hv, rfl⟩ | ⟨t, xs, rfl, ht, h9, hi, rfl⟩
    · exact ⟨_, rfl, v, false, rfl, .inl ⟨hv, rfl⟩, fun H1 e1 => ⟨_, rfl, iteF (hQ _ e1)⟩⟩
    · refine ⟨_, rfl, .ref t, rowB xs, rfl, .inr ⟨t, xs, rfl, ht, h9, hi, rfl⟩, fun H1 e1 => ⟨_, rfl, ?_⟩⟩
      cases hb : rowB xs with
      | false =>
        rw [hb] at hQ
        exact iteF (hQ _ e1)
      | true =>
        rw [hb, Bool.true_and] at hQ
        have hF1 := hF.same e1
        have hF0 := hF1
        obtain ⟨⟨ws, h1, h2, h3⟩, ⟨ys, _, hy⟩, _⟩ := hF1
        refine iteT ⟨_, rfl, t, xs, rfl, .inr (Same.seqT e1 ht), _, rfl, x, dx, ws, rfl, h1, x, dx, M, L, n, ls, rfl, hF0, _, rfl, by omega, by omega, rfl, ?_⟩
        have e : decide (V.int ((xs.length : Nat) : Int) = V.int ((n : Nat) : Int)) = decide (xs.length = n) := by
          refine decide_eq_decide.mpr ⟨fun q => ?_, fun q => by rw [q]⟩
          injection q with q
          omega
        rw [e]
        exact hQ _ e1
/-- the least of some numbers -/
def IsMin (l : List Int) (m : Int) : Prop := m ∈ l ∧ ∀ y ∈ l, m ≤ y
theorem IsMin.uniq {l : List Int} {m m' : Int} (h : IsMin l m) (h' : IsMin l m') : m = m' := by
  have h1 := h.2 _ h'.1
  have h2 := h'.2 _ h.1
  omega
def selN (ns : List Int) (ls : List Bool) : List Int := ((ns.zip ls).filter (·.2)).map (·.1)
theorem selN_pos {ns : List Int} {ls : List Bool} (hl : ns.length = ls.length) (h : true ∈ ls) : 0 < (selN ns ls).length := by
  obtain ⟨i, hi⟩ := List.getElem?_of_mem h
  have il := (List.getElem?_eq_some_iff.mp hi).1
  have hn : i < ns.length := by omega
  have hz : (ns.zip ls)[i]? = some (ns[i], true) := List.getElem?_zip_eq_some.mpr ⟨List.getElem?_eq_getElem hn, hi⟩
  have hm : ns[i] ∈ selN ns ls := List.mem_map.mpr ⟨(ns[i], true), List.mem_filter.mpr ⟨List.mem_of_getElem? hz, rfl⟩, rfl⟩
  exact List.length_pos_of_mem hm
def fstV : V × V → V := fun p => p.1
def sndB : V × V → Bool
  | (_, .bl b) => b
  | _ => false
theorem selV (ns : List Int) (ls : List Bool) : (((ns.map V.int).zip (ls.map V.bl)).filter sndB).map fstV = (selN ns ls).map V.int := by
  rw [List.zip_map, List.filter_map, selN, List.map_map, List.map_map]
  refine congrArg (fun l => List.map _ l) ?_
  refine List.filter_congr fun p _ => ?_
  rfl
def spEndCost (K : PySem.W.Frag) (C : Addr) (i0 i1 : Nat) : Sp := fun vs H Q _ => ∃ x dx M L n ls t ns, vs = [.ref x, .ref t] ∧ FormAt K C i0 i1 H x dx M L n ls ∧ SqT K H t (ns.map V.int) ∧ ns.length = n ∧ n ≤ 6 ∧ rowB (ns.map V.int) = true ∧ true ∈ ls ∧ ∀ H' m, Same H H' → IsMin (selN ns ls) m → Q (.int m) H'
abbrev N_end_cost : List Str := ["target", "row", "number", "last"]
theorem sc_end_cost : FnScope N_end_cost ["target", "row"] (defScope (top 56)) := ⟨rfl, rfl, rfl, by decide +kernel, rfl, by decide +kernel, by decide +kernel⟩
theorem c_end_cost (A : At K mg "end_cost" (top 56)) (B : Blt mg) (FC : FormC K C p0 p1 i0 i1) (c_require_form : Cal P w K mg base 1 "require_form" (spReqForm K C i0 i1)) (c_require_row : Cal P w K mg base 3 "require_row" (spReqRow K C i0 i1)) (c_require_small : Cal P w K mg base 3 "require_small" (spReqForm K C i0 i1)) : Cal P w K mg base 4 "end_cost" (spEndCost K C i0 i1) := by
  refine cal_of A sc_end_cost (fun _ _ _ _ _ _ us hl => match us, hl with | [_, _], _ => rfl) (fun vs H Q E h => ?_) (fun _ cdv A outer s H vs Q E hr h => ?_)
  · obtain ⟨_, _, _, _, _, _, _, _, rfl, _⟩ := h; rfl
  · obtain ⟨x, dx, M, L, n, ls, t, ns, rfl, hF, ht, hn, h6, hv, hT, hQ⟩ := h
    refine ⟨_, (pss_cons (ps_expr (pe_c c_require_form hr (by decide) (by rfl) (pa_cons (pv 0) pa_nil)))
      (pss_cons (ps_expr (pe_c c_require_row hr (by decide) (by rfl) (pa_cons (pv 0) (pa_cons (pv 1) pa_nil))))
      (pss_cons (ps_expr (pe_c c_require_small hr (by decide) (by rfl) (pa_cons (pv 0) pa_nil)))
      (pss_one (ps_ret (pe_callB (cr_min rfl) (by rfl) B.min (by decide +kernel) (pa_cons (pe_lc (own := [("number", 2), ("last", 3)]) (by rfl) sc_end_cost.nd (pi_zipM true false (by rfl) B.zip (pa_cons (pv 1) (pa_cons (SlX.pe_sl (pv 0)) pa_nil))) (blkOk_by (own := [("number", 2), ("last", 3)]) (N := N_end_cost) (sc := defScope (top 56)) (by decide +kernel)) (fun _ _ _ _ _ => (pg_tupK (K := K) (n := 2) rfl rfl (pgs_cons (pg_name (i := 2) sc_end_cost.nd rfl (Or.inl rfl)) (pgs_cons (pg_name (i := 3) sc_end_cost.nd rfl (Or.inl rfl)) pgs_nil)))) (fun _ _ _ _ _ => pts_one (pt_val (pv 3))) (fun _ _ _ _ _ => pv 2)) pa_nil))))))), ?_⟩
    refine ⟨_, rfl, x, dx, M, L, n, ls, rfl, hF, h6, ?_⟩
    have hra := RowArg.ints ht (by omega)
    rw [hv] at hra
    refine ⟨_, rfl, _, rfl, x, dx, M, L, n, ls, t, _, rfl, hF, ht, by rw [List.length_map]; exact hn, h6, hra, fun H1 e1 => ?_⟩
    have hF1 := hF.same e1
    refine ⟨_, rfl, x, dx, M, L, n, ls, rfl, hF1, h6, ?_⟩
    obtain ⟨⟨ws, h1, h2, h3⟩, _, hL, hll⟩ := hF1
    have ht1 := Same.seqT e1 ht
    refine ⟨_, rfl, _, rfl, x, C, dx, p1, ws, i1, _, rfl, h1, FC.sc, FC.s1, h3, t, L, _, _, rfl, ht1, hL, fun D hD => lc_zipM ht1 hL (by rw [List.length_map]; omega) hD sndB fstV (fun p _ => rfl) (fun p hp H2 e2 Q q => ?_) (fun p hp _ H2 e2 Q q => ⟨_, rfl, q _ (Same.refl _)⟩) (fun H2 e2 u2 => ?_)⟩
    · rw [List.zip_map] at hp
      obtain ⟨q0, _, rfl⟩ := List.mem_map.mp hp
      exact ⟨_, rfl, _, rfl, q⟩
    · rw [selV] at u2
      exact ⟨D, selN ns ls, rfl, SqL.of u2, selN_pos (by omega) hT, fun m h1 h2 => hQ _ m (e1.trans e2) ⟨h1, h2⟩⟩
def cutI (l n : Int) : Int := if l < n then l else n
theorem cutI_num {l n : Int} (h0 : 0 ≤ l) (h : numI n = true) : numI (cutI l n) = true := by
  simp only [numI, Bool.and_eq_true, decide_eq_true_eq] at h ⊢
  unfold cutI
  split <;> omega
def cutV1 (l : Int) : V → V
  | .int n => .int (cutI l n)
  | v => v
def spCut (K : PySem.W.Frag) : Sp := fun vs H Q _ => ∃ (t : Addr) (ns : List Int) (l : Int), vs = [.ref t, .int l] ∧ SqT K H t (ns.map V.int) ∧ rowB (ns.map V.int) = true ∧ 0 ≤ l ∧ l ≤ 9999 ∧ ∀ q H', H q = none → Same H H' → H' q = some (.tup ((ns.map (cutI l)).map V.int)) → Q (.ref q) H'
theorem rowB_len {xs : List V} (h : rowB xs = true) : 1 ≤ xs.length ∧ xs.length ≤ 6 ∧ xs.all numV = true := by
  simp only [rowB, Bool.and_eq_true, decide_eq_true_eq] at h
  exact ⟨h.1.1, h.1.2, h.2⟩
abbrev N_cut_row : List Str := ["row", "limit", "number"]
theorem sc_cut_row : FnScope N_cut_row ["row", "limit"] (defScope (top 57)) := ⟨rfl, rfl, rfl, by decide +kernel, rfl, by decide +kernel, by decide +kernel⟩
theorem c_cut_row (A : At K mg "cut_row" (top 57)) (B : Blt mg) (GB : GlC mg "BEYOND" (.int 10000)) (c_require_plain_row : Cal P w K mg base 3 "require_plain_row" (spReqPlain K)) (c_require_number : Cal P w K mg base 2 "require_number" spReqNumber) : Cal P w K mg base 4 "cut_row" (spCut K) := by
  refine cal_of A sc_cut_row (fun _ _ _ _ _ _ us hl => match us, hl with | [_, _], _ => rfl) (fun vs H Q E h => ?_) (fun _ cdv A outer s H vs Q E hr h => ?_)
  · obtain ⟨_, _, _, rfl, _⟩ := h; rfl
  · obtain ⟨t, ns, l, rfl, ht, hv, h0, h9, hQ⟩ := h
    refine ⟨_, (pss_cons (ps_expr (pe_c c_require_plain_row hr (by decide) (by rfl) (pa_cons (pv 0) pa_nil)))
      (pss_cons (ps_expr (pe_c c_require_number hr (by decide) (by rfl) (pa_cons (pv 1) (pa_cons pe_int (pa_cons (pe_op op_sub (pe_gl (by rfl) GB) pe_int) pa_nil)))))
      (pss_one (ps_ret (pe_callTy call_tuple_of (by rfl) B.tuple (by decide +kernel) (pa_cons (pe_lc (own := [("number", 2)]) (g := gName 2) (tt := tYes) (by rfl) sc_cut_row.nd (pi_tup (pv 0)) (blkOk_by (own := [("number", 2)]) (N := N_cut_row) (sc := defScope (top 57)) (by decide +kernel)) (fun _ _ _ _ _ => (pg_name (i := 2) sc_cut_row.nd rfl (Or.inl rfl))) (fun _ _ _ _ _ => pts_nil) (fun _ _ _ _ _ => (pe_callB (call_min2 rfl) (by rfl) B.min (by decide +kernel) (pa_cons (pv 2) (pa_cons (pv 1) pa_nil))))) pa_nil)))))), ?_⟩
    have hl := rowB_len hv
    rw [List.length_map] at hl
    have hra := RowArg.ints ht (by omega)
    rw [hv] at hra
    refine ⟨_, rfl, _, rfl, hra, fun H1 e1 => ?_⟩
    refine ⟨_, rfl, _, _, rfl, rfl, l, 0, 10000 - 1, rfl, isInt_of (by omega) (by omega), h0, by omega, ?_⟩
    have ht1 := Same.seqT e1 ht
    refine ⟨_, rfl, t, rfl, ⟨_, ht1⟩, fun D hD => lc_tpl ht1 hD (by rw [List.length_map]; omega) (fun _ => true) (cutV1 l) (fun x _ => rfl) (fun x _ acc Q q => q) (fun x hx _ acc Q q => ?_) ?_⟩
    · obtain ⟨n, hn, rfl⟩ := List.mem_map.mp hx
      exact ⟨_, rfl, _, rfl, n, l, rfl, q⟩
    · obtain ⟨s2, u2⟩ := laid (.lst (((ns.map V.int).filter fun _ => true).map (cutV1 l))) hD
      generalize upd H1 D (.lst (((ns.map V.int).filter fun _ => true).map (cutV1 l))) = H2 at s2 u2 ⊢
      rw [filter_all, List.map_map] at u2
      refine ⟨D, _, rfl, .inl ⟨SqL.of u2, fun q hq => hQ q _ ((e1.trans s2).free hq) ((e1.trans s2).trans (same_new hq)) ?_⟩⟩
      rw [upd_same, List.map_map]
      rfl
def aboveB (ns ms : List Int) : Bool := (ns.zip ms).all fun p => decide (p.1 ≥ p.2)
def geV : V × V → V
  | (.int a, .int b) => .bl (decide (a ≥ b))
  | _ => .bl false
theorem aboveV (ns ms : List Int) : (((ns.map V.int).zip (ms.map V.int)).filter fun _ => true).map geV = ((ns.zip ms).map fun p => decide (p.1 ≥ p.2)).map V.bl := by
  rw [List.filter_eq_self.mpr fun _ _ => rfl, List.zip_map, List.map_map, List.map_map]
  rfl
def spAbove (K : PySem.W.Frag) : Sp := fun vs H Q _ => ∃ (t u : Addr) (ns ms : List Int), vs = [.ref t, .ref u] ∧ SqT K H t (ns.map V.int) ∧ SqT K H u (ms.map V.int) ∧ rowB (ns.map V.int) = true ∧ rowB (ms.map V.int) = true ∧ ns.length = ms.length ∧ ∀ H', Same H H' → Q (.bl (aboveB ns ms)) H'
abbrev N_stands_above : List Str := ["one", "other", "number", "less"]
theorem sc_stands_above : FnScope N_stands_above ["one", "other"] (defScope (top 58)) := ⟨rfl, rfl, rfl, by decide +kernel, rfl, by decide +kernel, by decide +kernel⟩
theorem c_stands_above (A : At K mg "stands_above" (top 58)) (B : Blt mg) (c_require_plain_row : Cal P w K mg base 3 "require_plain_row" (spReqPlain K)) : Cal P w K mg base 4 "stands_above" (spAbove K) := by
  refine cal_of A sc_stands_above (fun _ _ _ _ _ _ us hl => match us, hl with | [_, _], _ => rfl) (fun vs H Q E h => ?_) (fun _ cdv A outer s H vs Q E hr h => ?_)
  · obtain ⟨_, _, _, _, rfl, _⟩ := h; rfl
  · obtain ⟨t, u, ns, ms, rfl, ht, hu, hv, hw, hl, hQ⟩ := h
    refine ⟨_, (pss_cons (ps_expr (pe_c c_require_plain_row hr (by decide) (by rfl) (pa_cons (pv 0) pa_nil)))
      (pss_cons (ps_expr (pe_c c_require_plain_row hr (by decide) (by rfl) (pa_cons (pv 1) pa_nil)))
      (pss_cons (ps_if (pt_cmpR op_ne (pe_callB call_len_seq (by rfl) B.len (by decide +kernel) (pa_cons (pv 0) pa_nil)) (pe_callB call_len_seq (by rfl) B.len (by decide +kernel) (pa_cons (pv 1) pa_nil)) (nomark _))
        (pss_one ps_never)
        pss_nil)
      (pss_one (ps_ret (pe_callB (cr_all rfl) (by rfl) B.all (by decide +kernel) (pa_cons (pe_lc (own := [("number", 2), ("less", 3)]) (tt := tYes) (by rfl) sc_stands_above.nd (pi_zipM true true (by rfl) B.zip (pa_cons (pv 0) (pa_cons (pv 1) pa_nil))) (blkOk_by (own := [("number", 2), ("less", 3)]) (N := N_stands_above) (sc := defScope (top 58)) (by decide +kernel)) (fun _ _ _ _ _ => (pg_tupK (K := K) (n := 2) rfl rfl (pgs_cons (pg_name (i := 2) sc_stands_above.nd rfl (Or.inl rfl)) (pgs_cons (pg_name (i := 3) sc_stands_above.nd rfl (Or.inl rfl)) pgs_nil)))) (fun _ _ _ _ _ => pts_nil) (fun _ _ _ _ _ => (pe_cmpR op_ge (pv 2) (pv 3) (nomark _)))) pa_nil))))))), ?_⟩
    have l1 := rowB_len hv
    have l2 := rowB_len hw
    rw [List.length_map] at l1 l2
    have r1 := RowArg.ints ht (by omega)
    have r2 := RowArg.ints hu (by omega)
    rw [hv] at r1
    rw [hw] at r2
    refine ⟨_, rfl, _, rfl, r1, fun H1 e1 => ⟨_, rfl, _, rfl, r2.same e1, fun H2 e2 => ?_⟩⟩
    have e12 := e1.trans e2
    have ht2 := Same.seqT e12 ht
    have hu2 := Same.seqT e12 hu
    refine ⟨_, rfl, t, _, rfl, .inr ht2, _, rfl, u, _, rfl, .inr hu2, rfl, _, rfl, ?_⟩
    rw [decide_eq_true (show V.int (((ns.map V.int).length : Nat) : Int) = V.int (((ms.map V.int).length : Nat) : Int) by rw [List.length_map, List.length_map, hl])]
    refine iteF ⟨_, rfl, _, rfl, t, u, _, _, rfl, ht2, hu2, fun D hD => lc_zipM ht2 hu2 (by rw [List.length_map]; omega) hD (fun _ => true) geV (fun p _ => rfl) (fun p _ H3 _ Q q => q) (fun p hp _ H3 e3 Q q => ?_) (fun H3 e3 u3 => ?_)⟩
    · rw [List.zip_map] at hp
      obtain ⟨q0, _, rfl⟩ := List.mem_map.mp hp
      exact ⟨_, rfl, _, rfl, _, _, rfl, rfl, q _ (Same.refl _)⟩
    · rw [aboveV] at u3
      refine ⟨D, _, rfl, SqL.of u3, ?_⟩
      rw [show ((ns.zip ms).map fun p => decide (p.1 ≥ p.2)).all id = aboveB ns ms by simp [aboveB, List.all_map, Function.comp_def]]
      exact hQ _ (e12.trans e3)
end
end MN
/-! dict(enumerate(t)), t a tuple -/
namespace MN
open PySem PySem.Spec PySem.W PyProof.Rows L2
section
variable {prog : Program} {w : World} {A : Around} {E : Value → Shared → Prop} {s : Shared}
abbrev enO (it : Addr) : Obj := ⟨.type "enumerate", none, .fields #[.none, .bool false, .ref it, rawInt 0, .none, .none], #[]⟩
set_option maxHeartbeats 2000000 in
theorem meets_enum1 {v : Value} {o : Obj} {G : Heap → Prop} (B : Begins v o G) : Meets (Builtin.«enumerate.__new__» ⟨[.type "enumerate", v], []⟩) (fun _ R s => G s.heap ∧ R (.ok (.ret (.ref (s.heap.push o).objs.size))) { s with heap := (s.heap.push o).push (enO s.heap.objs.size) }) :=
  .of_wp fun prog w A R s ⟨g, r⟩ => by
    obtain ⟨hp, gs, dr, tk, os⟩ := s
    have sub := sub_enumerate
    have it : ∀ {A' : Around} {E : Value → Shared → Prop} {Q : Value → Shared → Prop}, Q (.ref hp.objs.size) ⟨hp.push o, gs, dr, tk, os⟩ → wpAny (model prog w) A' (pyIter v) Q E ⟨hp, gs, dr, tk, os⟩ := fun q => B.iter prog w _ _ ⟨hp, gs, dr, tk, os⟩ _ g q
    wp_walk using it
    refine wpAny_stack_any fun _ => wpAny_pure ?_
    split
    · rename_i c _ _ _ _ _
      cases (c == Value.type "enumerate") <;> (wp_walk using it; exact ⟨_, rfl, r⟩)
    · wp_walk using it; exact ⟨_, rfl, r⟩
theorem call_enum1 {v : Value} {o : Obj} {G : Heap → Prop} {Q : Value → Shared → Prop} (B : Begins v o G) (g : G s.heap)
    (h : ∀ h', IsEnum h' (s.heap.objs.size + 1) s.heap.objs.size 0 .none → h'.get? s.heap.objs.size = some o → (∀ b o, s.heap.get? b = some o → h'.get? b = some o) → Q (.ref (s.heap.objs.size + 1)) { s with heap := h' }) :
    wpAny (model prog w) A (call (.type "enumerate") [v]) Q E s := by
  refine callType_new F.called_enumerate (by decide) (F.typeCall_enumerate_1 _) (F.newCall_enumerate_1 _) (fun obj => F.args_object_init_2 obj _) F.entry_enumerate_new (meets_enum1 B) ⟨g, ?_⟩
  have z : (s.heap.push o).objs.size = s.heap.objs.size + 1 := Heap.size_push ..
  have en : ((s.heap.push o).push (enO s.heap.objs.size)).get? (s.heap.push o).objs.size = some (enO s.heap.objs.size) := Heap.get?_push_size _ rfl
  rw [z] at en
  show _ ∧ _
  rw [z]
  exact ⟨⟨_, en, rfl⟩, h _ en (Heap.get?_push_of_some _ (Heap.get?_push_size _ B.free)) fun b u q => Heap.get?_push_of_some _ (Heap.get?_push_of_some _ q)⟩
/-- next of an enumerate whose pair is still held by another, whatever it draws from -/
theorem en_next_held {e it T : Addr} {fp : List Addr} {n i : Nat} {Pv : Nat → Value → Prop} {St : Nat → Heap → Prop} {old : Value} {f : Bool} {oT : Obj} {Q : Value → Shared → Prop} (D : Draws prog w A it fp n Pv St)
    (he : IsEnumHeld s.heap e it i old T f) (hT : s.heap.get? T = some oT) (hTe : T ≠ e) (hTi : T ≠ it) (hst : St i s.heap) (hlt : i < n) (hne : e ≠ it) (hef : e ∉ fp)
    (hQ : ∀ x h' tk, Pv i x → IsEnumHeld h' e it ((i : Int) + 1) old T true → St (i + 1) h' → h'.get? s.heap.objs.size = some { cls := .type "tuple", data := .seq #[.int i tk, x] } →
      (∀ b o, b ≠ e → b ≠ it → s.heap.get? b = some o → h'.get? b = some o) → Q (.ref s.heap.objs.size) { s with heap := h', toks := tk + 1 }) :
    wpAny (model prog w) A (Builtin.«enumerate.__next__» ⟨[.ref e], []⟩) (fun fin s' => ∃ v, fin = .done (.ret v) ∧ Q v s') E s := by
  obtain ⟨hp, gs, dr, t0, os⟩ := s
  show wpAny _ _ (field (.ref e) 2 >>= _) _ _ _
  refine wpAny_bind (wpAny_field he rfl (x := .ref it) rfl (wpAny_bind (D.item i _ _ _ hlt hst fun x h1 tk px st1 s1 => ?_)))
  have e1 : IsEnumHeld h1 e it i old T f := (s1.2 e hne).trans he
  refine wpAny_bind (wpAny_field (s := ⟨h1, gs, dr, tk, os⟩) e1 rfl (x := rawInt i) rfl (wpAny_bind (wpAny_field (s := ⟨h1, gs, dr, tk, os⟩) e1 rfl (x := .none) rfl ?_)))
  show wpAny _ _ (mkInt i >>= _) _ _ ⟨h1, gs, dr, tk, os⟩
  refine wpAny_bind (wpAny_mkInt (wpAny_bind (wpAny_setField_rec (s := ⟨h1, gs, dr, tk + 1, os⟩) e1 (by simp) fun h2 e2 s2 => ?_)))
  refine wpAny_bind (wpAny_setField_rec (s := ⟨h2, gs, dr, tk + 1, os⟩) e2 (by simp) fun h3 e3 s3 => ?_)
  replace e3 : IsEnumHeld h3 e it ((i : Int) + 1) old T f := e3
  refine wpAny_bind (wpAny_newTuple (s := ⟨h3, gs, dr, tk + 1, os⟩) ?_)
  have sz : h3.objs.size = hp.objs.size := (s3.1.trans s2.1).trans s1.1
  have lte : e < hp.objs.size := Heap.lt_size he
  have k3 : ∀ b o, b ≠ e → b ≠ it → hp.get? b = some o → h3.get? b = some o := fun b o n1 n2 q => s3.extBut b o n1 (s2.extBut b o n1 (s1.extBut b o n2 q))
  have st3 : St (i + 1) h3 := D.frame _ _ _ st1 fun b hb o q => s3.extBut b o (fun z => hef (z ▸ hb)) (s2.extBut b o (fun z => hef (z ▸ hb)) q)
  refine wpAny_bind (wpAny_tupleHeld_enum (s := ⟨h3.push { cls := .type "tuple", data := .seq #[.int i tk, x] }, gs, dr, tk + 1, os⟩) (Heap.get?_push_of_some _ e3) (Heap.get?_push_of_some _ (k3 T oT hTe hTi hT)) fun h5 e5 s5 => ?_)
  simp only [Bool.false_eq_true, if_false]
  refine wpAny_pure ⟨_, rfl, ?_⟩
  show Q (.ref h3.objs.size) _
  rw [sz]
  have tu : (h3.push { cls := .type "tuple", data := .seq #[.int i tk, x] }).get? hp.objs.size = some { cls := .type "tuple", data := .seq #[.int i tk, x] } := by
    rw [← sz]; exact Heap.get?_push_size _ rfl
  exact hQ x h5 tk px e5 (D.frame _ _ _ st3 fun b hb o q => s5.extBut b o (fun z => hef (z ▸ hb)) (Heap.get?_push_of_some _ q)) (s5.extBut _ _ (Nat.ne_of_gt lte) tu) fun b o n1 n2 q => s5.extBut b o n1 (Heap.get?_push_of_some _ (k3 b o n1 n2 q))
theorem en_end_held {e it T : Addr} {fp : List Addr} {n : Nat} {i : Int} {Pv : Nat → Value → Prop} {St : Nat → Heap → Prop} {old : Value} {f : Bool} {Q : Option Value → Shared → Prop} (D : Draws prog w A.in1 it fp n Pv St) (he : IsEnumHeld s.heap e it i old T f) (hst : St n s.heap)
    (hQ : ∀ h', Heap.ExtBut it s.heap h' → Q none { s with heap := h' }) : wpAny (model prog w) A (pyNext (.ref e)) Q E s := by
  have ty : s.TypeIs (.ref e) "enumerate" := ⟨_, he, rfl⟩
  unfold pyNext
  refine wpAny_bind (wpAny_attempt (wpAny_callSpecial?_slot (name := Str.ofString "__next__") ty F.slot_enumerate_next (wpAny_call_entry F.slot_enumerate_next ty F.entry_enumerate_next ?_ (F.args_enumerate_next_1 _))))
  show wpAny _ _ (field (.ref e) 2 >>= _) _ _ _
  refine wpAny_bind (wpAny_field he rfl (x := .ref it) rfl (wpAny_bind (D.done _ _ _ hst fun h' x k ⟨o, ho, hc⟩ => ?_)))
  exact wpAny_bind (wpAny_isInstance (T := "StopIteration") (b := true) ⟨o, ho, hc⟩ isSubtype_stop (wpAny_pure (hQ _ k)))
end
section
variable {prog : Program} {w : World}
/-- an enumerate over a tuple, as what dict() takes -/
theorem pairs_enumT (e it l : Addr) (hei : e ≠ it) (hle : l ≠ e) (hli : l ≠ it) (items : Array Value) : PairArg prog w "enumerate" e [e, it, l] [e, it] items.size (fun i k v => (∃ t, k = .int i t) ∧ items[i]? = some v) (fun h => IsEnum h e it 0 .none ∧ h.IsTupleIter it l 0 ∧ h.IsTuple l items) := by
  have hef : e ∉ [it, l] := by
    intro m
    rcases List.mem_cons.mp m with m | m
    · exact hei m
    · exact hle (List.mem_singleton.mp m).symm
  refine { type := fun s ok => ⟨_, ok.1, rfl⟩, notDict := by decide, keep := fun h h' ok k => ⟨k _ _ ok.1, ok.2.1.at (k it), ok.2.2.at (k l)⟩, there := fun h ok b hb => ?_, sub := fun b hb => ?_, noKeys := fun A s Q E hA ok h => getAttrOr_miss_enumerate ok.1 rfl rfl rfl enumerate_no_keys (by decide +kernel) hA h, iter := fun A s d Q E hA ok hd hdf h => ?_ }
  · obtain ⟨h1, ⟨o2, h2, _⟩, ⟨o3, h3, _⟩⟩ := ok
    simp only [List.mem_cons, List.not_mem_nil, or_false] at hb
    rcases hb with rfl | rfl | rfl
    · exact ⟨_, h1⟩
    · exact ⟨_, h2⟩
    · exact ⟨_, h3⟩
  · simp only [List.mem_cons, List.not_mem_nil, or_false] at hb ⊢
    rcases hb with rfl | rfl
    · exact .inl rfl
    · exact .inr (.inl rfl)
  · simp only [List.mem_cons, List.not_mem_nil, or_false, not_or] at hdf
    obtain ⟨de, di, dl⟩ := hdf
    have Dr : Draws prog w A.in1 it [it, l] items.size (fun i v => items[i]? = some v) (fun i h => h.IsTupleIter it l i ∧ h.IsTuple l items) := Draws.tuple (A := A.in1) hA it l hli items
    refine wpAny_pyIter_enum ok.1 (h e [e, it] (fun i h => (h.IsTupleIter it l i ∧ h.IsTuple l items) ∧ ((∃ old, IsEnum h e it i old) ∨ ∃ old T f oT, IsEnumHeld h e it i old T f ∧ h.get? T = some oT ∧ T ≠ e ∧ T ≠ it ∧ T ≠ d)) s.heap s.toks ?_ ⟨ok.2, .inl ⟨_, ok.1⟩⟩ (fun _ _ q => q) fun b hb => .inl hb)
    have out : ∀ b : Addr, b ∉ [e, it] → b ≠ e ∧ b ≠ it := fun b hb => ⟨fun z => hb (by rw [z]; simp), fun z => hb (by rw [z]; simp)⟩
    refine { off := fun m => ?_, frame := fun i h1 h2 st k => ?_, item := fun i s1 Q1 E1 hi st hds hQ => ?_, done := fun s1 Q1 E1 st hQ => ?_ }
    · simp only [List.mem_cons, List.not_mem_nil, or_false] at m
      rcases m with m | m
      · exact de m
      · exact di m
    · obtain ⟨st, en⟩ := st
      refine ⟨⟨st.1.at fun o q => k it o (Ne.symm di) q, st.2.at fun o q => k l o (Ne.symm dl) q⟩, ?_⟩
      rcases en with ⟨old, en⟩ | ⟨old, T, f, oT, en, hT, r1, r2, r3⟩
      · exact .inl ⟨old, k _ _ (Ne.symm de) en⟩
      · exact .inr ⟨old, T, f, oT, k _ _ (Ne.symm de) en, k _ _ r3 hT, r1, r2, r3⟩
    · obtain ⟨st, en⟩ := st
      have ec : ((i + 1 : Nat) : Int) = (i : Int) + 1 := by omega
      have nit : s1.heap.objs.size ≠ it := let ⟨_, q, _⟩ := st.1; Nat.ne_of_gt (Heap.lt_size q)
      rcases en with ⟨old, en⟩ | ⟨old, T, f, oT, en, hT, r1, r2, r3⟩
      · refine wpAny_pyNext_enum_itemD Dr en st hi hei hef fun x h' tk px eo st' tu _ k => ?_
        exact hQ s1.heap.objs.size _ _ h' (tk + 1) ⟨⟨_, rfl⟩, px⟩ (.inl ⟨_, tu, rfl, _, rfl⟩) ⟨st', .inr ⟨_, s1.heap.objs.size, false, _, (by rw [ec]; exact eo), tu, Nat.ne_of_gt (Heap.lt_size en), nit, Nat.ne_of_gt hds⟩⟩ fun b o hb q => k b o (out b hb).1 (out b hb).2 q
      · have ty : s1.TypeIs (.ref e) "enumerate" := ⟨_, en, rfl⟩
        unfold pyNext
        refine wpAny_bind (wpAny_attempt (wpAny_callSpecial?_slot (name := Str.ofString "__next__") ty F.slot_enumerate_next (wpAny_call_entry F.slot_enumerate_next ty F.entry_enumerate_next (en_next_held Dr en hT r1 r2 st hi hei hef fun x h' tk px eo st' tu k => wpAny_pure ?_) (F.args_enumerate_next_1 _))))
        exact hQ s1.heap.objs.size _ _ h' (tk + 1) ⟨⟨_, rfl⟩, px⟩ (.inl ⟨_, tu, rfl, _, rfl⟩) ⟨st', .inr ⟨old, T, true, oT, (by rw [ec]; exact eo), k _ _ r1 r2 hT, r1, r2, r3⟩⟩ fun b o hb q => k b o (out b hb).1 (out b hb).2 q
    · obtain ⟨st, en⟩ := st
      rcases en with ⟨old, en⟩ | ⟨old, T, f, oT, en, hT, r1, r2, r3⟩
      · exact wpAny_pyNext_enum_endD Dr en st fun h' k => hQ h' s1.toks fun b o hb q => k b o (out b hb).2 q
      · exact en_end_held Dr en st fun h' k => hQ h' s1.toks fun b o hb q => k b o (out b hb).2 q
end
def enumK : Nat → List V → List (Key × V)
  | _, [] => []
  | k, x :: xs => (.inl (k : Int), x) :: enumK (k + 1) xs
def enumU : Nat → List Value → List (Key × Value)
  | _, [] => []
  | k, x :: xs => (.inl (k : Int), x) :: enumU (k + 1) xs
theorem enumU_len : ∀ (k : Nat) (us : List Value), (enumU k us).length = us.length
  | _, [] => rfl
  | k, _ :: us => by rw [enumU, List.length_cons, List.length_cons, enumU_len (k + 1) us]
theorem enumK_len : ∀ (k : Nat) (us : List V), (enumK k us).length = us.length
  | _, [] => rfl
  | k, _ :: us => by rw [enumK, List.length_cons, List.length_cons, enumK_len (k + 1) us]
theorem enumU_get : ∀ (k : Nat) (us : List Value) (i : Nat) (v : Value), us[i]? = some v → (enumU k us)[i]? = some (.inl ((k + i : Nat) : Int), v)
  | _, [], i, v, h => by simp at h
  | k, u :: us, 0, v, h => by
    obtain rfl : u = v := by simpa using h
    rfl
  | k, u :: us, i + 1, v, h => by
    have q := enumU_get (k + 1) us i v (by simpa using h)
    rw [enumU, List.getElem?_cons_succ, q, show k + 1 + i = k + (i + 1) by omega]
theorem kv_enum : ∀ (k : Nat) {xs : List V} {us : List Value}, Vals xs us → KV (enumK k xs) (enumU k us)
  | _, _, _, .nil => .nil
  | k, _, _, .cons r t => .cons ⟨rfl, r⟩ (kv_enum (k + 1) t)
def tDictEnum (K : PySem.W.Frag) (te : TE) : TE := fun σ H Q => te σ H fun x H1 => ∃ t xs, x = .ref t ∧ SqT K H1 t xs ∧ ∀ q kvs, H1 q = none → Q (.ref q) (upd H1 q (.dK kvs))
theorem pe_dictEnum {X : Cx} {e : Expr} {te : TE} {p1 p2 pos1 pos2 : Pos} (hc : X.calm = true) (he : PE X e te) (hgd : Gl X "dict") (hmd : X.mg "dict" = none) (hge : Gl X "enumerate") (hme : X.mg "enumerate" = none)
    (hs1 : starEach [e] X.env = (false, eval e X.env) :: starEach [] X.env := by rfl) (hs2 : starEach [.Call (.Name "enumerate" p2) [e] [] pos2] X.env = (false, eval (.Call (.Name "enumerate" p2) [e] [] pos2) X.env) :: starEach [] X.env := by rfl) :
    PE X (.Call (.Name "dict" p1) [.Call (.Name "enumerate" p2) [e] [] pos2] [] pos1) (tDictEnum X.K te) := by
  refine ⟨fun pins s σ H Q I hq => wpAny_Call_Name_kw (ld_blt I hgd hmd boot_dict (PyProof.Rows.callWith_type1 ?_ hs2 rfl))⟩
  rw [hs2]
  show wpAny _ _ (spliced ((false, eval (.Call (.Name "enumerate" p2) [e] [] pos2) X.env) :: backTo pos1 (starEach [] X.env))) _ _ s
  refine Calls.spliced_cons (wpAny_Call_Name_kw (ld_blt I hge hme boot_enumerate (PyProof.Rows.callWith_type1 (thn ((pa_cons he pa_nil hs1).run pos2 pins s σ H (fun vs H1 => match vs with | [x] => ∃ t xs, x = V.ref t ∧ SqT X.K H1 t xs ∧ ∀ q kvs, H1 q = none → Q (.ref q) (upd H1 q (.dK kvs)) | _ => False) I ?_) fun us s1 ⟨vs, H1, I1, r1, q1⟩ => ?_) hs1 rfl)))
  · exact hq
  · obtain ⟨x, t, xs, rfl, rfl, ht, q⟩ : ∃ (x : V) (t : Addr) (xs : List V), vs = [x] ∧ x = .ref t ∧ SqT X.K H1 t xs ∧ ∀ q kvs, H1 q = none → Q (.ref q) (upd H1 q (.dK kvs)) := by
      match vs, q1 with
      | [x], q1 =>
        obtain ⟨t, xs, h1, h2⟩ := q1
        exact ⟨x, t, xs, rfl, h1, h2⟩
    rw [Vals.ref1 r1]
    obtain ⟨its, rv, tu, hz⟩ := I1.tuple ht
    have lt : t < s1.heap.objs.size := by obtain ⟨_, q, _⟩ := tu; exact Heap.lt_size q
    refine call_enum1 (begins_tuple t its.toArray) tu fun h' en hit hk => Calls.spliced_nil ?_
    have I2 : Inv X pins σ H1 { s1 with heap := h' } := I1.kept (t' := s1.toks) hk
    have hm : (h'.objs.size == sysModules) = false := beq_eq_false_iff_ne.mpr (Nat.ne_of_gt I2.big)
    refine PySem.call_dict_pairs (s := { s1 with heap := h' }) (knd := mixKind X.prog X.w) (kvs := enumU 0 its) (pairs_enumT (s1.heap.objs.size + 1) s1.heap.objs.size t (Nat.succ_ne_self _) (Nat.ne_of_lt (Nat.lt_succ_of_lt lt)) (Nat.ne_of_lt lt) its.toArray) (I.ok.hd hc) ⟨en, ⟨_, hit, rfl, rfl⟩, tu.keeps hk⟩ ⟨by simp [enumU_len], fun i key v r => ?_⟩ (by simp; rw [← rv.length]; exact hz) fun h2 tk hd k2 => ?_
    · obtain ⟨⟨t', rfl⟩, hv⟩ := r
      refine ⟨.inl (i : Int), ?_, kV_is (k := .inl (i : Int)) ⟨t', rfl⟩⟩
      have := enumU_get 0 its i v (by simpa using hv)
      rw [Nat.zero_add] at this
      exact this
    · have hl : (mergeK [] (enumK 0 xs)).length ≤ sizeLine := by
        refine Nat.le_trans (length_mergeK _ _) ?_
        rw [List.length_nil, Nat.zero_add, enumK_len]
        exact hz
      refine ⟨.ref h'.objs.size, upd H1 h'.objs.size (.dK (mergeK [] (enumK 0 xs))), I2.turnedNew (t' := tk) (ch := [s1.heap.objs.size + 1, s1.heap.objs.size]) k2 (fun b hb => ?_) (Nat.le_refl _) (show ObjOk X.prog X.w _ _ _ (.dK (mergeK [] (enumK 0 xs))) from ⟨hl, hm, merged [] (enumU 0 its), KV.merge (kv_enum 0 rv) .nil, hd⟩), rfl, q _ _ (I2.hok.fresh (Nat.le_refl _))⟩
      have hle : s1.heap.objs.size ≤ b := by
        simp only [List.mem_cons, List.not_mem_nil, or_false] at hb
        rcases hb with rfl | rfl
        · exact Nat.le_succ _
        · exact Nat.le_refl _
      exact I1.fpOk hle (I1.hok.fresh hle)
end MN
/-! the law's own defs: signs, forms of plain rows, ends, odd values -/
namespace MN
open PySem PySem.Spec PyProof.Rows L2
/-- a comprehension over a list whose items may lay objects -/
theorem lc_lstR {K : PySem.W.Frag} {a D : Addr} {H1 : Hp} {σ : L2.St} {vs : List Nat} {te : TE} {j : Nat} {Qd : Hp → Prop} (xs : List V) (hs : SqL K H1 a xs) (hz : xs.length ≤ 1000) (hD : H1 D = none) (hw : ∀ x ∈ xs, wipe ((wipe σ vs).set j (some x)) vs = wipe σ vs)
    (R : Nat → V → Hp → Prop) (hR : ∀ k v H H', (∀ b o, b ≠ D → H b = some o → H' b = some o) → R k v H → R k v H')
    (he : ∀ (i : Nat) (x : V), xs[i]? = some x → ∀ H2, Same H1 H2 → (∃ o, H2 D = some o) → ∀ Q : VK, (∀ y H3, Same H2 H3 → R i y H3 → Q y H3) → te ((wipe σ vs).set j (some x)) H2 Q)
    (hd : ∀ H' outs, Same H1 H' → H' D = some (.lst outs) → outs.length = xs.length → (∀ (k : Nat) (v : V), outs[k]? = some v → R k v H') → Qd H') :
    LcGoal (Itl K a) (gName j) tYes te vs σ H1 D Qd := by
  refine lc_it walk_list (fun i H' => Same H1 H' ∧ ∃ outs, H' D = some (.lst outs) ∧ outs.length = i ∧ ∀ (k : Nat) (v : V), outs[k]? = some v → R k v H') ⟨same_new hD, [], upd_same, rfl, fun k v z => by simp at z⟩ (fun i H' _ e => Same.seq e.1 hs) (fun i x H H' hi e y => ?_) (fun H' e => ?_)
  · obtain ⟨rfl, hx⟩ := y
    obtain ⟨e1, outs, e2, e3, e4⟩ := e
    refine ⟨hw _ (List.mem_of_getElem? hx), yes_q (iteT ?_)⟩
    refine he i _ hx _ e1 ⟨_, e2⟩ _ fun y H3 s3 r3 => ⟨outs, s3 _ _ e2, ?_, fun b o q => ?_, _, upd_same, by rw [List.length_append, e3]; rfl, fun k v z => ?_⟩
    · have : 1000000 < sizeLine := by decide
      omega
    · rw [upd_ne (ne_of_none q hD)]
      exact s3 _ _ (e1 _ _ q)
    · have up : ∀ b o, b ≠ D → H3 b = some o → upd H3 D (.lst (outs ++ [y])) b = some o := fun b o n q => by rw [upd_ne n]; exact q
      rcases Nat.lt_or_ge k outs.length with hk | hk
      · rw [List.getElem?_append_left hk] at z
        exact hR _ _ _ _ (fun b o n q => up b o n (s3 _ _ q)) (e4 k v z)
      · rw [List.getElem?_append_right hk] at z
        have hk2 : k - outs.length = 0 := by
          have := (List.getElem?_eq_some_iff.mp z).1
          simp at this
          omega
        rw [hk2] at z
        obtain rfl : y = v := by simpa using z
        obtain rfl : k = i := by omega
        exact hR _ _ _ _ up r3
  · obtain ⟨e1, outs, e2, e3, e4⟩ := e
    exact hd H' outs e1 e2 e3 e4
theorem refs_of : ∀ {outs : List V}, (∀ (k : Nat) (v : V), outs[k]? = some v → ∃ t, v = .ref t) → ∃ ts : List Addr, outs = ts.map V.ref
  | [], _ => ⟨[], rfl⟩
  | v :: outs, h => by
    obtain ⟨t, rfl⟩ := h 0 v rfl
    obtain ⟨ts, rfl⟩ := refs_of (outs := outs) fun k v hk => h (k + 1) v (by simpa using hk)
    exact ⟨t :: ts, rfl⟩
section
variable {P : Program} {w : World} {K : PySem.W.Frag} {mg : Str → Option Value} {base : Heap} {C p0 p1 : Addr} {i0 i1 : Nat}
/-! ### _law_signs_for -/
structure SigOk (zs : List Str) : Prop where
  pos : 0 < zs.length
  few : zs.length ≤ 5
  nd : zs.Nodup
  sg : ∀ z ∈ zs, isSign (.str z) = true
def spSigns : Sp := fun vs H Q _ => ∃ p, vs = [.ref p] ∧ Pot H p ∧ ∀ l zs H', H l = none → Ex p H H' → H' l = some (.lst (zs.map V.str)) → SigOk zs → Q (.ref l) H'
abbrev N_law_signs_for : List Str := ["_law_urn_here"]
theorem sc_law_signs_for : FnScope N_law_signs_for ["_law_urn_here"] (defScope (top 63)) := ⟨rfl, rfl, rfl, by decide +kernel, rfl, by decide +kernel, by decide +kernel⟩
theorem c_law_signs_for (A : At K mg "_law_signs_for" (top 63)) (c_law_from : Cal P w K mg base 2 "_law_from" (spFrom K)) : Cal P w K mg base 3 "_law_signs_for" spSigns := by
  refine cal_of A sc_law_signs_for (fun _ _ _ _ _ _ us hl => match us, hl with | [_], _ => rfl) (fun vs H Q E h => ?_) (fun _ cdv A outer s H vs Q E hr h => ?_)
  · obtain ⟨_, rfl, _⟩ := h; rfl
  · obtain ⟨p, rfl, hp, hQ⟩ := h
    refine ⟨_, (pss_one (ps_ret (pe_c c_law_from hr (by decide) (by rfl) (pa_cons (pv 0) (pa_cons (pe_lst (pa_cons (pe_lst (pa_cons pe_str (pa_cons pe_str pa_nil))) (pa_cons (pe_lst (pa_cons pe_str (pa_cons pe_str pa_nil))) (pa_cons (pe_lst (pa_cons pe_str (pa_cons pe_str (pa_cons pe_str pa_nil)))) (pa_cons (pe_lst (pa_cons pe_str (pa_cons pe_str pa_nil))) (pa_cons (pe_lst (pa_cons pe_str pa_nil)) (pa_cons (pe_lst (pa_cons pe_str (pa_cons pe_str (pa_cons pe_str pa_nil)))) pa_nil))))))) pa_nil))))), ?_⟩
    refine ⟨_, rfl, (by show 2 ≤ sizeLine; decide), fun q1 h1 => ?_⟩
    obtain ⟨s1, u1⟩ := laid (.lst ([("a" : Str), "b"].map V.str)) h1
    refine ⟨(by show 2 ≤ sizeLine; decide), fun q2 h2 => ?_⟩
    obtain ⟨s2, u2⟩ := laid (.lst ([("a" : Str), "b"].map V.str)) h2
    refine ⟨(by show 3 ≤ sizeLine; decide), fun q3 h3 => ?_⟩
    obtain ⟨s3, u3⟩ := laid (.lst ([("a" : Str), "b", "c"].map V.str)) h3
    refine ⟨(by show 2 ≤ sizeLine; decide), fun q4 h4 => ?_⟩
    obtain ⟨s4, u4⟩ := laid (.lst ([("b" : Str), "d"].map V.str)) h4
    refine ⟨(by show 1 ≤ sizeLine; decide), fun q5 h5 => ?_⟩
    obtain ⟨s5, u5⟩ := laid (.lst ([("a" : Str)].map V.str)) h5
    refine ⟨(by show 3 ≤ sizeLine; decide), fun q6 h6 => ?_⟩
    obtain ⟨s6, u6⟩ := laid (.lst ([("a" : Str), "c", "e"].map V.str)) h6
    refine ⟨(by show 6 ≤ sizeLine; decide), fun q7 h7 => ?_⟩
    obtain ⟨s7, u7⟩ := laid (.lst [V.ref q1, .ref q2, .ref q3, .ref q4, .ref q5, .ref q6]) h7
    have a2 := s1.trans s2
    have a3 := a2.trans s3
    have a4 := a3.trans s4
    have a5 := a4.trans s5
    have a6 := a5.trans s6
    have a7 := a6.trans s7
    have g1 := s7 _ _ (s6 _ _ (s5 _ _ (s4 _ _ (s3 _ _ (s2 _ _ u1)))))
    have g2 := s7 _ _ (s6 _ _ (s5 _ _ (s4 _ _ (s3 _ _ u2))))
    have g3 := s7 _ _ (s6 _ _ (s5 _ _ (s4 _ _ u3)))
    have g4 := s7 _ _ (s6 _ _ (s5 _ _ u4))
    have g5 := s7 _ _ (s6 _ _ u5)
    have g6 := s7 _ _ u6
    have f2 := s1.free h2
    have f3 := a2.free h3
    have f4 := a3.free h4
    have f5 := a4.free h5
    have f6 := a5.free h6
    have f7 := a6.free h7
    obtain ⟨a, b, c, hp⟩ := hp
    have ex : Ex p H _ := (Ex.refl ⟨a, b, c, hp⟩).same a7
    refine ⟨p, q7, _, rfl, ex.pot, (ne_of_none hp f7).symm, SqL.of u7, (by show 0 < 6; decide), (by show 6 < 100000; decide), fun v x y z hv => ?_⟩
    have fin : ∀ q zs, H q = none → upd _ q7 _ q = some (.lst (zs.map V.str)) → SigOk zs → Q (.ref q) (upd _ p (potO x y z)) := fun q zs hq hu ok => hQ q zs _ hq (ex.trans Ex.turn) (by rw [upd_ne (ne_of_none hp hq).symm]; exact hu) ok
    simp only [List.mem_cons, List.not_mem_nil, or_false] at hv
    rcases hv with rfl | rfl | rfl | rfl | rfl | rfl
    · exact fin q1 _ h1 g1 ⟨by decide, by decide, by decide +kernel, by decide +kernel⟩
    · exact fin q2 _ f2 g2 ⟨by decide, by decide, by decide +kernel, by decide +kernel⟩
    · exact fin q3 _ f3 g3 ⟨by decide, by decide, by decide +kernel, by decide +kernel⟩
    · exact fin q4 _ f4 g4 ⟨by decide, by decide, by decide +kernel, by decide +kernel⟩
    · exact fin q5 _ f5 g5 ⟨by decide, by decide, by decide +kernel, by decide +kernel⟩
    · exact fin q6 _ f6 g6 ⟨by decide, by decide, by decide +kernel, by decide +kernel⟩
/-! ### plain rows -/
/-- a list of rows [moves, last] -/
structure PlainAt (K : PySem.W.Frag) (H : Hp) (a : Addr) (rs ds : List Addr) (ms : List Mv) (ls : List Bool) : Prop where
  lst : SqL K H a (rs.map V.ref)
  lr : rs.length = ms.length
  ll : ls.length = ms.length
  dc : DctsAt H ds ms
  pr : ∀ (i : Nat) r d l, rs[i]? = some r → ds[i]? = some d → ls[i]? = some l → H r = some (.lst [.ref d, .bl l])
theorem PlainAt.same {H H' : Hp} {a : Addr} {rs ds : List Addr} {ms : List Mv} {ls : List Bool} (h : PlainAt K H a rs ds ms ls) (e : Same H H') : PlainAt K H' a rs ds ms ls := ⟨Same.seq e h.lst, h.lr, h.ll, h.dc.same e, fun i r d l h1 h2 h3 => e _ _ (h.pr i r d l h1 h2 h3)⟩
def spForm (K : PySem.W.Frag) (C : Addr) (i0 i1 : Nat) : Sp := fun vs H Q _ => ∃ a rs ds ms ls, vs = [.ref a] ∧ PlainAt K H a rs ds ms ls ∧ ds.Nodup ∧ StsOk ms ls ∧ ∀ H' x dx M L, Same H H' → H x = none → H dx = none → H M = none → H L = none → FormAt K C i0 i1 H' x dx M L ms.length ls → Q (.ref x) H'
abbrev N_law_form : List Str := ["_law_plain", "_law_row"]
theorem sc_law_form : FnScope N_law_form ["_law_plain"] (defScope (top 65)) := ⟨rfl, rfl, rfl, by decide +kernel, rfl, by decide +kernel, by decide +kernel⟩
theorem c_law_form (A : At K mg "_law_form" (top 65)) (B : Blt mg) (FC : FormC K C p0 p1 i0 i1) (hC : mg "Form" = some (.ref C)) (c_are_states : Cal P w K mg base 3 "are_states" (spAreStates K)) (c_in_order : Cal P w K mg base 1 "in_order" spInOrder) : Cal P w K mg base 6 "_law_form" (spForm K C i0 i1) := by
  refine cal_of A sc_law_form (fun _ _ _ _ _ _ us hl => match us, hl with | [_], _ => rfl) (fun vs H Q E h => ?_) (fun _ cdv A outer s H vs Q E hr h => ?_)
  · obtain ⟨_, _, _, _, _, rfl, _⟩ := h; rfl
  · obtain ⟨a, rs, ds, ms, ls, rfl, hP, hnd, hO, hQ⟩ := h
    obtain ⟨f, fd, M0, F⟩ := FC.ini
    have b0 := FunD.bindsN (ps := ["self", "states"]) F fun _ _ _ _ _ _ us hl => match us, hl with | [_, _], _ => rfl
    refine ⟨_, (pss_one (ps_ret (pe_make M0 (f_finit (P := P) (w := w) (mg := mg) (base := base) FC F B c_are_states c_in_order) hr (by rfl) hC b0 .nil pass0 (pa_cons (pe_callTy call_tuple_of (by rfl) B.tuple (by decide +kernel) (pa_cons (pe_lc (own := [("_law_row", 1)]) (g := gName 1) (tt := tYes) (by rfl) sc_law_form.nd (pi_list (pv 0)) (blkOk_by (own := [("_law_row", 1)]) (N := N_law_form) (sc := defScope (top 65)) (by decide +kernel)) (fun _ _ _ _ _ => (pg_name (i := 1) sc_law_form.nd rfl (Or.inl rfl))) (fun _ _ _ _ _ => pts_nil) (fun _ _ _ _ _ => (pe_tup (pa_cons (pe_ix (ixLK (K := K) rfl) (pv 1) pe_int (fun _ _ => rfl)) (pa_cons (pe_ix (ixLK (K := K) rfl) (pv 1) pe_int (fun _ _ => rfl)) pa_nil))))) pa_nil)) pa_nil)))), ?_⟩
    have p8 := hO.few
    have lr := hP.lr
    refine ⟨_, rfl, a, rfl, ⟨_, hP.lst⟩, fun D hD => lc_lstR (rs.map V.ref) hP.lst (by rw [List.length_map]; omega) hD (fun x _ => rfl) (fun k v H' => ∃ t d l, v = .ref t ∧ H' t = some (.tup [.ref d, .bl l]) ∧ t ≠ D ∧ ds[k]? = some d ∧ ls[k]? = some l) (fun k v H1 H2 e ⟨t, d, l, h1, h2, h3, h4⟩ => ⟨t, d, l, h1, e _ _ h3 h2, h3, h4⟩) (fun i x hx H2 e2 ⟨o, ho⟩ Q q => ?_) (fun H2 outs e2 u2 l2 r2 => ?_)⟩
    · rw [List.getElem?_map] at hx
      obtain ⟨r, hr', rfl⟩ := Option.map_eq_some_iff.mp hx
      have il : i < ms.length := by have := (List.getElem?_eq_some_iff.mp hr').1; omega
      have h1 := List.getElem?_eq_getElem (show i < ds.length by rw [hP.dc.1]; exact il)
      have h2 := List.getElem?_eq_getElem (show i < ls.length by rw [hP.ll]; exact il)
      have hrow := e2 _ _ (hP.pr i r _ _ hr' h1 h2)
      refine ⟨_, rfl, r, _, _, _, rfl, rfl, SqL.of hrow, rfl, _, rfl, r, _, _, _, rfl, rfl, SqL.of hrow, rfl, (by show 2 ≤ sizeLine; decide), fun t ht => ?_⟩
      exact q _ _ (same_new ht) ⟨t, _, _, rfl, upd_same, (fun z => by rw [z, ho] at ht; cases ht), h1, h2⟩
    · rw [List.length_map] at l2
      obtain ⟨ts, rfl⟩ := refs_of fun k v hk => by
        obtain ⟨t, _, _, h, _⟩ := r2 k v hk
        exact ⟨t, h⟩
      have hte : ∀ (k : Nat) (t : Addr), ts[k]? = some t → ∃ d l, H2 t = some (.tup [.ref d, .bl l]) ∧ ds[k]? = some d ∧ ls[k]? = some l := fun k t hk => by
        obtain ⟨t', d, l, h, h1, h2, h3⟩ := r2 k (.ref t) (by rw [List.getElem?_map, hk]; rfl)
        cases h
        exact ⟨d, l, h1, h3⟩
      rw [List.length_map] at l2
      refine ⟨D, _, rfl, .inl ⟨SqL.of u2, fun T hT => ?_⟩⟩
      obtain ⟨s3, u3⟩ := laid (.tup (ts.map V.ref)) hT
      generalize upd H2 T (.tup (ts.map V.ref)) = H3 at s3 u3 ⊢
      have e3 := e2.trans s3
      intro x dx hx hdx n
      have nx : ∀ b o, H3 b = some o → b ≠ x ∧ b ≠ dx := fun b o e => ⟨ne_of_none e hx, ne_of_none e hdx⟩
      have up : Same H3 (upd (upd H3 dx (.own x)) x (.ins C dx [])) := fun b o e => by rw [upd_ne (nx b o e).1, upd_ne (nx b o e).2]; exact e
      have hS : StsAt K (upd (upd H3 dx (.own x)) x (.ins C dx [])) T ts ds ms ls := by
        refine ⟨.inl (.inl (up _ _ u3)), by omega, hP.ll, (hP.dc.same e3).same up, fun i t d l h1 h2 h3 => ?_⟩
        obtain ⟨d', l', g1, g2, g3⟩ := hte i t h1
        rw [h2] at g2
        rw [h3] at g3
        cases g2
        cases g3
        exact .inl (.inl (up _ _ (s3 _ _ g1)))
      refine ⟨x, dx, T, ts, ds, ms, ls, rfl, upd_same, by rw [upd_ne n, upd_same], n, hS, hnd, hO, fun H' M L k hM hL hF => ⟨rfl, hQ H' x dx M L (fun b o q => ?_) (e3.free hx) (e3.free hdx) ?_ ?_ hF⟩⟩
      · have q3 := e3 _ _ q
        exact k b o (nx _ _ q3).1 (nx _ _ q3).2 (up _ _ q3)
      · exact (e3.trans up).free hM
      · exact (e3.trans up).free hL
/-! ### _law_end -/
def lastIn (H : Hp) : V × V → Bool
  | (_, .ref r) => match H r with
    | some (.lst [_, .bl b]) => b
    | _ => false
  | _ => false
theorem selH {H : Hp} : ∀ (ns : List Int) (rs : List Addr) (ls : List Bool), (∀ (i : Nat) r l, rs[i]? = some r → ls[i]? = some l → ∃ d, H r = some (.lst [.ref d, .bl l])) → rs.length = ls.length → (((ns.map V.int).zip (rs.map V.ref)).filter (lastIn H)).map fstV = (selN ns ls).map V.int
  | [], _, _, _, _ => rfl
  | _ :: _, [], [], _, _ => rfl
  | _ :: _, [], _ :: _, _, h => by cases h
  | _ :: _, _ :: _, [], _, h => by cases h
  | n :: ns, r :: rs, l :: ls, h, hl => by
    have ih := selH ns rs ls (fun i r' l' h1 h2 => h (i + 1) r' l' (by simpa using h1) (by simpa using h2)) (by simpa using hl)
    obtain ⟨d, h0⟩ := h 0 r l rfl rfl
    have e : lastIn H (.int n, .ref r) = l := by simp only [lastIn, h0]
    rw [List.map_cons, List.map_cons, List.zip_cons_cons, List.filter_cons, e, selN, List.zip_cons_cons, List.filter_cons]
    cases l with
    | false => exact ih
    | true =>
      rw [if_pos rfl, if_pos rfl, List.map_cons, ih]
      rfl
def spEnd (K : PySem.W.Frag) : Sp := fun vs H Q _ => ∃ (a t : Addr) (rs ds : List Addr) (ms : List Mv) (ls : List Bool) (ns : List Int), vs = [.ref a, .ref t] ∧ PlainAt K H a rs ds ms ls ∧ SqT K H t (ns.map V.int) ∧ ns.length = ms.length ∧ ns.length ≤ 6 ∧ true ∈ ls ∧ ∀ H' m, Same H H' → IsMin (selN ns ls) m → Q (.int m) H'
abbrev N_law_end : List Str := ["_law_plain", "_law_row", "_law_number", "_law_one"]
theorem sc_law_end : FnScope N_law_end ["_law_plain", "_law_row"] (defScope (top 66)) := ⟨rfl, rfl, rfl, by decide +kernel, rfl, by decide +kernel, by decide +kernel⟩
theorem c_law_end (A : At K mg "_law_end" (top 66)) (B : Blt mg) : Cal P w K mg base 1 "_law_end" (spEnd K) := by
  refine cal_of A sc_law_end (fun _ _ _ _ _ _ us hl => match us, hl with | [_, _], _ => rfl) (fun vs H Q E h => ?_) (fun _ cdv A outer s H vs Q E hr h => ?_)
  · obtain ⟨_, _, _, _, _, _, _, rfl, _⟩ := h; rfl
  · obtain ⟨a, t, rs, ds, ms, ls, ns, rfl, hP, ht, hn, h6, hT, hQ⟩ := h
    refine ⟨_, (pss_one (ps_ret (pe_callB (cr_min rfl) (by rfl) B.min (by decide +kernel) (pa_cons (pe_lc (own := [("_law_number", 2), ("_law_one", 3)]) (by rfl) sc_law_end.nd (pi_zipM true false (by rfl) B.zip (pa_cons (pv 1) (pa_cons (pv 0) pa_nil))) (blkOk_by (own := [("_law_number", 2), ("_law_one", 3)]) (N := N_law_end) (sc := defScope (top 66)) (by decide +kernel)) (fun _ _ _ _ _ => (pg_tupK (K := K) (n := 2) rfl rfl (pgs_cons (pg_name (i := 2) sc_law_end.nd rfl (Or.inl rfl)) (pgs_cons (pg_name (i := 3) sc_law_end.nd rfl (Or.inl rfl)) pgs_nil)))) (fun _ _ _ _ _ => pts_one (pt_val (pe_ix (ixLK (K := K) rfl) (pv 3) pe_int (fun _ _ => rfl)))) (fun _ _ _ _ _ => (pv 2))) pa_nil)))), ?_⟩
    have prs : ∀ (i : Nat) r l, rs[i]? = some r → ls[i]? = some l → ∃ d, H r = some (.lst [.ref d, .bl l]) := fun i r l h1 h2 => by
      have il : i < ds.length := by
        have := (List.getElem?_eq_some_iff.mp h1).1
        rw [hP.dc.1, ← hP.lr]
        exact this
      exact ⟨_, hP.pr i r _ l h1 (List.getElem?_eq_getElem il) h2⟩
    refine ⟨_, rfl, _, rfl, t, a, _, _, rfl, ht, hP.lst, fun D hD => lc_zipM ht hP.lst (by rw [List.length_map]; omega) hD (lastIn H) fstV (fun p _ => rfl) (fun p hp H2 e2 Q q => ?_) (fun p hp _ H2 e2 Q q => ⟨_, rfl, q _ (Same.refl _)⟩) (fun H2 e2 u2 => ?_)⟩
    · obtain ⟨i, hi⟩ := List.getElem?_of_mem hp
      obtain ⟨h1, h2⟩ := List.getElem?_zip_eq_some.mp hi
      rw [List.getElem?_map] at h2
      obtain ⟨r, hr', e⟩ := Option.map_eq_some_iff.mp h2
      have il : i < ls.length := by
        have := (List.getElem?_eq_some_iff.mp hr').1
        rw [hP.ll, ← hP.lr]
        exact this
      obtain ⟨d, hd⟩ := prs i r _ hr' (List.getElem?_eq_getElem il)
      have ef : lastIn H p = ls[i] := by
        obtain ⟨p1, p2⟩ := p
        cases e
        simp only [lastIn, hd]
      rw [ef] at q
      rw [← e]
      exact ⟨_, rfl, r, _, _, _, rfl, rfl, SqL.of (e2 _ _ hd), rfl, _, rfl, q⟩
    · rw [selH ns rs ls prs (by rw [hP.lr, hP.ll])] at u2
      exact ⟨D, selN ns ls, rfl, SqL.of u2, selN_pos (by rw [hn, hP.ll]) hT, fun m h1 h2 => hQ _ m e2 ⟨h1, h2⟩⟩
/-! ### _law_is_number -/
def spLNum (K : PySem.W.Frag) : Sp := fun vs H Q _ => ∃ v, vs = [v] ∧ NumOk K H v ∧ Q (.bl (numV v)) H
theorem sc_law_is_number : FnScope ["_law_value"] ["_law_value"] (defScope (top 68)) := ⟨rfl, rfl, rfl, by decide +kernel, rfl, by decide +kernel, by decide +kernel⟩
theorem c_law_is_number (A : At K mg "_law_is_number" (top 68)) (B : Blt mg) : Cal P w K mg base 1 "_law_is_number" (spLNum K) := by
  refine cal_of A sc_law_is_number (fun _ _ _ _ _ _ us hl => match us, hl with | [_], _ => rfl) (fun vs H Q E h => ?_) (fun _ cdv A outer s H vs Q E hr h => ?_)
  · obtain ⟨_, rfl, _⟩ := h; rfl
  · obtain ⟨v, rfl, hv, hQ⟩ := h
    refine ⟨_, (pss_one (ps_ret (pe_and (pe_callB call_isS (by rfl) B.isinstance (by decide +kernel) (pa_cons (pv 0) (pa_cons (pe_bltn (v := .ty "int") (by rfl) B.int (by decide +kernel) rfl) pa_nil))) (pe_and (pe_not (pe_callB call_isS (by rfl) B.isinstance (by decide +kernel) (pa_cons (pv 0) (pa_cons (pe_bltn (v := .ty "bool") (by rfl) B.bool (by decide +kernel) rfl) pa_nil)))) (pe_one (pe_chain op_le op_lt pe_int (pv 0) pe_int)))))), ?_⟩
    rcases hv with ⟨n, rfl⟩ | ⟨b, rfl⟩ | ⟨hn, hi⟩
    · refine ⟨_, rfl, _, _, true, rfl, .ty (.base (.int n)) (by decide +kernel), _, rfl, iteT ?_⟩
      refine ⟨_, rfl, _, _, false, rfl, .ty (.base (.int n)) (by decide +kernel), _, rfl, _, rfl, iteT ?_⟩
      refine ⟨_, rfl, _, _, rfl, rfl, _, rfl, ?_⟩
      by_cases h1 : 0 ≤ n
      · rw [decide_eq_true h1]
        refine iteT ⟨_, _, rfl, rfl, ?_⟩
        have e : numV (.int n) = decide (n < 10000) := by simp [numV, numI, h1]
        rw [e] at hQ
        exact hQ
      · rw [decide_eq_false h1]
        have e : numV (.int n) = false := by simp [numV, numI, h1]
        rw [e] at hQ
        exact iteF hQ
    · refine ⟨_, rfl, _, _, true, rfl, .ty (.base (.bl b)) (by decide +kernel), _, rfl, iteT ?_⟩
      exact ⟨_, rfl, _, _, true, rfl, .ty (.base (.bl b)) (by decide +kernel), _, rfl, _, rfl, iteF hQ⟩
    · rw [numV_no hn] at hQ
      exact ⟨_, rfl, _, _, false, rfl, hi, _, rfl, iteF hQ⟩
end
end MN
/-! odd values, values near a row -/
namespace MN
open PySem PySem.Spec PyProof.Rows L2
/-- a value that is not the pot -/
inductive OddV (p : Addr) (H : Hp) : V → Prop where
  | int (i : Int) : OddV p H (.int i)
  | bl (b : Bool) : OddV p H (.bl b)
  | non : OddV p H .non
  | str (z : Str) : OddV p H (.str z)
  | tup {a : Addr} {xs : List V} (n : a ≠ p) (h : H a = some (.tup xs)) : OddV p H (.ref a)
  | lst {a : Addr} {xs : List V} (n : a ≠ p) (h : H a = some (.lst xs)) : OddV p H (.ref a)
  | dct {a : Addr} {kvs : List (Key × V)} (n : a ≠ p) (h : H a = some (.dK kvs)) : OddV p H (.ref a)
theorem OddV.keep {p : Addr} {H H' : Hp} {v : V} (h : OddV p H v) (e : ∀ b o, b ≠ p → H b = some o → H' b = some o) : OddV p H' v := by
  cases h with
  | int i => exact .int i
  | bl b => exact .bl b
  | non => exact .non
  | str z => exact .str z
  | tup n h => exact .tup n (e _ _ n h)
  | lst n h => exact .lst n (e _ _ n h)
  | dct n h => exact .dct n (e _ _ n h)
theorem OddV.num {K : PySem.W.Frag} {p : Addr} {H : Hp} {v : V} (h : OddV p H v) : NumOk K H v := by
  cases h with
  | int i => exact .inl ⟨i, rfl⟩
  | bl b => exact .inr (.inl ⟨b, rfl⟩)
  | non => exact .inr (.inr ⟨(fun z q => by cases q), .ty (.base .non) (by decide +kernel)⟩)
  | str z => exact .inr (.inr ⟨(fun z q => by cases q), .ty (.base (.str z)) (by decide +kernel)⟩)
  | tup n h => exact .inr (.inr ⟨(fun z q => by cases q), .ty (.base (.tup h)) (by decide +kernel)⟩)
  | lst n h => exact .inr (.inr ⟨(fun z q => by cases q), .ty (.base (.lst h)) (by decide +kernel)⟩)
  | dct n h => exact .inr (.inr ⟨(fun z q => by cases q), .ty (.base (.dK h)) (by decide +kernel)⟩)
inductive NV (p : Addr) (H : Hp) : V → Prop where
  | int (i : Int) : NV p H (.int i)
  | non : NV p H .non
  | str (z : Str) : NV p H (.str z)
  | tup {a : Addr} {xs : List V} (n : a ≠ p) (h : H a = some (.tup xs)) (hl : xs.length ≤ 20) (ho : ∀ x ∈ xs, OddV p H x) : NV p H (.ref a)
  | lst {a : Addr} {xs : List V} (n : a ≠ p) (h : H a = some (.lst xs)) : NV p H (.ref a)
  | dct {a : Addr} {kvs : List (Key × V)} (n : a ≠ p) (h : H a = some (.dK kvs)) : NV p H (.ref a)
theorem NV.keep {p : Addr} {H H' : Hp} {v : V} (h : NV p H v) (e : ∀ b o, b ≠ p → H b = some o → H' b = some o) : NV p H' v := by
  cases h with
  | int i => exact .int i
  | non => exact .non
  | str z => exact .str z
  | tup n h hl ho => exact .tup n (e _ _ n h) hl fun x hx => (ho x hx).keep e
  | lst n h => exact .lst n (e _ _ n h)
  | dct n h => exact .dct n (e _ _ n h)
theorem cutV_mem {xs : List V} {lo hi : Option Int} {y : V} (h : y ∈ cutV xs lo hi) : y ∈ xs := List.mem_of_mem_drop (List.mem_of_mem_take h)
section
variable {K : PySem.W.Frag} {H : Hp} {a b : Addr} {xs ys : List V} {Q : VK}
theorem catA_of (ha : H a = some (.tup xs)) (hb : H b = some (.tup ys)) (hz : xs.length + ys.length ≤ 1000) (h : ∀ r H', Same H H' → H' r = some (.tup (xs ++ ys)) → (r = a ∨ r = b ∨ H r = none) → Q (.ref r) H') : rCatA K (.ref a) (.ref b) H Q := by
  refine ⟨a, b, xs, ys, rfl, rfl, .inl (.inl ha), .inl (.inl hb), Nat.le_trans hz (by decide), fun e => ?_, fun _ e => ?_, fun _ _ p hp => h p _ (same_new hp) upd_same (.inr (.inr hp))⟩
  · subst e
    exact h b H (Same.refl _) hb (.inr (.inl rfl))
  · subst e
    exact h a H (Same.refl _) (by rw [List.append_nil]; exact ha) (.inl rfl)
theorem slA_of {lo hi : Option Int} (ha : H a = some (.tup xs)) (h : ∀ r H', Same H H' → H' r = some (.tup (cutV xs lo hi)) → (r = a ∨ H r = none) → Q (.ref r) H') : rSlA K (.ref a) lo hi H Q := by
  refine ⟨a, xs, rfl, .inl (.inl ha), fun e => ?_, fun _ p hp => h p _ (same_new hp) upd_same (.inr hp)⟩
  refine h a H (Same.refl _) ?_ (.inl rfl)
  rw [cutV, e.1, e.2, List.drop_zero, Nat.sub_zero, List.take_length]
  exact ha
theorem slA_none {σ : L2.St} {lo : Option Int} (ha : H a = some (.tup xs)) (h : ∀ r H', Same H H' → H' r = some (.tup (cutV xs lo none)) → (r = a ∨ H r = none) → Q (.ref r) H') : tNoPart σ H fun u H3 => rSlA K (.ref a) lo u H3 Q := slA_of ha h
end
section
variable {P : Program} {w : World} {K : PySem.W.Frag} {mg : Str → Option Value} {base : Heap}
def spOdd : Sp := fun vs H Q _ => ∃ p, vs = [.ref p] ∧ Pot H p ∧ ∀ v H', Ex p H H' → OddV p H' v → Q v H'
abbrev N_law_odd : List Str := ["_law_urn_here", "_law_some"]
theorem sc_law_odd : FnScope N_law_odd ["_law_urn_here"] (defScope (top 67)) := ⟨rfl, rfl, rfl, by decide +kernel, rfl, by decide +kernel, by decide +kernel⟩
theorem c_law_odd (A : At K mg "_law_odd" (top 67)) (c_law_from : Cal P w K mg base 2 "_law_from" (spFrom K)) : Cal P w K mg base 3 "_law_odd" spOdd := by
  refine cal_of A sc_law_odd (fun _ _ _ _ _ _ us hl => match us, hl with | [_], _ => rfl) (fun vs H Q E h => ?_) (fun _ cdv A outer s H vs Q E hr h => ?_)
  · obtain ⟨_, rfl, _⟩ := h; rfl
  · obtain ⟨p, rfl, hp, hQ⟩ := h
    refine ⟨_, (pss_cons (ps_set (i := 1) sc_law_odd.nd rfl (Or.inl rfl) (pe_lst (pa_cons pe_int (pa_cons pe_int (pa_cons pe_int (pa_cons (pe_un un_neg pe_int) (pa_cons (pe_op op_powB pe_int pe_int) (pa_cons pe_bl (pa_cons pe_bl (pa_cons pe_non (pa_cons pe_str (pa_cons (pe_tup (pa_cons pe_int pa_nil)) (pa_cons (pe_lst (pa_cons pe_int pa_nil)) (pa_cons pe_int (pa_cons pe_int (pa_cons (pe_op op_sub pe_int (pe_op op_powB pe_int pe_int)) (pa_cons pe_dnewK (pa_cons pe_str pa_nil))))))))))))))))))
      (pss_one (ps_ret (pe_c c_law_from hr (by decide) (by rfl) (pa_cons (pv 0) (pa_cons (pv 1) pa_nil)))))), ?_⟩
    refine ⟨_, rfl, _, _, rfl, rfl, ⟨by decide, by decide +kernel⟩, (by show 1 ≤ sizeLine; decide), fun q1 h1 => ?_⟩
    obtain ⟨s1, u1⟩ := laid (.tup [V.int 1]) h1
    refine ⟨(by show 1 ≤ sizeLine; decide), fun q2 h2 => ?_⟩
    obtain ⟨s2, u2⟩ := laid (.lst [V.int 1]) h2
    refine ⟨_, _, rfl, rfl, ⟨by decide, by decide +kernel⟩, _, _, rfl, rfl, fun q3 h3 => ?_⟩
    obtain ⟨s3, u3⟩ := laid (.dK []) h3
    refine ⟨(by show 16 ≤ sizeLine; decide), fun q4 h4 => ?_⟩
    obtain ⟨a, b, c, hp⟩ := hp
    have a2 := s1.trans s2
    have a3 := a2.trans s3
    have f2 := s1.free h2
    have f3 := a2.free h3
    have f4 := a3.free h4
    have n1 : q1 ≠ p := (ne_of_none hp h1).symm
    have n2 : q2 ≠ p := (ne_of_none hp f2).symm
    have n3 : q3 ≠ p := (ne_of_none hp f3).symm
    have n4 : q4 ≠ p := (ne_of_none hp f4).symm
    obtain ⟨xs, hxs, all⟩ : ∃ xs : List V, xs = [V.int 0, V.int 9999, V.int 10000, V.int (-1), V.int (10 ^ Int.toNat 60), V.bl true, V.bl false, V.non, V.str "1", V.ref q1, V.ref q2, V.int 9998, V.int 1, V.int (0 - 10 ^ Int.toNat 59), V.ref q3, V.str ""] ∧ ∀ H', (∀ b o, b ≠ p → upd (upd (upd H q1 (.tup [V.int 1])) q2 (.lst [V.int 1])) q3 (.dK []) b = some o → H' b = some o) → ∀ v ∈ xs, OddV p H' v := by
      refine ⟨_, rfl, fun H' e v hv => ?_⟩
      simp only [List.mem_cons, List.not_mem_nil, or_false] at hv
      rcases hv with rfl | rfl | rfl | rfl | rfl | rfl | rfl | rfl | rfl | rfl | rfl | rfl | rfl | rfl | rfl | rfl
      · exact .int _
      · exact .int _
      · exact .int _
      · exact .int _
      · exact .int _
      · exact .bl _
      · exact .bl _
      · exact .non
      · exact .str _
      · exact .tup n1 (e _ _ n1 (s3 _ _ (s2 _ _ u1)))
      · exact .lst n2 (e _ _ n2 (s3 _ _ u2))
      · exact .int _
      · exact .int _
      · exact .int _
      · exact .dct n3 (e _ _ n3 u3)
      · exact .str _
    have l16 : xs.length = 16 := by rw [hxs]; rfl
    show gName 1 (.ref q4) _ (upd _ q4 (.lst [V.int 0, V.int 9999, V.int 10000, V.int (-1), V.int (10 ^ Int.toNat 60), V.bl true, V.bl false, V.non, V.str "1", V.ref q1, V.ref q2, V.int 9998, V.int 1, V.int (0 - 10 ^ Int.toNat 59), V.ref q3, V.str ""])) _
    rw [← hxs]
    clear hxs
    obtain ⟨s4, u4⟩ := laid (.lst xs) h4
    generalize upd (upd (upd H q1 (.tup [V.int 1])) q2 (.lst [V.int 1])) q3 (.dK []) = H3 at *
    generalize upd H3 q4 (.lst xs) = H4 at *
    have ex : Ex p H H4 := (Ex.refl ⟨a, b, c, hp⟩).same (a3.trans s4)
    refine ⟨_, rfl, _, rfl, p, q4, xs, rfl, ex.pot, n4, SqL.of u4, by omega, by omega, fun v x y z hv => hQ v _ (ex.trans Ex.turn) (all _ (fun b o n q => ?_) v hv)⟩
    rw [upd_ne n]
    exact s4 _ _ q
def spNear : Sp := fun vs H Q _ => ∃ p n, vs = [.ref p, .int (n : Nat)] ∧ Pot H p ∧ 1 ≤ n ∧ n ≤ 6 ∧ ∀ v H', Ex p H H' → NV p H' v → Q v H'
abbrev N_law_near : List Str := ["_law_urn_here", "_law_many", "_law_row", "_law_at", "_law_way", "_law_spot"]
theorem sc_law_near : FnScope N_law_near ["_law_urn_here", "_law_many"] (defScope (top 69)) := ⟨rfl, rfl, rfl, by decide +kernel, rfl, by decide +kernel, by decide +kernel⟩
theorem c_law_near (A : At K mg "_law_near" (top 69)) (B : Blt mg) (c_law_pull : Cal P w K mg base 1 "_law_pull" spDip) (c_law_from : Cal P w K mg base 2 "_law_from" (spFrom K)) (c_law_odd : Cal P w K mg base 3 "_law_odd" spOdd) : Cal P w K mg base 4 "_law_near" spNear := by
  refine cal_of A sc_law_near (fun _ _ _ _ _ _ us hl => match us, hl with | [_, _], _ => rfl) (fun vs H Q E h => ?_) (fun _ cdv A outer s H vs Q E hr h => ?_)
  · obtain ⟨_, _, rfl, _⟩ := h; rfl
  · obtain ⟨p, n, rfl, hp, hn1, hn6, hQ⟩ := h
    refine ⟨_, (pss_cons (ps_set (i := 2) sc_law_near.nd rfl (Or.inl rfl) (pe_callTy call_tuple_of (by rfl) B.tuple (by decide +kernel) (pa_cons (pe_lc (own := [("_law_at", 3)]) (g := gName 3) (tt := tYes) (by rfl) sc_law_near.nd (pi_range1 (by rfl) B.range (pa_cons (pv 1) pa_nil)) (blkOk_by (own := [("_law_at", 3)]) (N := N_law_near) (sc := defScope (top 69)) (by decide +kernel)) (fun _ _ _ _ _ => (pg_name (i := 3) sc_law_near.nd rfl (Or.inl rfl))) (fun _ _ _ _ _ => pts_nil) (fun _ _ _ _ _ => (pe_c c_law_from hr (by decide) (by rfl) (pa_cons (pv 0) (pa_cons (pe_lst (pa_cons pe_int (pa_cons pe_int (pa_cons pe_int (pa_cons pe_int pa_nil))))) pa_nil))))) pa_nil)))
      (pss_cons (ps_par (i := 4) (j := 5) (by rfl) sc_law_near.nd rfl rfl (by decide) rfl rfl (pa_cons (pe_c c_law_pull hr (by decide) (by rfl) (pa_cons (pv 0) (pa_cons pe_int pa_nil))) (pa_cons (pe_c c_law_pull hr (by decide) (by rfl) (pa_cons (pv 0) (pa_cons (pv 1) pa_nil))) pa_nil)) (by rfl))
      (pss_cons (ps_if (pt_cmpR op_lt (pv 4) pe_int (nomark _))
        (pss_one (ps_ret (pv 2)))
        pss_nil)
      (pss_cons (ps_if (pt_cmpR op_lt (pv 4) pe_int (nomark _))
        (pss_one (ps_ret (pe_op op_catA (pe_op op_catA (pe_slice sl_tupA (pv 2) po_none (po_some (pv 5))) (pe_tup (pa_cons (pe_c c_law_odd hr (by decide) (by rfl) (pa_cons (pv 0) pa_nil)) pa_nil))) (pe_slice sl_tupA (pv 2) (po_some (pe_op op_add (pv 5) pe_int)) po_none))))
        pss_nil)
      (pss_cons (ps_if (pt_cmpR op_eq (pv 4) pe_int (nomark _))
        (pss_one (ps_ret (pe_op op_catA (pv 2) (pe_tup (pa_cons (pe_c c_law_odd hr (by decide) (by rfl) (pa_cons (pv 0) pa_nil)) pa_nil)))))
        pss_nil)
      (pss_one (ps_ret (pe_c c_law_from hr (by decide) (by rfl) (pa_cons (pv 0) (pa_cons (pe_lst (pa_cons (pe_slice sl_tupA (pv 2) (po_some pe_int) po_none) (pa_cons (pe_callTy call_list_of (by rfl) B.list (by decide +kernel) (pa_cons (pv 2) pa_nil)) (pa_cons (pe_tup (pa_cons (pv 2) pa_nil)) (pa_cons pe_non (pa_cons pe_dnewK (pa_cons pe_str (pa_cons pe_int (pa_cons (pe_op op_catA (pv 2) (pv 2)) (pa_cons (pe_tup pa_nil) (pa_cons (pe_dictEnum rfl (pv 2) (by rfl) B.dict (by rfl) B.enumerate) pa_nil))))))))))) pa_nil)))))))))), ?_⟩
    refine ⟨_, rfl, _, rfl, by omega, by omega, fun D hD => ?_⟩
    have hDp : D ≠ p := by
      obtain ⟨a, b, c, e⟩ := hp
      exact (ne_of_none e hD).symm
    refine lc_it (walk_range (lo := 0)) (fun i H' => Ex p H H' ∧ ∃ ns : List Int, ns.length = i ∧ H' D = some (.lst (ns.map V.int))) ⟨(Ex.refl hp).put hD hDp, [], rfl, upd_same⟩ (fun _ _ _ _ => trivial) (fun i x H1 H2 hi e y => ?_) (fun H1 e => ?_)
    · obtain ⟨rfl, rfl⟩ := y
      obtain ⟨ex, ns, hn, hD1⟩ := e
      refine ⟨rfl, yes_q (iteT ⟨_, rfl, (by show 4 ≤ sizeLine; decide), fun q hq => ?_⟩)⟩
      obtain ⟨a, b, c, hp1⟩ := ex.pot
      have qp : q ≠ p := (ne_of_none hp1 hq).symm
      have ex1 := ex.new (o := .lst [V.int 0, V.int 1, V.int 7, V.int 9999]) hq
      have hD2 := same_new (o := .lst [V.int 0, V.int 1, V.int 7, V.int 9999]) hq _ _ hD1
      refine ⟨p, q, _, rfl, ex1.pot, qp, SqL.of upd_same, (by show 0 < 4; decide), (by show 4 < 100000; decide), fun v x y z hv => ?_⟩
      obtain ⟨m, rfl⟩ : ∃ m : Int, v = .int m := by
        simp only [List.mem_cons, List.not_mem_nil, or_false] at hv
        rcases hv with rfl | rfl | rfl | rfl <;> exact ⟨_, rfl⟩
      refine ⟨ns.map V.int, by rw [upd_ne hDp]; exact hD2, ?_, (ex1.trans Ex.turn).put hD hDp, ns ++ [m], by rw [List.length_append, hn]; rfl, by rw [upd_same, List.map_append]; rfl⟩
      have : 100000 < sizeLine := by decide
      rw [List.length_map]
      simp at hi
      omega
    obtain ⟨ex, ns, hn, hD1⟩ := e
    have hn' : ns.length = n := by simpa using hn
    refine ⟨D, _, rfl, .inl ⟨SqL.of hD1, fun T hT => ?_⟩⟩
    obtain ⟨a, b, c, hp1⟩ := ex.pot
    have Tp : T ≠ p := (ne_of_none hp1 hT).symm
    have ex2 := ex.new (o := .tup (ns.map V.int)) hT
    obtain ⟨s2, u2⟩ := laid (.tup (ns.map V.int)) hT
    generalize upd H1 T (.tup (ns.map V.int)) = H2 at *
    obtain ⟨a, b, c, hp2⟩ := ex2.pot
    refine ⟨_, rfl, p, 7, a, b, c, rfl, hp2, by decide, by decide, fun r1 a' b' c' _ _ => ?_⟩
    have u3 : upd H2 p (potO a' b' c') T = some (.tup (ns.map V.int)) := by rw [upd_ne Tp]; exact u2
    have ex3 := ex2.trans (Ex.turn (a := a') (b := b') (c := c'))
    generalize upd H2 p (potO a' b' c') = H3 at *
    obtain ⟨a, b, c, hp3⟩ := ex3.pot
    refine ⟨_, rfl, _, rfl, p, _, a, b, c, rfl, hp3, by omega, by omega, fun r2 a' b' c' r20 r21 => ?_⟩
    have u4 : upd H3 p (potO a' b' c') T = some (.tup (ns.map V.int)) := by rw [upd_ne Tp]; exact u3
    have ex4 := ex3.trans (Ex.turn (a := a') (b := b') (c := c'))
    generalize upd H3 p (potO a' b' c') = H4 at *
    clear u2 u3 ex2 ex3 hp1 hp2 hp3
    have oI : ∀ H' x, x ∈ ns.map V.int → OddV p H' x := fun H' x hx => by
      obtain ⟨m, _, rfl⟩ := List.mem_map.mp hx
      exact .int m
    have hl : (ns.map V.int).length = n := by rw [List.length_map]; exact hn'
    refine ⟨_, _, rfl, ?_⟩
    have bn : 1000 ≤ sizeLine := by decide
    refine ⟨_, rfl, _, _, rfl, rfl, _, rfl, ?_⟩
    refine ite2 (fun _ => ⟨_, rfl, hQ _ H4 ex4 (.tup Tp u4 (by omega) (oI _))⟩) (fun _ => ?_)
    refine ⟨_, rfl, _, _, rfl, rfl, _, rfl, ?_⟩
    refine ite2 (fun _ => ?_) (fun _ => ?_)
    · refine ⟨_, rfl, _, rfl, _, rfl, slA_of u4 fun q5 H5 s5 u5 e5 => ?_⟩
      have ex5 := ex4.same s5
      refine ⟨_, rfl, p, rfl, ex5.pot, fun v H6 ex6 ov => ⟨(by show 1 ≤ sizeLine; decide), fun q7 h7 => ?_⟩⟩
      have q5p : q5 ≠ p := by
        rcases e5 with rfl | e5
        · exact Tp
        · obtain ⟨a, b, c, e⟩ := ex4.pot
          exact (ne_of_none e e5).symm
      have u56 := ex6.keep _ _ q5p u5
      have T6 := ex6.keep _ _ Tp (s5 _ _ u4)
      have ex06 := ex5.trans ex6
      obtain ⟨a6, b6, c6, hp6⟩ := ex6.pot
      obtain ⟨s7, u7⟩ := laid (.tup [v]) h7
      have q7p : q7 ≠ p := (ne_of_none hp6 h7).symm
      generalize upd H6 q7 (.tup [v]) = H7 at *
      have l5 := cutV_length (ns.map V.int) none (some r2)
      refine catA_of (s7 _ _ u56) u7 (by show _ + 1 ≤ 1000; omega) fun q8 H8 s8 u8 e8 => ?_
      have T8 := s8 _ _ (s7 _ _ T6)
      have q8p : q8 ≠ p := by
        rcases e8 with rfl | rfl | e8
        · exact q5p
        · exact q7p
        · exact (ne_of_none (s7 _ _ hp6) e8).symm
      refine ⟨_, rfl, _, rfl, _, _, rfl, rfl, _, rfl, ?_⟩
      refine slA_none T8 fun q9 H9 s9 u9 e9 => ?_
      have l9 := cutV_length (ns.map V.int) (some (r2 + 1)) none
      refine catA_of (s9 _ _ u8) u9 (by rw [List.length_append]; show _ + 1 + _ ≤ 1000; omega) fun qa Ha sa ua ea => ?_
      have q9p : q9 ≠ p := by
        rcases e9 with rfl | e9
        · exact Tp
        · exact (ne_of_none (s8 _ _ (s7 _ _ hp6)) e9).symm
      have qap : qa ≠ p := by
        rcases ea with rfl | rfl | ea
        · exact q8p
        · exact q9p
        · exact (ne_of_none (s9 _ _ (s8 _ _ (s7 _ _ hp6))) ea).symm
      have s6a := ((s7.trans s8).trans s9).trans sa
      refine hQ _ Ha (ex06.same s6a) (.tup qap ua (by rw [List.length_append, List.length_append]; show _ + 1 + _ ≤ 20; omega) fun x hx => ?_)
      rcases List.mem_append.mp hx with hx | hx
      · rcases List.mem_append.mp hx with hx | hx
        · exact oI _ x (cutV_mem hx)
        · rw [List.mem_singleton.mp hx]
          exact ov.keep fun b o _ q => s6a _ _ q
      · exact oI _ x (cutV_mem hx)
    · refine ⟨_, rfl, rfl, _, rfl, ?_⟩
      refine ite2 (fun _ => ?_) (fun _ => ?_)
      · refine ⟨_, rfl, _, rfl, p, rfl, ex4.pot, fun v H6 ex6 ov => ⟨(by show 1 ≤ sizeLine; decide), fun q7 h7 => ?_⟩⟩
        have T6 := ex6.keep _ _ Tp u4
        have ex06 := ex4.trans ex6
        obtain ⟨a6, b6, c6, hp6⟩ := ex6.pot
        obtain ⟨s7, u7⟩ := laid (.tup [v]) h7
        have q7p : q7 ≠ p := (ne_of_none hp6 h7).symm
        generalize upd H6 q7 (.tup [v]) = H7 at *
        refine catA_of (s7 _ _ T6) u7 (by show _ + 1 ≤ 1000; omega) fun q8 H8 s8 u8 e8 => ?_
        have q8p : q8 ≠ p := by
          rcases e8 with rfl | rfl | e8
          · exact Tp
          · exact q7p
          · exact (ne_of_none (s7 _ _ hp6) e8).symm
        have s68 := s7.trans s8
        refine hQ _ H8 (ex06.same s68) (.tup q8p u8 (by rw [List.length_append]; show _ + 1 ≤ 20; omega) fun x hx => ?_)
        rcases List.mem_append.mp hx with hx | hx
        · exact oI _ x hx
        · rw [List.mem_singleton.mp hx]
          exact ov.keep fun b o _ q => s68 _ _ q
      · obtain ⟨a4, b4, c4, hp4⟩ := ex4.pot
        refine ⟨_, rfl, _, rfl, _, rfl, ?_⟩
        refine slA_none u4 fun q5 H5 s5 u5 e5 => ?_
        have q5p : q5 ≠ p := by
          rcases e5 with rfl | e5
          · exact Tp
          · exact (ne_of_none hp4 e5).symm
        have T5 := s5 _ _ u4
        refine ⟨_, rfl, T, _, rfl, .inr (.inl (.inl T5)), fun q6 h6 => ?_⟩
        obtain ⟨s6, u6⟩ := laid (.lst (ns.map V.int)) h6
        generalize upd H5 q6 (.lst (ns.map V.int)) = H6 at *
        have q6p : q6 ≠ p := (ne_of_none (s5 _ _ hp4) h6).symm
        refine ⟨_, rfl, (by show 1 ≤ sizeLine; decide), fun q7 h7 => ?_⟩
        obtain ⟨s7, u7⟩ := laid (.tup [V.ref T]) h7
        generalize upd H6 q7 (.tup [V.ref T]) = H7 at *
        have q7p : q7 ≠ p := (ne_of_none (s6 _ _ (s5 _ _ hp4)) h7).symm
        intro q8 h8
        obtain ⟨s8, u8⟩ := laid (.dK []) h8
        generalize upd H7 q8 (.dK []) = H8 at *
        have hp7 := s7 _ _ (s6 _ _ (s5 _ _ hp4))
        have q8p : q8 ≠ p := (ne_of_none hp7 h8).symm
        have T8 := s8 _ _ (s7 _ _ (s6 _ _ T5))
        refine ⟨_, rfl, _, rfl, catA_of T8 T8 (by omega) fun q9 H9 s9 u9 e9 => ?_⟩
        have hp8 := s8 _ _ hp7
        have q9p : q9 ≠ p := by
          rcases e9 with rfl | rfl | e9
          · exact Tp
          · exact Tp
          · exact (ne_of_none hp8 e9).symm
        refine ⟨(by show 0 ≤ sizeLine; decide), fun qa ha => ?_⟩
        obtain ⟨sa, ua⟩ := laid (.tup ([] : List V)) ha
        generalize upd H9 qa (.tup []) = Ha at *
        have hp9 := s9 _ _ hp8
        have qap : qa ≠ p := (ne_of_none hp9 ha).symm
        refine ⟨_, rfl, T, _, rfl, .inl (.inl (sa _ _ (s9 _ _ T8))), fun qb kvs hb => ?_⟩
        obtain ⟨sb, ub⟩ := laid (.dK kvs) hb
        generalize upd Ha qb (.dK kvs) = Hb at *
        have hpa := sa _ _ hp9
        have qbp : qb ≠ p := (ne_of_none hpa hb).symm
        refine ⟨(by show 10 ≤ sizeLine; decide), fun qc hc => ?_⟩
        have hpb := sb _ _ hpa
        have qcp : qc ≠ p := (ne_of_none hpb hc).symm
        have s4b := ((((((s5.trans s6).trans s7).trans s8).trans s9).trans sa).trans sb)
        obtain ⟨sc, uc⟩ := laid (.lst [V.ref q5, .ref q6, .ref q7, .non, .ref q8, .str "row", .int 0, .ref q9, .ref qa, .ref qb]) hc
        generalize upd Hb qc (.lst [V.ref q5, .ref q6, .ref q7, .non, .ref q8, .str "row", .int 0, .ref q9, .ref qa, .ref qb]) = Hc at *
        have exc := ex4.same (s4b.trans sc)
        refine ⟨p, qc, _, rfl, exc.pot, qcp, SqL.of uc, (by show 0 < 10; decide), (by show 10 < 100000; decide), fun v x y z hv => hQ v _ (exc.trans Ex.turn) ?_⟩
        have kp : ∀ b o, b ≠ p → Hc b = some o → upd Hc p (potO x y z) b = some o := fun b o nb q => by rw [upd_ne nb]; exact q
        have l5 := cutV_length (ns.map V.int) (some 1) none
        simp only [List.mem_cons, List.not_mem_nil, or_false] at hv
        rcases hv with rfl | rfl | rfl | rfl | rfl | rfl | rfl | rfl | rfl | rfl
        · exact .tup q5p (kp _ _ q5p (sc _ _ (sb _ _ (sa _ _ (s9 _ _ (s8 _ _ (s7 _ _ (s6 _ _ u5)))))))) (by omega) fun x hx => oI _ x (cutV_mem hx)
        · exact .lst q6p (kp _ _ q6p (sc _ _ (sb _ _ (sa _ _ (s9 _ _ (s8 _ _ (s7 _ _ u6)))))))
        · refine .tup q7p (kp _ _ q7p (sc _ _ (sb _ _ (sa _ _ (s9 _ _ (s8 _ _ u7)))))) (by show 1 ≤ 20; decide) fun x hx => ?_
          rw [List.mem_singleton.mp hx]
          exact .tup Tp (kp _ _ Tp (sc _ _ (sb _ _ (sa _ _ (s9 _ _ T8)))))
        · exact .non
        · exact .dct q8p (kp _ _ q8p (sc _ _ (sb _ _ (sa _ _ (s9 _ _ u8)))))
        · exact .str _
        · exact .int _
        · refine .tup q9p (kp _ _ q9p (sc _ _ (sb _ _ (sa _ _ u9)))) (by rw [List.length_append]; omega) fun x hx => ?_
          rcases List.mem_append.mp hx with hx | hx <;> exact oI _ x hx
        · exact .tup qap (kp _ _ qap (sc _ _ (sb _ _ ua))) (by show 0 ≤ 20; decide) fun x hx => nomatch hx
        · exact .dct qbp (kp _ _ qbp (sc _ _ ub))
end
end MN
/-! plain rows: the tree of moves, rounds, what a drawn form is -/
namespace MN
open PySem PySem.Spec PyProof.Rows L2
/-- n rows of moves, their signs among zs, each once, their ends below n -/
structure RowInv (zs : List Str) (n : Nat) (ms : List Mv) : Prop where
  len : ms.length = n
  to : ∀ m ∈ ms, ∀ q ∈ m, q.1 ∈ zs ∧ q.2 < n
  nd : ∀ m ∈ ms, (m.map (·.1)).Nodup
/-- each number from 1 below k stands behind a lesser one -/
def TreeTo (k : Nat) (ms : List Mv) : Prop := ∀ i, 0 < i → i < k → ∃ j m, j < i ∧ ms[j]? = some m ∧ ∃ q ∈ m, q.2 = i
theorem RowInv.few {zs : List Str} {n : Nat} {ms : List Mv} (h : RowInv zs n ms) {m : Mv} (hm : m ∈ ms) : m.length ≤ zs.length := by
  have := nodup_sub (l' := zs) (h.nd m hm) fun x hx => by
    obtain ⟨q, hq, rfl⟩ := List.mem_map.mp hx
    exact (h.to m hm q hq).1
  rwa [List.length_map] at this
theorem set_mem {ms : List Mv} {k : Nat} {m' x : Mv} (h : x ∈ ms.set k m') : x ∈ ms ∨ x = m' := List.mem_or_eq_of_mem_set h
theorem RowInv.put {zs : List Str} {n : Nat} {ms : List Mv} {k : Nat} {m : Mv} {z : Str} {t : Nat} (h : RowInv zs n ms) (hk : ms[k]? = some m) (hz : z ∈ zs) (hn : z ∉ m.map (·.1)) (ht : t < n) : RowInv zs n (ms.set k (m ++ [(z, t)])) := by
  have hm := List.mem_of_getElem? hk
  refine ⟨by rw [List.length_set]; exact h.len, fun x hx q hq => ?_, fun x hx => ?_⟩
  · rcases set_mem hx with hx | rfl
    · exact h.to x hx q hq
    · rcases List.mem_append.mp hq with hq | hq
      · exact h.to m hm q hq
      · rw [List.mem_singleton.mp hq]
        exact ⟨hz, ht⟩
  · rcases set_mem hx with hx | rfl
    · exact h.nd x hx
    · rw [List.map_append]
      refine List.nodup_append.mpr ⟨h.nd m hm, by simp, fun a ha b hb e => ?_⟩
      have hb' : b = z := by simpa using hb
      exact hn (hb' ▸ e ▸ ha)
theorem set_grow {ms : List Mv} {k j : Nat} {m m0 : Mv} {q : Str × Nat} (hk : ms[k]? = some m) (hj : ms[j]? = some m0) : ∃ m1, (ms.set k (m ++ [q]))[j]? = some m1 ∧ ∀ x ∈ m0, x ∈ m1 := by
  by_cases e : k = j
  · subst e
    rw [hk] at hj
    cases hj
    have hl := (List.getElem?_eq_some_iff.mp hk).1
    exact ⟨_, List.getElem?_set_self hl, fun x hx => List.mem_append_left _ hx⟩
  · exact ⟨m0, by rw [List.getElem?_set_ne e]; exact hj, fun x hx => hx⟩
theorem TreeTo.put {k' : Nat} {ms : List Mv} {k : Nat} {m : Mv} {q : Str × Nat} (h : TreeTo k' ms) (hk : ms[k]? = some m) : TreeTo k' (ms.set k (m ++ [q])) := fun i h0 hi => by
  obtain ⟨j, m0, hj, hm0, x, hx, e⟩ := h i h0 hi
  obtain ⟨m1, h1, h2⟩ := set_grow (q := q) hk hm0
  exact ⟨j, m1, hj, h1, x, h2 x hx, e⟩
theorem TreeTo.step {n : Nat} {ms : List Mv} {k : Nat} {m : Mv} {z : Str} (h : TreeTo n ms) (hk : ms[k]? = some m) (hlt : k < n) : TreeTo (n + 1) (ms.set k (m ++ [(z, n)])) := fun i h0 hi => by
  rcases Nat.lt_or_ge i n with h1 | h1
  · exact h.put hk i h0 h1
  · obtain rfl : i = n := by omega
    have hl := (List.getElem?_eq_some_iff.mp hk).1
    exact ⟨k, _, hlt, List.getElem?_set_self hl, (z, i), List.mem_append_right _ (List.mem_singleton.mpr rfl), rfl⟩
theorem RowInv.mvok {zs : List Str} {n : Nat} {ms : List Mv} (h : RowInv zs n ms) (hz : SigOk zs) : ∀ m ∈ ms, MvOk n m := fun m hm => by
  have h1 := h.few hm
  have h2 := hz.few
  exact ⟨by omega, fun q hq => hz.sg _ (h.to m hm q hq).1, fun q hq => (h.to m hm q hq).2, h.nd m hm⟩
/-! ### rounds -/
theorem stepU_get {ms : List Mv} {fs : List Bool} {i : Nat} {m : Mv} {b : Bool} (h1 : fs[i]? = some b) (h2 : ms[i]? = some m) : (stepU ms fs)[i]? = some (b || m.any fun q => fs.getD q.2 false) := by
  have ez : (fs.zip ms)[i]? = some (b, m) := List.getElem?_zip_eq_some.mpr ⟨h1, h2⟩
  simp [stepU, ez]
theorem leB_get {fs gs : List Bool} (h : leB fs gs) {i : Nat} (e : fs.getD i false = true) : gs.getD i false = true := by
  rw [List.getD_eq_getElem?_getD] at e ⊢
  cases q : fs[i]? with
  | none => rw [q] at e; cases e
  | some b =>
    rw [q] at e
    obtain rfl : b = true := e
    rw [h i q]
    rfl
theorem stepU_mono {ms : List Mv} {fs gs : List Bool} (hf : fs.length = ms.length) (hg : gs.length = ms.length) (h : leB fs gs) : leB (stepU ms fs) (stepU ms gs) := fun i hi => by
  have il : i < (stepU ms fs).length := (List.getElem?_eq_some_iff.mp hi).1
  rw [stepU_length hf] at il
  have e1 := List.getElem?_eq_getElem il
  have e2 := List.getElem?_eq_getElem (show i < ms.length by omega)
  have e3 := List.getElem?_eq_getElem (show i < gs.length by omega)
  rw [stepU_get e1 e2] at hi
  rw [stepU_get e3 e2]
  have hi' := Option.some.inj hi
  rw [Bool.or_eq_true] at hi'
  refine congrArg some ?_
  rw [Bool.or_eq_true]
  rcases hi' with hi' | hi'
  · refine .inl ?_
    have := h i (by rw [e1, hi'])
    rw [e3] at this
    exact Option.some.inj this
  · refine .inr ?_
    obtain ⟨q, hq, e⟩ := List.any_eq_true.mp hi'
    exact List.any_eq_true.mpr ⟨q, hq, leB_get h e⟩
theorem leB_trans {a b c : List Bool} (h1 : leB a b) (h2 : leB b c) : leB a c := fun i hi => h2 i (h1 i hi)
theorem stepN_le {ms : List Mv} {fs : List Bool} (hl : fs.length = ms.length) : ∀ k, leB fs (stepN ms k fs)
  | 0 => fun _ h => h
  | k + 1 => leB_trans (stepN_le hl k) (stepU_le (by rw [stepN_length hl]; exact hl))
theorem stepN_fix {ms : List Mv} {fs F : List Bool} (hf : fs.length = ms.length) (hF : F.length = ms.length) (fx : stepU ms F = F) (h : leB fs F) : ∀ k, leB (stepN ms k fs) F
  | 0 => h
  | k + 1 => by
    have := stepU_mono (by rw [stepN_length hf]; exact hf) hF (stepN_fix hf hF fx h k)
    rw [fx] at this
    exact this
/-- last as well what is not good -/
def lastOr (ls gs : List Bool) : List Bool := (ls.zip gs).map fun p => p.1 || !p.2
theorem lastOr_get {ls gs : List Bool} {i : Nat} {l g : Bool} (h1 : ls[i]? = some l) (h2 : gs[i]? = some g) : (lastOr ls gs)[i]? = some (l || !g) := by
  have ez : (ls.zip gs)[i]? = some (l, g) := List.getElem?_zip_eq_some.mpr ⟨h1, h2⟩
  simp [lastOr, ez]
theorem lastOr_len {ls gs : List Bool} (h : ls.length = gs.length) : (lastOr ls gs).length = ls.length := by
  simp [lastOr, h]
theorem lastOr_use {ms : List Mv} {ls : List Bool} (hl : ls.length = ms.length) (n : Nat) : ∀ k, stepU ms (stepN ms k (lastOr ls (stepN ms n ls))) = stepN ms k (lastOr ls (stepN ms n ls)) → ∀ b ∈ stepN ms k (lastOr ls (stepN ms n ls)), b = true := fun k fx b hb => by
  have hg : (stepN ms n ls).length = ms.length := by rw [stepN_length hl]; exact hl
  have h' : (lastOr ls (stepN ms n ls)).length = ms.length := by rw [lastOr_len (by omega)]; exact hl
  have hF : (stepN ms k (lastOr ls (stepN ms n ls))).length = ms.length := by rw [stepN_length h']; exact h'
  have le1 := stepN_le h' k
  have le0 : leB ls (lastOr ls (stepN ms n ls)) := fun i hi => by
    have il := (List.getElem?_eq_some_iff.mp hi).1
    rw [lastOr_get hi (List.getElem?_eq_getElem (show i < (stepN ms n ls).length by omega))]
    rfl
  have leg := stepN_fix hl hF fx (leB_trans le0 le1) n
  obtain ⟨i, hi⟩ := List.getElem?_of_mem hb
  have il : i < ms.length := by have := (List.getElem?_eq_some_iff.mp hi).1; omega
  have e1 := List.getElem?_eq_getElem (show i < ls.length by omega)
  have e2 := List.getElem?_eq_getElem (show i < (stepN ms n ls).length by omega)
  cases g : (stepN ms n ls)[i] with
  | true =>
    rw [g] at e2
    have := leg i e2
    rw [hi] at this
    exact Option.some.inj this
  | false =>
    rw [g] at e2
    have := le1 i (by rw [lastOr_get e1 e2]; simp)
    rw [hi] at this
    exact Option.some.inj this
/-! ### the heap: one move more -/
theorem valV_none {m : Mv} {z : Str} (h : z ∉ m.map (·.1)) : valV (mvK m) (.inr z) = none := by
  induction m with
  | nil => rfl
  | cons q m ih =>
    have h' : z ≠ q.1 ∧ z ∉ m.map (·.1) := by simpa using h
    exact (valV_neg (p := ((.inr q.1 : Key), V.int (q.2 : Int))) fun e => h'.1 (Sum.inr.inj e).symm).trans (ih h'.2)
theorem putK_mv {m : Mv} {z : Str} {t : Nat} (h : z ∉ m.map (·.1)) : putK (mvK m) (.inr z) (.int (t : Int)) = mvK (m ++ [(z, t)]) := by
  rw [putK_new _ (valV_none h)]
  simp [mvK]
theorem PlainAt.put {K : PySem.W.Frag} {H : Hp} {a d : Addr} {rs ds : List Addr} {ms : List Mv} {ls : List Bool} {k : Nat} {m m' : Mv} (h : PlainAt K H a rs ds ms ls) (nd : ds.Nodup) (hd : ds[k]? = some d) (hm : ms[k]? = some m) : PlainAt K (upd H d (.dK (mvK m'))) a rs ds (ms.set k m') ls := by
  have hdk := h.dc.2 k d m hd hm
  refine ⟨?_, by rw [List.length_set]; exact h.lr, by rw [List.length_set]; exact h.ll, ⟨by rw [List.length_set]; exact h.dc.1, fun i d' m1 h1 h2 => ?_⟩, fun i r d' l h1 h2 h3 => ?_⟩
  · rcases h.lst with (q | ⟨o, q⟩) | q
    · exact .inl (.inl (by rw [upd_ne (fun e => by rw [e, hdk] at q; cases q)]; exact q))
    · exact .inl (.inr ⟨o, by rw [upd_ne (fun e => by rw [e, hdk] at q; cases q)]; exact q⟩)
    · exact .inr q
  · by_cases e : k = i
    · subst e
      rw [hd] at h1
      cases h1
      have hl := (List.getElem?_eq_some_iff.mp hm).1
      rw [List.getElem?_set_self hl] at h2
      cases h2
      exact upd_same
    · rw [List.getElem?_set_ne e] at h2
      have ne : d' ≠ d := fun z => by
        subst z
        have l1 := (List.getElem?_eq_some_iff.mp h1).1
        have l2 := (List.getElem?_eq_some_iff.mp hd).1
        exact e ((List.getElem_inj nd (h₀ := l2) (h₁ := l1)).mp (by rw [(List.getElem?_eq_some_iff.mp hd).2, (List.getElem?_eq_some_iff.mp h1).2]))
      rw [upd_ne ne]
      exact h.dc.2 i d' m1 h1 h2
  · have q := h.pr i r d' l h1 h2 h3
    rw [upd_ne (fun e => by rw [e, hdk] at q; cases q)]
    exact q
/-- all but the pot stays -/
theorem PlainAt.ex {K : PySem.W.Frag} {H H' : Hp} {p a : Addr} {rs ds : List Addr} {ms : List Mv} {ls : List Bool} (h : PlainAt K H a rs ds ms ls) (hp : Pot H p) (ha : a ≠ p) (e : Ex p H H') : PlainAt K H' a rs ds ms ls := by
  obtain ⟨x, y, z, hp⟩ := hp
  refine ⟨e.seqL h.lst ha, h.lr, h.ll, ⟨h.dc.1, fun i d m h1 h2 => ?_⟩, fun i r d l h1 h2 h3 => ?_⟩
  · have q := h.dc.2 i d m h1 h2
    exact e.keep _ _ (fun z => by rw [z, hp] at q; cases q) q
  · have q := h.pr i r d l h1 h2 h3
    exact e.keep _ _ (fun z => by rw [z, hp] at q; cases q) q
end MN
/-! _law_plain_form -/
namespace MN
open PySem PySem.Spec PyProof.Rows L2
theorem neDK {X : Cx} {K : PySem.W.Frag} (hK : X.K = K) (hu : X.A.units + 64 < cLine) : OpR X (compareOp .NotEq) (rNeD K) := hK ▸ op_neD hu
/-- a comprehension over enumerate of a list -/
theorem lc_enumR {K : PySem.W.Frag} {a D : Addr} {H1 : Hp} {σ : L2.St} {vs : List Nat} {te : TE} {j1 j2 : Nat} {Qd : Hp → Prop} (xs : List V) (hs : SqL K H1 a xs) (hz : xs.length ≤ 1000) (hD : H1 D = none)
    (hw : ∀ (i : Nat) (x : V), xs[i]? = some x → wipe (((wipe σ vs).set j1 (some (.int (i : Nat)))).set j2 (some x)) vs = wipe σ vs)
    (R : Nat → V → Hp → Prop) (hR : ∀ k v H H', (∀ b o, b ≠ D → H b = some o → H' b = some o) → R k v H → R k v H')
    (he : ∀ (i : Nat) (x : V), xs[i]? = some x → ∀ H2, Same H1 H2 → (∃ o, H2 D = some o) → ∀ Q : VK, (∀ y H3, Same H2 H3 → R i y H3 → Q y H3) → te (((wipe σ vs).set j1 (some (.int (i : Nat)))).set j2 (some x)) H2 Q)
    (hd : ∀ H' outs, Same H1 H' → H' D = some (.lst outs) → outs.length = xs.length → (∀ (k : Nat) (v : V), outs[k]? = some v → R k v H') → Qd H') :
    LcGoal (Ite K a) (gTup K 2 (gCons (gName j1) (gCons (gName j2) gNil))) tYes te vs σ H1 D Qd := by
  refine lc_it (walk_enum (xs := xs)) (fun i H' => Same H1 H' ∧ ∃ outs, H' D = some (.lst outs) ∧ outs.length = i ∧ ∀ (k : Nat) (v : V), outs[k]? = some v → R k v H') ⟨same_new hD, [], upd_same, rfl, fun k v z => by simp at z⟩ (fun i H' _ e => Same.seq e.1 hs) (fun i x H H' hi e y => ?_) (fun H' e => ?_)
  · obtain ⟨T, x1, y1, rfl, hT, rfl, h1, hx⟩ := y
    cases h1
    obtain ⟨e1, outs, e2, e3, e4⟩ := e
    have sT := same_new (o := .tup [.int (i : Nat), y1]) hT
    have s1 := e1.trans sT
    refine ⟨T, _, rfl, .inl (.inl upd_same), rfl, _, _, rfl, _, _, rfl, rfl, hw _ _ hx, yes_q (iteT ?_)⟩
    refine he i _ hx _ s1 ⟨_, sT _ _ e2⟩ _ fun y H3 s3 r3 => ⟨outs, s3 _ _ (sT _ _ e2), ?_, fun b o q => ?_, _, upd_same, by rw [List.length_append, e3]; rfl, fun k v z => ?_⟩
    · have : 1000000 < sizeLine := by decide
      omega
    · rw [upd_ne (ne_of_none q hD)]
      exact s3 _ _ (s1 _ _ q)
    · have up : ∀ b o, b ≠ D → H3 b = some o → upd H3 D (.lst (outs ++ [y])) b = some o := fun b o n q => by rw [upd_ne n]; exact q
      rcases Nat.lt_or_ge k outs.length with hk | hk
      · rw [List.getElem?_append_left hk] at z
        exact hR _ _ _ _ (fun b o n q => up b o n (s3 _ _ (sT _ _ q))) (e4 k v z)
      · rw [List.getElem?_append_right hk] at z
        have hk2 : k - outs.length = 0 := by
          have := (List.getElem?_eq_some_iff.mp z).1
          simp at this
          omega
        rw [hk2] at z
        obtain rfl : y = v := by simpa using z
        obtain rfl : k = i := by omega
        exact hR _ _ _ _ up r3
  · obtain ⟨e1, outs, e2, e3, e4⟩ := e
    exact hd H' outs e1 e2 e3 e4
theorem outs_bl {ls : List Bool} {outs : List V} (hl : outs.length = ls.length) (h : ∀ (k : Nat) (v : V), outs[k]? = some v → ∃ b, ls[k]? = some b ∧ v = .bl b) : outs = ls.map V.bl := by
  refine List.ext_getElem? fun k => ?_
  rw [List.getElem?_map]
  cases e : outs[k]? with
  | none =>
    have : outs.length ≤ k := List.getElem?_eq_none_iff.mp e
    rw [List.getElem?_eq_none (show ls.length ≤ k by omega)]; rfl
  | some v =>
    obtain ⟨b, h1, rfl⟩ := h k v e
    rw [h1]; rfl
def goodIn (fs : List Bool) : V → Bool
  | .int t => fs.getD t.toNat false
  | _ => false
def goodTo (m : Mv) (fs : List Bool) : List Nat := (m.filter fun q => fs.getD q.2 false).map (·.2)
theorem goodIn_list {m : Mv} {fs : List Bool} : (((mvK m).map (·.2)).filter (goodIn fs)) = intsV (goodTo m fs) := by
  rw [mvK, List.map_map, List.filter_map, intsV, goodTo, List.map_map]
  refine congrArg (fun l => List.map _ l) (List.filter_congr fun q _ => ?_)
  rfl
theorem goodIn_any (m : Mv) (fs : List Bool) : (goodTo m fs).isEmpty = !(m.any fun q => fs.getD q.2 false) := by
  induction m with
  | nil => rfl
  | cons q m ih =>
    rw [goodTo] at ih ⊢
    rw [List.filter_cons, List.any_cons]
    cases h : fs.getD q.2 false with
    | true => rfl
    | false => simpa using ih
theorem shI (l : List Nat) : SeqAt.shaped (.list (l.map fun (i : Nat) => PyData.int (i : Int))) = true := shapedL fun d hd => by
  obtain ⟨i, _, rfl⟩ := List.mem_map.mp hd
  exact ⟨by rw [PyData.canLay0], by rw [PyData.depth]; omega⟩
theorem eqv_nil (l : List Nat) : PyData.eqv (.list (l.map fun (i : Nat) => PyData.int (i : Int))) (.list []) = l.isEmpty := by
  cases l with
  | nil => exact eqv_self (shI [])
  | cons a l => simp [PyData.eqv, PyData.eqvAll]
def freeIn (m : Mv) : V → Bool
  | .str z => !(valV (mvK m) (.inr z)).isSome
  | _ => false
theorem freeIn_iff {m : Mv} {z : Str} : freeIn m (.str z) = true ↔ z ∉ m.map (·.1) := by
  constructor
  · intro h q
    obtain ⟨i, e⟩ := valV_mem q
    have h : (!(valV (mvK m) (.inr z)).isSome) = true := h
    rw [e] at h
    cases h
  · intro h
    show (!(valV (mvK m) (.inr z)).isSome) = true
    rw [valV_none h]
    rfl
theorem free_pos {m : Mv} {zs : List Str} (nd : zs.Nodup) (h : m.length < zs.length) : 0 < ((zs.map V.str).filter (freeIn m)).length := by
  refine Classical.byContradiction fun h0 => ?_
  have e : (zs.map V.str).filter (freeIn m) = [] := List.eq_nil_of_length_eq_zero (by omega)
  have q := nodup_sub (l' := m.map (·.1)) nd fun z hz => Classical.byContradiction fun hn => by
    have := List.mem_filter.mpr ⟨List.mem_map.mpr ⟨z, hz, rfl⟩, freeIn_iff.mpr hn⟩
    rw [e] at this
    cases this
  rw [List.length_map] at q
  omega
section
variable {P : Program} {w : World} {K : PySem.W.Frag} {mg : Str → Option Value} {base : Heap}
def spPForm (K : PySem.W.Frag) : Sp := fun vs H Q _ => ∃ (p l : Addr) (zs : List Str) (k : Nat), vs = [.ref p, .ref l, .int (k : Int)] ∧ Pot H p ∧ l ≠ p ∧ SqL K H l (zs.map V.str) ∧ SigOk zs ∧ 1 ≤ k ∧ k ≤ 8 ∧
  ∀ a rs ds ms ls H', Ex p H H' → H a = none → PlainAt K H' a rs ds ms ls → ds.Nodup → StsOk ms ls → ms.length ≤ k → Q (.ref a) H'
abbrev N_pf : List Str := ["_law_urn_here", "_law_signs", "_law_most", "_law_count", "_law_rows", "_law_at", "_law_spot", "_law_sign", "_law_one", "_law_row", "_law_good", "_law_turn", "_law_to"]
theorem sc_pf : FnScope N_pf ["_law_urn_here", "_law_signs", "_law_most"] (defScope (top 64)) := ⟨rfl, rfl, rfl, by decide +kernel, rfl, by decide +kernel, by decide +kernel⟩
abbrev scF : Scope := { kind := .function, names := [(".0", .local), ("_law_at", .local), ("_law_row", .local), ("_law_good", .cell)], isGenerator := false, isCoroutine := false }
theorem c_law_plain_form (A : At K mg "_law_plain_form" (top 64)) (B : Blt mg) (c_law_pull : Cal P w K mg base 1 "_law_pull" spDip) (c_law_from : Cal P w K mg base 2 "_law_from" (spFrom K)) : Cal P w K mg base 3 "_law_plain_form" (spPForm K) := by
  refine cal_of A sc_pf (fun _ _ _ _ _ _ us hl => match us, hl with | [_, _, _], _ => rfl) (fun vs H Q E h => ?_) (fun _ cdv A outer s H vs Q E hr h => ?_)
  · obtain ⟨_, _, _, _, rfl, _⟩ := h; rfl
  · obtain ⟨p, l, zs, k, rfl, hp, lp, hl, hz, hk1, hk8, hQ⟩ := h
    refine ⟨_, (pss_cons (ps_set (i := 3) sc_pf.nd rfl (Or.inl rfl) (pe_op op_add pe_int (pe_c c_law_pull hr (by decide) (by rfl) (pa_cons (pv 0) (pa_cons (pv 2) pa_nil)))))
      (pss_cons (ps_set (i := 4) sc_pf.nd rfl (Or.inr rfl) (pe_lc (own := [("_law_at", 5)]) (g := gName 5) (tt := tYes) (by rfl) sc_pf.nd (pi_range1 (by rfl) B.range (pa_cons (pv 3) pa_nil)) (blkOk_by (own := [("_law_at", 5)]) (N := N_pf) (sc := defScope (top 64)) (by decide +kernel)) (fun _ _ _ _ _ => (pg_name (i := 5) sc_pf.nd rfl (Or.inl rfl))) (fun _ _ _ _ _ => pts_nil) (fun _ _ _ _ _ => (pe_lst (pa_cons pe_dnewK (pa_cons (pe_cmpR op_eq (pe_c c_law_pull hr (by decide) (by rfl) (pa_cons (pv 0) (pa_cons pe_int pa_nil))) pe_int (nomark _)) pa_nil))))))
      (pss_cons (ps_for PassesOwn.never rfl (pi_range2 (by rfl) B.range (pa_cons pe_int (pa_cons (pv 3) pa_nil))) (pg_name (i := 5) sc_pf.nd rfl (Or.inl rfl))
        (pss_cons (ps_set (i := 6) sc_pf.nd rfl (Or.inr rfl) (pe_c c_law_pull hr (by decide) (by rfl) (pa_cons (pv 0) (pa_cons (pv 5) pa_nil))))
        (pss_cons (ps_set (i := 6) sc_pf.nd rfl (Or.inr rfl) (pe_ifExp (pt_cmpR op_lt (pe_callB call_lenD (by rfl) B.len (by decide +kernel) (pa_cons (pe_ix ix_list (pe_ix ix_list (pv 4) (pv 6) (fun _ _ => rfl)) pe_int (fun _ _ => rfl)) pa_nil)) (pe_callB call_len_seq (by rfl) B.len (by decide +kernel) (pa_cons (pv 1) pa_nil)) (nomark _)) (pv 6) (pe_op op_sub (pv 5) pe_int)))
        (pss_cons (ps_set (i := 7) sc_pf.nd rfl (Or.inl rfl) (pe_c c_law_from hr (by decide) (by rfl) (pa_cons (pv 0) (pa_cons (pe_lc (own := [("_law_one", 8)]) (g := gName 8) (by rfl) sc_pf.nd (pi_list (pv 1)) (blkOk_by (own := [("_law_one", 8)]) (N := N_pf) (sc := defScope (top 64)) (by decide +kernel)) (fun _ _ _ _ _ => (pg_name (i := 8) sc_pf.nd rfl (Or.inl rfl))) (fun _ _ _ _ _ => pts_one (pt_cmp (pc_dnotin (hu_of hr) (pv 8) (pe_ix (ixLK (K := K) rfl) (pe_ix (ixLK (K := K) rfl) (pv 4) (pv 6) (fun _ _ => rfl)) pe_int (fun _ _ => rfl))))) (fun _ _ _ _ _ => (pv 8))) pa_nil))))
        (pss_one (ps_asg (pv 5) (pg_sub (pe_ix ix_list (pe_ix ix_list (pv 4) (pv 6) (fun _ _ => rfl)) pe_int (fun _ _ => rfl)) (pv 7) (set_dict (hu_of hr)))))))))
      (pss_cons (ps_for PassesOwn.never rfl (pi_list (pv 4)) (pg_name (i := 9) sc_pf.nd rfl (Or.inl rfl))
        (pss_one (ps_for PassesOwn.never rfl (pi_list (pv 1)) (pg_name (i := 7) sc_pf.nd rfl (Or.inl rfl))
          (pss_one (ps_if (PW.pt (pw_and (pt_cmp (pc_dnotin (hu_of hr) (pv 7) (pe_ix ix_list (pv 9) pe_int (fun _ _ => rfl)))) (pw_and1 (pt_cmpR op_eq (pe_c c_law_pull hr (by decide) (by rfl) (pa_cons (pv 0) (pa_cons pe_int pa_nil))) pe_int (nomark _)))))
            (pss_one (ps_asg (pe_c c_law_pull hr (by decide) (by rfl) (pa_cons (pv 0) (pa_cons (pv 3) pa_nil))) (pg_sub (pe_ix ix_list (pv 9) pe_int (fun _ _ => rfl)) (pv 7) (set_dict (hu_of hr)))))
            pss_nil)))))
      (pss_cons (ps_set (i := 10) sc_pf.nd rfl (Or.inr rfl) (pe_lc (own := [("_law_row", 9)]) (g := gName 9) (tt := tYes) (by rfl) sc_pf.nd (pi_list (pv 4)) (blkOk_by (own := [("_law_row", 9)]) (N := N_pf) (sc := defScope (top 64)) (by decide +kernel)) (fun _ _ _ _ _ => (pg_name (i := 9) sc_pf.nd rfl (Or.inl rfl))) (fun _ _ _ _ _ => pts_nil) (fun _ _ _ _ _ => (pe_ix (ixLK (K := K) rfl) (pv 9) pe_int (fun _ _ => rfl)))))
      (pss_cons (ps_for PassesOwn.never rfl (pi_range1 (by rfl) B.range (pa_cons (pv 3) pa_nil)) (pg_name (i := 11) sc_pf.nd rfl (Or.inl rfl))
        (pss_one (ps_set (i := 10) sc_pf.nd rfl (Or.inr rfl) (pe_lc (own := [("_law_at", 5), ("_law_row", 9)]) (tt := tYes) (by rfl) sc_pf.nd (pi_enum (by rfl) B.enumerate (pa_cons (pv 4) pa_nil)) (blkOk_by (own := [("_law_at", 5), ("_law_row", 9)]) (N := N_pf) (sc := defScope (top 64)) (by decide +kernel)) (fun _ _ _ _ _ => (pg_tupK (K := K) (n := 2) rfl rfl (pgs_cons (pg_name (i := 5) sc_pf.nd rfl (Or.inl rfl)) (pgs_cons (pg_name (i := 9) sc_pf.nd rfl (Or.inl rfl)) pgs_nil)))) (fun _ _ _ _ _ => pts_nil)
          (fun _ _ _ _ _ => (pe_or (pe_ix (ixLK (K := K) rfl) (pv 10) (pv 5) (fun _ _ => rfl)) (pe_one (pe_cmpR (neDK (K := K) rfl hr.units) (pe_lock (pe_lc (own := [("_law_to", 12)]) (g := gName 12) (by rfl) sc_pf.nd (pi_values (pe_ix (ixLK (K := K) rfl) (pv 9) pe_int (fun _ _ => rfl))) (blkOk_by (own := [("_law_to", 12)]) (N := N_pf) (sc := scF) (by decide +kernel)) (fun _ _ _ _ _ => (pg_name (i := 12) sc_pf.nd rfl (Or.inl rfl))) (fun _ _ _ _ _ => pts_one (pt_val (pe_ix (ixLK (K := K) rfl) (pv 10) (pv 12) (fun _ _ => rfl)))) (fun _ _ _ _ _ => (pv 12)))) (pe_lst pa_nil) (nomark _)))))))))
      (pss_one (ps_ret (pe_lc (own := [("_law_at", 5), ("_law_row", 9)]) (tt := tYes) (by rfl) sc_pf.nd (pi_enum (by rfl) B.enumerate (pa_cons (pv 4) pa_nil)) (blkOk_by (own := [("_law_at", 5), ("_law_row", 9)]) (N := N_pf) (sc := defScope (top 64)) (by decide +kernel)) (fun _ _ _ _ _ => (pg_tupK (K := K) (n := 2) rfl rfl (pgs_cons (pg_name (i := 5) sc_pf.nd rfl (Or.inl rfl)) (pgs_cons (pg_name (i := 9) sc_pf.nd rfl (Or.inl rfl)) pgs_nil)))) (fun _ _ _ _ _ => pts_nil) (fun _ _ _ _ _ => (pe_lst (pa_cons (pe_ix (ixLK (K := K) rfl) (pv 9) pe_int (fun _ _ => rfl)) (pa_cons (pe_or (pe_ix (ixLK (K := K) rfl) (pv 9) pe_int (fun _ _ => rfl)) (pe_one (pe_not (pe_ix (ixLK (K := K) rfl) (pv 10) (pv 5) (fun _ _ => rfl))))) pa_nil))))))))))))), ?_⟩
    obtain ⟨pa, pb, pc, hp0⟩ := hp
    have hp : Pot H p := ⟨pa, pb, pc, hp0⟩
    refine ⟨_, rfl, _, rfl, p, _, pa, pb, pc, rfl, hp0, by omega, by omega, fun r a' b' c' r0 r1 => ?_⟩
    obtain ⟨c, rfl⟩ : ∃ c : Nat, r = c := ⟨r.toNat, by omega⟩
    have ex1 : Ex p H (upd H p (potO a' b' c')) := Ex.turn
    generalize upd H p (potO a' b' c') = H1 at ex1 ⊢
    refine ⟨_, _, rfl, rfl, ?_⟩
    have ck : c + 1 ≤ k := by omega
    -- rows
    refine ⟨_, rfl, _, rfl, by omega, by omega, fun D hD => ?_⟩
    have hD0 : H D = none := ex1.free hp hD
    have hDp : D ≠ p := (ne_of_none hp0 hD0).symm
    refine lc_it (walk_range (lo := 0)) (fun i H' => Ex p H H' ∧ ∃ (rs ds : List Addr) (ls : List Bool), rs.length = i ∧ ds.length = i ∧ ls.length = i ∧ H' D = some (.lst (rs.map V.ref)) ∧ (∀ (j : Nat) r d b, rs[j]? = some r → ds[j]? = some d → ls[j]? = some b → H' r = some (.lst [.ref d, .bl b]) ∧ r ≠ D) ∧ (∀ d ∈ ds, H' d = some (.dK []) ∧ H d = none) ∧ ds.Nodup)
      ⟨ex1.put hD0 hDp, [], [], [], rfl, rfl, rfl, upd_same, (fun j r d b z => by simp at z), (fun d hd => nomatch hd), List.nodup_nil⟩ (fun _ _ _ _ => trivial) (fun i x H2 H2' hi e y => ?_) (fun H2 e => ?_)
    · obtain ⟨rfl, rfl⟩ := y
      obtain ⟨ex, rs, ds, ls, lr, ld, ll, hD2, hrow, hds, hnd⟩ := e
      refine ⟨rfl, yes_q (iteT fun d hd => ?_)⟩
      obtain ⟨s3, u3⟩ := laid (.dK []) hd
      have ex3 := ex.new (o := .dK []) hd
      obtain ⟨x1, y1, z1, hp2⟩ := ex.pot
      have d0 : H d = none := ex.free hp hd
      have dp : d ≠ p := (ne_of_none hp0 d0).symm
      have dD : d ≠ D := (ne_of_none hD2 hd).symm
      have dnew : d ∉ ds := fun m => by
        have := (hds d m).1
        rw [hd] at this
        cases this
      generalize upd H2' d (.dK []) = H3 at s3 u3 ex3 ⊢
      obtain ⟨x3, y3, z3, hp3⟩ := ex3.pot
      refine ⟨_, rfl, p, _, x3, y3, z3, rfl, hp3, by decide, by decide, fun r4 x4 y4 z4 r40 r41 => ⟨rfl, (by show 2 ≤ sizeLine; decide), fun r hr' => ?_⟩⟩
      have k34 : ∀ b o, b ≠ p → H3 b = some o → upd H3 p (potO x4 y4 z4) b = some o := fun b o n q => by rw [upd_ne n]; exact q
      have ex4 := ex3.trans (Ex.turn (a := x4) (b := y4) (c := z4))
      generalize upd H3 p (potO x4 y4 z4) = H4 at k34 ex4 hr' ⊢
      generalize decide (V.int r4 = V.int 0) = b0
      obtain ⟨s5, u5⟩ := laid (.lst [.ref d, .bl b0]) hr'
      have ex5 := ex4.new (o := .lst [.ref d, .bl b0]) hr'
      have D4 := k34 _ _ hDp (s3 _ _ hD2)
      have D5 := s5 _ _ D4
      have rD : r ≠ D := (ne_of_none D4 hr').symm
      have d5 := s5 _ _ (k34 _ _ dp u3)
      generalize upd H4 r (.lst [.ref d, .bl b0]) = H5 at s5 u5 ex5 D5 d5 ⊢
      have up : ∀ b o, b ≠ D → H5 b = some o → upd H5 D (.lst (rs.map V.ref ++ [.ref r])) b = some o := fun b o n q => by rw [upd_ne n]; exact q
      have k25 : ∀ b o, b ≠ p → H2' b = some o → H5 b = some o := fun b o n q => s5 _ _ (k34 _ _ n (s3 _ _ q))
      refine ⟨rs.map V.ref, D5, ?_, ex5.put hD0 hDp, rs ++ [r], ds ++ [d], ls ++ [b0], by simp [lr], by simp [ld], by simp [ll], by rw [upd_same]; simp, fun j r' d' b' h1 h2 h3 => ?_, fun d' hd' => ?_, ?_⟩
      · have : 100000 < sizeLine := by decide
        rw [List.length_map]
        simp at hi
        omega
      · rcases Nat.lt_or_ge j i with hj | hj
        · rw [List.getElem?_append_left (by omega)] at h1 h2 h3
          obtain ⟨q, nq⟩ := hrow j r' d' b' h1 h2 h3
          refine ⟨up _ _ nq (k25 _ _ (fun z => ?_) q), nq⟩
          rw [z, hp2] at q
          cases q
        · have ej : j = i := by
            have := (List.getElem?_eq_some_iff.mp h1).1
            simp at this
            omega
          subst ej
          rw [List.getElem?_append_right (by omega), lr] at h1
          rw [List.getElem?_append_right (by omega), ld] at h2
          rw [List.getElem?_append_right (by omega), ll] at h3
          simp at h1 h2 h3
          subst h1 h2 h3
          exact ⟨up _ _ rD u5, rD⟩
      · rcases List.mem_append.mp hd' with hd' | hd'
        · obtain ⟨q, q0⟩ := hds d' hd'
          have n1 : d' ≠ D := fun z => by rw [z, hD2] at q; cases q
          have n2 : d' ≠ p := fun z => by rw [z, hp2] at q; cases q
          exact ⟨up _ _ n1 (k25 _ _ n2 q), q0⟩
        · rw [List.mem_singleton.mp hd']
          exact ⟨up _ _ dD d5, d0⟩
      · exact List.nodup_append.mpr ⟨hnd, by simp, fun a ha b hb e => dnew (by rw [← List.mem_singleton.mp hb, ← e]; exact ha)⟩
    obtain ⟨ex2, rs, ds, ls, lr, ld, ll, hD2, hrow, hds, hnd⟩ := e
    have lr' : rs.length = c + 1 := by rw [lr]; omega
    have ld' : ds.length = c + 1 := by rw [ld]; omega
    have ll' : ls.length = c + 1 := by rw [ll]; omega
    clear lr ld ll
    have d0 : ∀ d ∈ ds, H d = none := fun d hd => (hds d hd).2
    have hP0 : PlainAt K H2 D rs ds (List.replicate (c + 1) []) ls := by
      refine ⟨SqL.of hD2, by rw [List.length_replicate]; exact lr', by rw [List.length_replicate]; exact ll', ⟨by rw [List.length_replicate]; exact ld', fun i d m h1 h2 => ?_⟩, fun i r d b h1 h2 h3 => (hrow i r d b h1 h2 h3).1⟩
      have : m = [] := List.eq_of_mem_replicate (List.mem_of_getElem? h2)
      subst this
      exact (hds d (List.mem_of_getElem? h1)).1
    have hI0 : RowInv zs (c + 1) (List.replicate (c + 1) []) := ⟨by simp, (fun m hm q hq => by rw [List.eq_of_mem_replicate hm] at hq; cases hq), (fun m hm => by rw [List.eq_of_mem_replicate hm]; exact List.nodup_nil)⟩
    clear hds hrow
    have hzl : zs.length ≤ 5 := hz.few
    have dget : ∀ (m : Mv) (H' : Hp) (d : Addr) (z : Str), H' d = some (.dK (mvK m)) → DGet H' d (.str z) (valV (mvK m) (.inr z)) := fun m H' d z q => .inl ⟨mvK m, .inr z, .inl q, rfl, rfl⟩
    -- for at in range(1, count)
    refine ⟨_, rfl, _, _, rfl, ⟨by omega, by omega, by omega, by omega⟩, for_it (walk_range (lo := 1)) (fun i σ H' => Ex p H H' ∧ (∃ ms, PlainAt K H' D rs ds ms ls ∧ RowInv zs (c + 1) ms ∧ TreeTo (i + 1) ms ∧ ∀ (j : Nat) m, i ≤ j → ms[j]? = some m → m = []) ∧ ∃ o5 o6 o7, σ = [some (.ref p), some (.ref l), some (.int (k : Nat)), some (.int (1 + (c : Int))), some (.ref D), o5, o6, o7, none, none, none, none, none])
      ⟨ex2, ⟨_, hP0, hI0, fun i h1 h2 => by omega, fun j m _ h => List.eq_of_mem_replicate (List.mem_of_getElem? h)⟩, _, _, _, rfl⟩ (fun _ _ _ _ _ => trivial) (fun i x σ H3 H3' hi e y => ?_) (fun σ H3 e => ?_)⟩
    · obtain ⟨rfl, rfl⟩ := y
      obtain ⟨ex3, ⟨ms, hP, hI, hT, hE⟩, o5, o6, o7, rfl⟩ := e
      have ic : i < c := by simp at hi; omega
      obtain ⟨x3, y3, z3, hp3⟩ := ex3.pot
      refine ⟨_, rfl, _, rfl, p, _, x3, y3, z3, rfl, hp3, by omega, by omega, fun r x4 y4 z4 r0 r1 => ?_⟩
      obtain ⟨s, rfl⟩ : ∃ s : Nat, r = s := ⟨r.toNat, by omega⟩
      have ex34 : Ex p H3' (upd H3' p (potO x4 y4 z4)) := Ex.turn
      generalize upd H3' p (potO x4 y4 z4) = H4 at ex34 ⊢
      have ex4 := ex3.trans ex34
      have hP4 := hP.ex ⟨x3, y3, z3, hp3⟩ hDp ex34
      have hl4 := ex4.seqL hl lp
      have at_ : ∀ s : Nat, s ≤ i → ∃ r d m b, rs[s]? = some r ∧ ds[s]? = some d ∧ ms[s]? = some m ∧ atI (rs.map V.ref) (s : Int) = some (.ref r) ∧ H4 r = some (.lst [.ref d, .bl b]) ∧ H4 d = some (.dK (mvK m)) ∧ m ∈ ms := fun s hs => by
        have h1 := List.getElem?_eq_getElem (show s < rs.length by omega)
        have h2 := List.getElem?_eq_getElem (show s < ds.length by omega)
        have h3 := List.getElem?_eq_getElem (show s < ms.length by rw [hI.len]; omega)
        have h4 := List.getElem?_eq_getElem (show s < ls.length by omega)
        exact ⟨_, _, _, _, h1, h2, h3, atI_nat (by rw [List.getElem?_map, h1]; rfl), hP4.pr s _ _ _ h1 h2 h4, hP4.dc.2 s _ _ h2 h3, List.mem_of_getElem? h3⟩
      obtain ⟨rr, rd, rm, rb, e1, e2, e3, e4, e5, e6, e7⟩ := at_ s (by omega)
      refine ⟨_, rfl, _, rfl, D, _, _, _, rfl, rfl, hP4.lst, e4, rr, _, _, _, rfl, rfl, SqL.of e5, rfl, rd, _, rfl, e6, _, rfl, l, _, rfl, .inl hl4, _, _, rfl, rfl, _, rfl, ?_⟩
      refine ite2 (fun hc => ?_) (fun hc => ?_)
      · have hc : ((mvK rm).length : Int) < ((zs.map V.str).length : Nat) := of_decide_eq_true hc
        refine ⟨_, rfl, ?_⟩
        have hs' : ∃ s' : Nat, V.int (s : Int) = .int (s' : Int) ∧ s' ≤ i ∧ ∃ m, ms[s']? = some m ∧ m.length < zs.length := ⟨s, rfl, by omega, rm, e3, by simp [mvK] at hc; omega⟩
        generalize V.int (s : Int) = sv at hs' ⊢
        clear e1 e2 e3 e4 e5 e6 e7 hc
        obtain ⟨s', rfl, hsi, m', hm', hml⟩ := hs'
        obtain ⟨r2, d2, m2, b2, g1, g2, g3, g4, g5, g6, g7⟩ := at_ s' hsi
        rw [hm'] at g3
        cases g3
        refine ⟨_, rfl, _, rfl, l, rfl, ⟨_, hl4⟩, fun D3 hD3 => lc_lst hl4 hD3 (by rw [List.length_map]; omega) (freeIn m') (fun x => x) (fun x _ => rfl) (fun x hx acc Q q => ?_) (fun x hx _ acc Q q => ⟨_, rfl, q⟩) ?_⟩
        · obtain ⟨z, hz', rfl⟩ := List.mem_map.mp hx
          have sa := same_new (o := .lst acc) hD3
          exact ⟨_, rfl, _, rfl, _, rfl, D, _, _, _, rfl, rfl, Same.seq sa hP4.lst, g4, r2, _, _, _, rfl, rfl, SqL.of (sa _ _ g5), rfl, d2, _, rfl, dget m' _ _ z (sa _ _ g6), _, rfl, q⟩
        · rw [List.map_id']
          obtain ⟨sa, ua⟩ := laid (.lst ((zs.map V.str).filter (freeIn m'))) hD3
          have exa := ex4.new (o := .lst ((zs.map V.str).filter (freeIn m'))) hD3
          have D3p : D3 ≠ p := by
            obtain ⟨x, y, z, q⟩ := ex4.pot
            exact (ne_of_none q hD3).symm
          generalize upd H4 D3 (.lst ((zs.map V.str).filter (freeIn m'))) = H5 at sa ua exa ⊢
          have l5 := List.length_filter_le (freeIn m') (zs.map V.str)
          rw [List.length_map] at l5
          refine ⟨p, D3, _, rfl, exa.pot, D3p, SqL.of ua, free_pos hz.nd hml, by omega, fun v x6 y6 z6 hv => ?_⟩
          obtain ⟨hv1, hv2⟩ := List.mem_filter.mp hv
          obtain ⟨z, hzz, rfl⟩ := List.mem_map.mp hv1
          have hzn := freeIn_iff.mp hv2
          have ex56 : Ex p H5 (upd H5 p (potO x6 y6 z6)) := Ex.turn
          have ex6 := exa.trans ex56
          have hP6 := (hP4.same sa).ex exa.pot hDp ex56
          have n1 : r2 ≠ p := fun e => by
            obtain ⟨x, y, z, q⟩ := ex4.pot
            rw [e, q] at g5
            cases g5
          have n2 : d2 ≠ p := fun e => by
            obtain ⟨x, y, z, q⟩ := ex4.pot
            rw [e, q] at g6
            cases g6
          have g5' := ex56.keep _ _ n1 (sa _ _ g5)
          have g6' := ex56.keep _ _ n2 (sa _ _ g6)
          generalize upd H5 p (potO x6 y6 z6) = H6 at ex56 ex6 hP6 g5' g6' ⊢
          refine ⟨_, rfl, _, rfl, _, rfl, D, _, _, _, rfl, rfl, hP6.lst, g4, r2, _, _, _, rfl, rfl, SqL.of g5', rfl, _, rfl, d2, _, rfl, .inl ⟨mvK m', .inr z, g6', rfl, ?_, rfl⟩, ?_⟩
          · have : 100000 < sizeLine := by decide
            have := hI.few g7
            simp [mvK]
            omega
          · have ep : putK (mvK m') (.inr z) (.int (1 + (i : Int))) = mvK (m' ++ [(z, i + 1)]) := by
              rw [← putK_mv hzn]
              congr 2
              omega
            rw [ep]
            refine ⟨ex6.put (d0 d2 (List.mem_of_getElem? g2)) n2, ⟨_, hP6.put hnd g2 hm', hI.put hm' hzz hzn (by omega), TreeTo.step hT hm' (by omega), fun j m hj hmj => ?_⟩, _, _, _, rfl⟩
            rw [List.getElem?_set_ne (by omega)] at hmj
            exact hE j m (by omega) hmj
      · refine ⟨_, rfl, _, _, rfl, rfl, ?_⟩
        have hs' : ∃ s' : Nat, V.int (1 + (i : Int) - 1) = .int (s' : Int) ∧ s' ≤ i ∧ ∃ m, ms[s']? = some m ∧ m.length < zs.length := by
          have h3 := List.getElem?_eq_getElem (show i < ms.length by rw [hI.len]; omega)
          refine ⟨i, by congr 1; omega, Nat.le_refl _, _, h3, ?_⟩
          rw [hE i _ (Nat.le_refl _) h3]
          exact hz.pos
        show gName 6 (V.int (1 + (i : Int) - 1)) _ _ _
        generalize V.int (1 + (i : Int) - 1) = sv at hs' ⊢
        clear e1 e2 e3 e4 e5 e6 e7 hc
        obtain ⟨s', rfl, hsi, m', hm', hml⟩ := hs'
        obtain ⟨r2, d2, m2, b2, g1, g2, g3, g4, g5, g6, g7⟩ := at_ s' hsi
        rw [hm'] at g3
        cases g3
        refine ⟨_, rfl, _, rfl, l, rfl, ⟨_, hl4⟩, fun D3 hD3 => lc_lst hl4 hD3 (by rw [List.length_map]; omega) (freeIn m') (fun x => x) (fun x _ => rfl) (fun x hx acc Q q => ?_) (fun x hx _ acc Q q => ⟨_, rfl, q⟩) ?_⟩
        · obtain ⟨z, hz', rfl⟩ := List.mem_map.mp hx
          have sa := same_new (o := .lst acc) hD3
          exact ⟨_, rfl, _, rfl, _, rfl, D, _, _, _, rfl, rfl, Same.seq sa hP4.lst, g4, r2, _, _, _, rfl, rfl, SqL.of (sa _ _ g5), rfl, d2, _, rfl, dget m' _ _ z (sa _ _ g6), _, rfl, q⟩
        · rw [List.map_id']
          obtain ⟨sa, ua⟩ := laid (.lst ((zs.map V.str).filter (freeIn m'))) hD3
          have exa := ex4.new (o := .lst ((zs.map V.str).filter (freeIn m'))) hD3
          have D3p : D3 ≠ p := by
            obtain ⟨x, y, z, q⟩ := ex4.pot
            exact (ne_of_none q hD3).symm
          generalize upd H4 D3 (.lst ((zs.map V.str).filter (freeIn m'))) = H5 at sa ua exa ⊢
          have l5 := List.length_filter_le (freeIn m') (zs.map V.str)
          rw [List.length_map] at l5
          refine ⟨p, D3, _, rfl, exa.pot, D3p, SqL.of ua, free_pos hz.nd hml, by omega, fun v x6 y6 z6 hv => ?_⟩
          obtain ⟨hv1, hv2⟩ := List.mem_filter.mp hv
          obtain ⟨z, hzz, rfl⟩ := List.mem_map.mp hv1
          have hzn := freeIn_iff.mp hv2
          have ex56 : Ex p H5 (upd H5 p (potO x6 y6 z6)) := Ex.turn
          have ex6 := exa.trans ex56
          have hP6 := (hP4.same sa).ex exa.pot hDp ex56
          have n1 : r2 ≠ p := fun e => by
            obtain ⟨x, y, z, q⟩ := ex4.pot
            rw [e, q] at g5
            cases g5
          have n2 : d2 ≠ p := fun e => by
            obtain ⟨x, y, z, q⟩ := ex4.pot
            rw [e, q] at g6
            cases g6
          have g5' := ex56.keep _ _ n1 (sa _ _ g5)
          have g6' := ex56.keep _ _ n2 (sa _ _ g6)
          generalize upd H5 p (potO x6 y6 z6) = H6 at ex56 ex6 hP6 g5' g6' ⊢
          refine ⟨_, rfl, _, rfl, _, rfl, D, _, _, _, rfl, rfl, hP6.lst, g4, r2, _, _, _, rfl, rfl, SqL.of g5', rfl, _, rfl, d2, _, rfl, .inl ⟨mvK m', .inr z, g6', rfl, ?_, rfl⟩, ?_⟩
          · have : 100000 < sizeLine := by decide
            have := hI.few g7
            simp [mvK]
            omega
          · have ep : putK (mvK m') (.inr z) (.int (1 + (i : Int))) = mvK (m' ++ [(z, i + 1)]) := by
              rw [← putK_mv hzn]
              congr 2
              omega
            rw [ep]
            refine ⟨ex6.put (d0 d2 (List.mem_of_getElem? g2)) n2, ⟨_, hP6.put hnd g2 hm', hI.put hm' hzz hzn (by omega), TreeTo.step hT hm' (by omega), fun j m hj hmj => ?_⟩, _, _, _, rfl⟩
            rw [List.getElem?_set_ne (by omega)] at hmj
            exact hE j m (by omega) hmj
    obtain ⟨ex3, ⟨ms0, hP3, hI3, hT3, _⟩, o5, o6, o7, rfl⟩ := e
    have hT3 : TreeTo (c + 1) ms0 := by
      have e : (1 + (c : Int) - 1).toNat = c := by omega
      rw [e] at hT3
      exact hT3
    -- for row in rows
    refine ⟨_, rfl, D, rfl, ⟨_, hP3.lst⟩, for_it (walk_list (xs := rs.map V.ref)) (fun i σ H' => Ex p H H' ∧ (∃ ms, PlainAt K H' D rs ds ms ls ∧ RowInv zs (c + 1) ms ∧ TreeTo (c + 1) ms) ∧ ∃ o5 o6 o7 o9, σ = [some (.ref p), some (.ref l), some (.int (k : Nat)), some (.int (1 + (c : Int))), some (.ref D), o5, o6, o7, none, o9, none, none, none])
      ⟨ex3, ⟨_, hP3, hI3, hT3⟩, _, _, _, _, rfl⟩ (fun i σ H' _ e => by obtain ⟨_, ⟨_, q, _⟩, _⟩ := e; exact q.lst) (fun i x σ H4 H4' hi e y => ?_) (fun σ H4 e => ?_)⟩
    · obtain ⟨rfl, hx⟩ := y
      obtain ⟨ex4, ⟨ms1, hP4, hI4, hT4⟩, o5, o6, o7, o9, rfl⟩ := e
      rw [List.getElem?_map] at hx
      obtain ⟨r, hr1, rfl⟩ := Option.map_eq_some_iff.mp hx
      have il : i < c + 1 := by rw [← lr']; exact (List.getElem?_eq_some_iff.mp hr1).1
      have hl4 := ex4.seqL hl lp
      refine ⟨_, rfl, l, rfl, ⟨_, hl4⟩, for_it (walk_list (xs := zs.map V.str)) (fun j σ H' => Ex p H H' ∧ (∃ ms, PlainAt K H' D rs ds ms ls ∧ RowInv zs (c + 1) ms ∧ TreeTo (c + 1) ms) ∧ ∃ o5 o6 o7, σ = [some (.ref p), some (.ref l), some (.int (k : Nat)), some (.int (1 + (c : Int))), some (.ref D), o5, o6, o7, none, some (.ref r), none, none, none])
        ⟨ex4, ⟨_, hP4, hI4, hT4⟩, _, _, _, rfl⟩ (fun j σ H' _ e => e.1.seqL hl lp) (fun j x σ H5 H5' hj e y => ?_) (fun σ H5 e => ?_)⟩
      · obtain ⟨rfl, hx⟩ := y
        obtain ⟨ex5, ⟨ms, hP, hI, hT⟩, o5, o6, o7, rfl⟩ := e
        rw [List.getElem?_map] at hx
        obtain ⟨z, hz1, rfl⟩ := Option.map_eq_some_iff.mp hx
        have hzz := List.mem_of_getElem? hz1
        obtain ⟨d, h2⟩ : ∃ d, ds[i]? = some d := ⟨_, List.getElem?_eq_getElem (show i < ds.length by omega)⟩
        obtain ⟨m, h3⟩ : ∃ m, ms[i]? = some m := ⟨_, List.getElem?_eq_getElem (show i < ms.length by rw [hI.len]; omega)⟩
        obtain ⟨b, h4⟩ : ∃ b, ls[i]? = some b := ⟨_, List.getElem?_eq_getElem (show i < ls.length by omega)⟩
        have g5 := hP.pr i r d b hr1 h2 h4
        have g6 := hP.dc.2 i d m h2 h3
        obtain ⟨x5, y5, z5, hp5⟩ := ex5.pot
        have n1 : r ≠ p := fun e => by rw [e, hp5] at g5; cases g5
        have n2 : d ≠ p := fun e => by rw [e, hp5] at g6; cases g6
        refine ⟨_, rfl, _, rfl, r, _, _, _, rfl, rfl, SqL.of g5, rfl, d, _, rfl, dget m _ _ z g6, _, rfl, ?_⟩
        show (if freeIn m (.str z) = true then _ else _)
        cases hf : freeIn m (.str z) with
        | false => exact iteF ⟨ex5, ⟨_, hP, hI, hT⟩, _, _, _, rfl⟩
        | true =>
          have hzn := freeIn_iff.mp hf
          refine iteT ⟨_, rfl, p, _, x5, y5, z5, rfl, hp5, by decide, by decide, fun r6 x6 y6 z6 _ _ => ⟨rfl, _, rfl, ?_⟩⟩
          have ex56 : Ex p H5' (upd H5' p (potO x6 y6 z6)) := Ex.turn
          have hP6 := hP.ex ex5.pot hDp ex56
          have g5a := ex56.keep _ _ n1 g5
          have g6a := ex56.keep _ _ n2 g6
          have ex6 := ex5.trans ex56
          generalize upd H5' p (potO x6 y6 z6) = H6 at ex56 hP6 ex6 g5a g6a ⊢
          refine ite2 (fun _ => ?_) (fun _ => ⟨ex6, ⟨_, hP6, hI, hT⟩, _, _, _, rfl⟩)
          obtain ⟨x6, y6, z6, hp6⟩ := ex6.pot
          refine ⟨_, rfl, _, rfl, p, _, x6, y6, z6, rfl, hp6, by omega, by omega, fun t x7 y7 z7 t0 t1 => ?_⟩
          obtain ⟨t, rfl⟩ : ∃ t' : Nat, t = t' := ⟨t.toNat, by omega⟩
          have ex67 : Ex p H6 (upd H6 p (potO x7 y7 z7)) := Ex.turn
          have hP7 := hP6.ex ex6.pot hDp ex67
          have g5b := ex67.keep _ _ n1 g5a
          have g6b := ex67.keep _ _ n2 g6a
          have ex7 := ex6.trans ex67
          generalize upd H6 p (potO x7 y7 z7) = H7 at ex67 hP7 ex7 g5b g6b ⊢
          refine ⟨_, rfl, r, _, _, _, rfl, rfl, SqL.of g5b, rfl, _, rfl, d, _, rfl, .inl ⟨mvK m, .inr z, g6b, rfl, ?_, rfl⟩, ?_⟩
          · have : 100000 < sizeLine := by decide
            have := hI.few (List.mem_of_getElem? h3)
            simp [mvK]
            omega
          · rw [putK_mv hzn]
            exact ⟨ex7.put (d0 d (List.mem_of_getElem? h2)) n2, ⟨_, hP7.put hnd h2 h3, hI.put h3 hzz hzn (by omega), hT.put h3⟩, _, _, _, rfl⟩
      · obtain ⟨ex5, hm, o5, o6, o7, rfl⟩ := e
        exact ⟨ex5, hm, _, _, _, _, rfl⟩
    obtain ⟨ex4, ⟨ms, hP, hI, hT⟩, o5, o6, o7, o9, rfl⟩ := e
    have mlen := hI.len
    -- good
    refine ⟨_, rfl, D, rfl, ⟨_, hP.lst⟩, fun G0 hG0 => lc_lstR (rs.map V.ref) hP.lst (by rw [List.length_map]; omega) hG0 (fun x _ => rfl) (fun k v _ => ∃ b, ls[k]? = some b ∧ v = .bl b) (fun _ _ _ _ _ r => r) (fun i x hx H2 e2 _ Q q => ?_) (fun H5 outs s5 u5 l5 r5 => ?_)⟩
    · rw [List.getElem?_map] at hx
      obtain ⟨r, hr1, rfl⟩ := Option.map_eq_some_iff.mp hx
      have il := (List.getElem?_eq_some_iff.mp hr1).1
      have h2 := List.getElem?_eq_getElem (show i < ds.length by omega)
      have h4 := List.getElem?_eq_getElem (show i < ls.length by omega)
      exact ⟨_, rfl, r, _, _, _, rfl, rfl, SqL.of (e2 _ _ (hP.pr i r _ _ hr1 h2 h4)), rfl, q _ _ (Same.refl _) ⟨_, h4, rfl⟩⟩
    obtain rfl := outs_bl (by rw [l5, List.length_map]; omega) r5
    have hP5 := hP.same s5
    have ex5 := ex4.same s5
    have lms : ls.length = ms.length := by omega
    -- rounds
    refine ⟨_, rfl, _, rfl, by omega, by omega, for_it (walk_range (lo := 0)) (fun i σ H' => Same H5 H' ∧ ∃ o5 o6 o7 o9 o11 g, σ = [some (.ref p), some (.ref l), some (.int (k : Nat)), some (.int (1 + (c : Int))), some (.ref D), o5, o6, o7, none, o9, some (.ref g), o11, none] ∧ H' g = some (.lst ((stepN ms i ls).map V.bl)))
      ⟨Same.refl _, _, _, _, _, _, _, rfl, u5⟩ (fun _ _ _ _ _ => trivial) (fun i x σ H6 H6' hi e y => ?_) (fun σ H6 e => ?_)⟩
    · obtain ⟨rfl, rfl⟩ := y
      obtain ⟨s6, o5, o6, o7, o9, o11, g, rfl, ug⟩ := e
      have hP6 := hP5.same s6
      have fl : (stepN ms i ls).length = ms.length := by rw [stepN_length lms]; exact lms
      refine ⟨_, rfl, D, _, rfl, hP6.lst, fun G hG => lc_enumR (rs.map V.ref) hP6.lst (by rw [List.length_map]; omega) hG (fun i x _ => rfl) (fun k v _ => ∃ b, (stepU ms (stepN ms i ls))[k]? = some b ∧ v = .bl b) (fun _ _ _ _ _ r => r) (fun j x hx H7 s7 _ Q q => ?_) (fun H7 outs s7 u7 l7 r7 => ?_)⟩
      · rw [List.getElem?_map] at hx
        obtain ⟨r, hr1, rfl⟩ := Option.map_eq_some_iff.mp hx
        have jl := (List.getElem?_eq_some_iff.mp hr1).1
        obtain ⟨d, h2⟩ : ∃ d, ds[j]? = some d := ⟨_, List.getElem?_eq_getElem (show j < ds.length by omega)⟩
        obtain ⟨m, h3⟩ : ∃ m, ms[j]? = some m := ⟨_, List.getElem?_eq_getElem (show j < ms.length by omega)⟩
        obtain ⟨b, h4⟩ : ∃ b, ls[j]? = some b := ⟨_, List.getElem?_eq_getElem (show j < ls.length by omega)⟩
        obtain ⟨f, h5⟩ : ∃ f, (stepN ms i ls)[j]? = some f := ⟨_, List.getElem?_eq_getElem (show j < (stepN ms i ls).length by omega)⟩
        have g5 := s7 _ _ (hP6.pr j r d b hr1 h2 h4)
        have g6 := s7 _ _ (hP6.dc.2 j d m h2 h3)
        have g7 := s7 _ _ ug
        have st := stepU_get (ms := ms) h5 h3
        generalize stepN ms i ls = fs at *
        refine ⟨_, rfl, _, rfl, g, _, _, .bl f, rfl, rfl, SqL.of g7, atI_nat (by rw [List.getElem?_map, h5]; rfl), _, rfl, ?_⟩
        cases f with
        | true => exact iteT (q _ _ (Same.refl _) ⟨_, st, by rw [Bool.true_or]⟩)
        | false =>
          rw [Bool.false_or] at st
          have nr : r ≠ d := fun e => by rw [e, g6] at g5; cases g5
          have ng : g ≠ d := fun e => by rw [e, g6] at g7; cases g7
          have ml := hI.few (List.mem_of_getElem? h3)
          refine iteF ⟨d, _, g6, trivial, fun od => ⟨_, rfl, r, _, _, .ref d, rfl, rfl, SqL.of (by rw [upd_ne nr]; exact g5), rfl, d, od, _, rfl, upd_same, fun D2 hD2 => ?_⟩⟩
          refine lc_valsL g6 hD2 (by simp [mvK]; omega) (goodIn fs) (fun x => x) (fun x _ => rfl) (fun x hx H8 f8 k8 Q q => ?_) (fun x hx _ H8 f8 k8 Q q => ⟨_, rfl, q⟩) (fun H8 f8 s8 u8 => ⟨f8, ?_⟩)
          · obtain ⟨kv, hkv, rfl⟩ := List.mem_map.mp hx
            obtain ⟨q0, hq0, rfl⟩ := List.mem_map.mp hkv
            have hlt : q0.2 < fs.length := by
              have := (hI.to m (List.mem_of_getElem? h3) q0 hq0).2
              omega
            refine ⟨_, rfl, _, rfl, g, _, _, .bl (fs.getD q0.2 false), rfl, rfl, SqL.of (k8 _ _ ng g7), atI_nat ?_, _, rfl, q⟩
            rw [List.getElem?_map, List.getElem?_eq_getElem hlt, List.getD_eq_getElem?_getD, List.getElem?_eq_getElem hlt]
            rfl
          · rw [List.map_id', goodIn_list] at u8
            generalize upd H8 d (.dK (mvK m)) = H9 at s8 u8 ⊢
            refine ⟨(by show 0 ≤ sizeLine; decide), fun E1 hE1 => ?_⟩
            obtain ⟨s9, u9⟩ := laid (.lst []) hE1
            generalize upd H9 E1 (.lst []) = Ha at s9 u9 ⊢
            refine ⟨_, _, .lst (SqL.of (s9 _ _ u8)) (dp_ints _), .lst (SqL.of u9) .nil, shI _, shI [], ?_⟩
            refine q _ _ (s8.trans s9) ⟨_, st, ?_⟩
            rw [eqv_nil]
            refine congrArg V.bl ?_
            rw [Bool.not_eq_eq_eq_not]
            exact goodIn_any m fs
      · have e7 := outs_bl (ls := stepU ms (stepN ms i ls)) (by rw [l7, List.length_map, stepU_length fl]; omega) r7
        subst e7
        exact ⟨s6.trans s7, _, _, _, _, _, _, rfl, u7⟩
    obtain ⟨s6, o5, o6, o7, o9, o11, g, rfl, ug⟩ := e
    have hP6 := hP5.same s6
    have ex6 := ex5.same s6
    have fl : (stepN ms (1 + (c : Int)).toNat ls).length = ms.length := by rw [stepN_length lms]; exact lms
    have hus := lastOr_use lms (1 + (c : Int)).toNat
    generalize stepN ms (1 + (c : Int)).toNat ls = fs at ug fl hus
    have lol : (lastOr ls fs).length = ms.length := by rw [lastOr_len (by omega)]; exact lms
    refine ⟨_, rfl, D, _, rfl, hP6.lst, fun G hG => lc_enumR (rs.map V.ref) hP6.lst (by rw [List.length_map]; omega) hG (fun i x _ => rfl) (fun k v H' => ∃ r' d b, v = .ref r' ∧ H' r' = some (.lst [.ref d, .bl b]) ∧ r' ≠ G ∧ ds[k]? = some d ∧ (lastOr ls fs)[k]? = some b) (fun k v H1 H2 e ⟨r', d, b, h1, h2, h3, h4⟩ => ⟨r', d, b, h1, e _ _ h3 h2, h3, h4⟩) (fun j x hx H7 s7 ⟨o, ho⟩ Q q => ?_) (fun H7 outs s7 u7 l7 r7 => ?_)⟩
    · rw [List.getElem?_map] at hx
      obtain ⟨r, hr1, rfl⟩ := Option.map_eq_some_iff.mp hx
      have jl := (List.getElem?_eq_some_iff.mp hr1).1
      obtain ⟨d, h2⟩ : ∃ d, ds[j]? = some d := ⟨_, List.getElem?_eq_getElem (show j < ds.length by omega)⟩
      obtain ⟨b, h4⟩ : ∃ b, ls[j]? = some b := ⟨_, List.getElem?_eq_getElem (show j < ls.length by omega)⟩
      obtain ⟨f, h5⟩ : ∃ f, fs[j]? = some f := ⟨_, List.getElem?_eq_getElem (show j < fs.length by omega)⟩
      have g5 := s7 _ _ (hP6.pr j r d b hr1 h2 h4)
      have g7 := s7 _ _ ug
      have lo := lastOr_get h4 h5
      have fin : ∀ R, H7 R = none → Q (.ref R) (upd H7 R (.lst [.ref d, .bl (b || !f)])) := fun R hR => q _ _ (same_new hR) ⟨R, d, _, rfl, upd_same, (fun z => by rw [z, ho] at hR; cases hR), h2, lo⟩
      refine ⟨_, rfl, r, _, _, _, rfl, rfl, SqL.of g5, rfl, _, rfl, r, _, _, _, rfl, rfl, SqL.of g5, rfl, _, rfl, ?_⟩
      cases b with
      | true => exact iteT ⟨(by show 2 ≤ sizeLine; decide), fin⟩
      | false => exact iteF ⟨_, rfl, _, rfl, g, _, _, .bl f, rfl, rfl, SqL.of g7, atI_nat (by rw [List.getElem?_map, h5]; rfl), _, rfl, (by show 2 ≤ sizeLine; decide), fin⟩
    · obtain ⟨rs', rfl⟩ := refs_of fun k v hk => by
        obtain ⟨t, _, _, h, _⟩ := r7 k v hk
        exact ⟨t, h⟩
      rw [List.length_map, List.length_map] at l7
      refine hQ G rs' ds ms (lastOr ls fs) H7 (ex6.same s7) (ex6.free hp hG) ⟨SqL.of u7, by omega, lol, (hP6.same s7).dc, fun i r' d b h1 h2 h3 => ?_⟩ hnd ⟨by omega, by omega, fun m hm => ?_, ⟨fun m hm q hq => ?_, fun i h0 hi => ?_⟩, hus⟩ (by omega)
      · obtain ⟨t, d', b', e, g1, _, g2, g3⟩ := r7 i (.ref r') (by rw [List.getElem?_map, h1]; rfl)
        cases e
        rw [h2] at g2
        rw [h3] at g3
        cases g2
        cases g3
        exact g1
      · rw [mlen]
        exact hI.mvok hz m hm
      · rw [mlen]
        exact (hI.to m hm q hq).2
      · exact hT i h0 (by omega)
end
end MN
/-! _law_judged_right -/
namespace MN
open PySem PySem.Spec PyProof.Rows L2
/-- xs == [], whatever the items -/
def rEqNil (K : PySem.W.Frag) : R2 := fun x y H Q => ∃ a b xs, x = .ref a ∧ y = .ref b ∧ SqL K H a xs ∧ SqL K H b [] ∧ Q (.bl xs.isEmpty) H
theorem op_eqNil {X : Cx} (hu0 : X.A.units + 64 < cLine) : OpR X (compareOp .Eq) (rEqNil X.K) := by
  intro pins s σ H x y v u Q I rx ry h
  obtain ⟨a, b, xs, rfl, rfl, ha, hb, q⟩ := h
  have hu : X.A.units < cLine := by omega
  cases rx
  cases ry
  obtain ⟨its, r1, p1, _⟩ := I.list ha
  obtain ⟨its2, r2, p2, _⟩ := I.list hb
  cases r2
  cases r1 with
  | nil => exact SeqAt.eq_listAt (e := fun _ => true) p1.isList p2.isList rfl hu (fun j h1 => absurd h1 (Nat.not_lt_zero _)) ⟨.bl true, H, I, rfl, q⟩
  | cons r t => exact SeqAt.eq_list_lengthsAt p1.isList p2.isList rfl hu ⟨.bl false, H, I, rfl, q⟩
theorem filter_not_empty : ∀ xs : List V, (xs.filter fun x => !numV x).isEmpty = xs.all numV
  | [] => rfl
  | x :: xs => by
    rw [List.filter_cons, List.all_cons]
    cases h : numV x with
    | true => simpa using filter_not_empty xs
    | false => rfl
/-- two truths as data -/
theorem sh2 (a b : Bool) : isDisplay (.list [.bool a, .bool b]) = true ∧ (PyData.list [.bool a, .bool b]).showable = true ∧ (PyData.list [.bool a, .bool b]).hasDict = false ∧ (PyData.list [.bool a, .bool b]).depth ≤ 60 ∧ (PyData.list [.bool a, .bool b]).shown.length ≤ sizeLine := by
  cases a <;> cases b <;> exact ⟨rfl, by decide +kernel, by decide +kernel, by decide +kernel, by decide +kernel⟩
theorem dpBB {K : PySem.W.Frag} {H : Hp} {a : Addr} {x y : Bool} (h : SqL K H a [.bl x, .bl y]) : Dp K H (.ref a) (.list [.bool x, .bool y]) := .lst h (.cons (.bl x) (.cons (.bl y) .nil))
section
variable {P : Program} {w : World} {K : PySem.W.Frag} {mg : Str → Option Value} {base : Heap} {C p0 p1 : Addr} {i0 i1 : Nat}
theorem FormAt.exK {H H' : Hp} {p x dx M L : Addr} {n : Nat} {ls : List Bool} (h : FormAt K C i0 i1 H x dx M L n ls) (e : Ex p H H') (hx : x ≠ p) (hd : dx ≠ p) (hM : M ≠ p) (hL : L ≠ p) : FormAt K C i0 i1 H' x dx M L n ls := by
  obtain ⟨⟨ws, h1, h2, h3⟩, ⟨xs, h4, h5⟩, h6, h7⟩ := h
  refine ⟨⟨ws, ?_, h2, h3⟩, ⟨xs, e.seqL h4 hM, h5⟩, e.seqL h6 hL, h7⟩
  rcases h1 with ⟨h, rfl⟩ | ⟨g1, g2⟩
  · exact .inl ⟨e.keep _ _ hx h, rfl⟩
  · exact .inr ⟨e.keep _ _ hx g1, e.keep _ _ hd g2⟩
theorem StsOk.some {ms : List Mv} {ls : List Bool} (h : StsOk ms ls) (hl : ls.length = ms.length) : true ∈ ls := by
  refine Classical.byContradiction fun hn => ?_
  have all : ∀ b ∈ ls, b = false := fun b hb => by
    cases b with
    | false => rfl
    | true => exact absurd hb hn
  have fx : stepU ms (stepN ms 0 ls) = stepN ms 0 ls := stepU_none hl all
  have p := h.pos
  have h0 : 0 < ls.length := by omega
  have m0 := List.getElem_mem h0
  have := h.use 0 fx _ m0
  rw [all _ m0] at this
  cases this
theorem ints_of : ∀ {xs : List V}, xs.all numV = true → ∃ ns : List Int, xs = ns.map V.int
  | [], _ => ⟨[], rfl⟩
  | x :: xs, h => by
    rw [List.all_cons, Bool.and_eq_true] at h
    obtain ⟨ns, rfl⟩ := ints_of h.2
    cases x with
    | int n => exact ⟨n :: ns, rfl⟩
    | _ => exact absurd h.1 (by simp [numV])
def spJudged (K : PySem.W.Frag) (C : Addr) (i0 i1 : Nat) : Sp := fun vs H Q _ => ∃ (p a x dx M L : Addr) (rs ds : List Addr) (ms : List Mv) (ls : List Bool), vs = [.ref p, .ref a, .ref x] ∧ Pot H p ∧ PlainAt K H a rs ds ms ls ∧ FormAt K C i0 i1 H x dx M L ms.length ls ∧ StsOk ms ls ∧ ms.length ≤ 6 ∧ a ≠ p ∧ x ≠ p ∧ dx ≠ p ∧ M ≠ p ∧ L ≠ p ∧ ∀ H', Ex p H H' → Q (.bl true) H'
abbrev N_jr : List Str := ["_law_urn_here", "_law_plain", "_law_target", "_law_turn", "_law_value", "_law_due", "_law_one"]
theorem sc_jr : FnScope N_jr ["_law_urn_here", "_law_plain", "_law_target"] (defScope (top 70)) := ⟨rfl, rfl, rfl, by decide +kernel, rfl, by decide +kernel, by decide +kernel⟩
theorem c_law_judged_right (A : At K mg "_law_judged_right" (top 70)) (B : Blt mg) (c_law_near : Cal P w K mg base 4 "_law_near" spNear) (c_law_is_number : Cal P w K mg base 1 "_law_is_number" (spLNum K)) (c_is_row : Cal P w K mg base 4 "is_row" (spIsRow K C i0 i1)) (c_end_cost : Cal P w K mg base 4 "end_cost" (spEndCost K C i0 i1)) (c_law_end : Cal P w K mg base 1 "_law_end" (spEnd K)) : CalG P w K mg base 5 "_law_judged_right" (spJudged K C i0 i1) := by
  refine calG_of A sc_jr (fun _ _ _ _ _ _ us hl => match us, hl with | [_, _, _], _ => rfl) (fun vs H Q E h => ?_) (fun _ cdv A outer s H vs Q E gd hr h => ?_)
  · obtain ⟨_, _, _, _, _, _, _, _, _, _, rfl, _⟩ := h; rfl
  · obtain ⟨p, a, x, dx, M, L, rs, ds, ms, ls, rfl, hp, hP, hF, hO, h6, ap, xp, dp, Mp, Lp, hQ⟩ := h
    refine ⟨_, (pss_cons (ps_for PassesOwn.never rfl (pi_range1 (by rfl) B.range (pa_cons pe_int pa_nil)) (pg_name (i := 3) sc_jr.nd rfl (Or.inl rfl))
        (pss_cons (ps_set (i := 4) sc_jr.nd rfl (Or.inl rfl) (pe_c c_law_near hr (by decide) (by rfl) (pa_cons (pv 0) (pa_cons (pe_callB call_len_seq (by rfl) B.len (by decide +kernel) (pa_cons (pv 1) pa_nil)) pa_nil))))
        (pss_cons (ps_set (i := 5) sc_jr.nd rfl (Or.inl rfl) (pe_and (pe_callB call_isS (by rfl) B.isinstance (by decide +kernel) (pa_cons (pv 4) (pa_cons (pe_bltn (v := .ty "tuple") (by rfl) B.tuple (by decide +kernel) rfl) pa_nil))) (pe_one (pe_cmpR op_eq (pe_callB call_len_seq (by rfl) B.len (by decide +kernel) (pa_cons (pv 4) pa_nil)) (pe_callB call_len_seq (by rfl) B.len (by decide +kernel) (pa_cons (pv 1) pa_nil)) (nomark _)))))
        (pss_cons (ps_set (i := 5) sc_jr.nd rfl (Or.inl rfl) (pe_and (pv 5) (pe_one (pe_cmpR (op_eqNil hr.units) (pe_lc (own := [("_law_one", 6)]) (g := gName 6) (by rfl) sc_jr.nd (pi_tup (pv 4)) (blkOk_by (own := [("_law_one", 6)]) (N := N_jr) (sc := defScope (top 70)) (by decide +kernel)) (fun _ _ _ _ _ => (pg_name (i := 6) sc_jr.nd rfl (Or.inl rfl))) (fun _ _ _ _ _ => pts_one (pt_not (pt_val (pe_c c_law_is_number hr (by decide) (by rfl) (pa_cons (pv 6) pa_nil))))) (fun _ _ _ _ _ => (pv 6))) (pe_lst pa_nil) (nomark _)))))
        (pss_cons (ps_if (pt_cmpR op_ne (pe_callB (call_repr gd hr.units) (by rfl) B.repr (by decide +kernel) (pa_cons (pe_lst (pa_cons (pe_c c_is_row hr (by decide) (by rfl) (pa_cons (pv 2) (pa_cons (pv 4) pa_nil))) (pa_cons (pe_c c_is_row hr (by decide) (by rfl) (pa_cons (pv 2) (pa_cons (pv 4) pa_nil))) pa_nil))) pa_nil)) (pe_callB (call_repr gd hr.units) (by rfl) B.repr (by decide +kernel) (pa_cons (pe_lst (pa_cons (pv 5) (pa_cons (pv 5) pa_nil))) pa_nil)) (nomark _))
          (pss_one (ps_ret pe_bl))
          pss_nil)
        (pss_one (ps_if (PW.pt (pw_and (pt_val (pv 5)) (pw_and1 (pt_cmpR op_ne (pe_c c_end_cost hr (by decide) (by rfl) (pa_cons (pv 2) (pa_cons (pv 4) pa_nil))) (pe_c c_law_end hr (by decide) (by rfl) (pa_cons (pv 1) (pa_cons (pv 4) pa_nil))) (nomark _)))))
          (pss_one (ps_ret pe_bl))
          pss_nil)))))))
      (pss_one (ps_ret pe_bl))), ?_⟩
    have npos := hO.pos
    have hT := hO.some hP.ll
    refine ⟨8, rfl, by omega, by omega, for_it (walk_range (lo := 0)) (fun i σ H' => Ex p H H' ∧ ∃ o3 o4 o5 o6, σ = [some (.ref p), some (.ref a), some (.ref x), o3, o4, o5, o6]) ⟨.refl hp, _, _, _, _, rfl⟩ (fun _ _ _ _ _ => trivial) (fun i y σ H1 H1' hi e yy => ?_) (fun σ H' e => hQ _ e.1)⟩
    obtain ⟨rfl, rfl⟩ := yy
    obtain ⟨ex1, o3, o4, o5, o6, rfl⟩ := e
    have hP1 := hP.ex hp ap ex1
    have rl : (rs.map V.ref).length = ms.length := by rw [List.length_map]; exact hP.lr
    refine ⟨_, rfl, _, rfl, a, _, rfl, .inl hP1.lst, p, (rs.map V.ref).length, rfl, ex1.pot, by omega, by omega, fun v H2 ex12 nv => ?_⟩
    have ex2 := ex1.trans ex12
    have hP2 := hP.ex hp ap ex2
    have hF2 := hF.exK ex2 xp dp Mp Lp
    have cases2 : (IsX K H2 v "tuple" false) ∨ ∃ t xs, v = .ref t ∧ H2 t = some (.tup xs) ∧ xs.length ≤ 20 ∧ ∀ x ∈ xs, OddV p H2 x := by
      cases nv with
      | int i => exact .inl (.ty (.base (.int i)) (by decide +kernel))
      | non => exact .inl (.ty (.base .non) (by decide +kernel))
      | str z => exact .inl (.ty (.base (.str z)) (by decide +kernel))
      | tup n h hl ho => exact .inr ⟨_, _, rfl, h, hl, ho⟩
      | lst n h => exact .inl (.ty (.base (.lst h)) (by decide +kernel))
      | dct n h => exact .inl (.ty (.base (.dK h)) (by decide +kernel))
    rcases cases2 with hno | ⟨t, xs, rfl, ht, hxl, hodd⟩
    · refine ⟨_, rfl, v, "tuple", false, rfl, hno, _, rfl, iteF ?_⟩
      refine ⟨_, rfl, _, rfl, iteF ?_⟩
      have hra : IsRowArg K H2 v ms.length false := .inl ⟨hno, rfl⟩
      refine ⟨_, rfl, _, rfl, x, dx, M, L, _, ls, v, false, rfl, hF2, h6, hra, fun H4 s4 => ?_⟩
      refine ⟨_, rfl, _, rfl, x, dx, M, L, _, ls, v, false, rfl, (hF2).same s4, h6, (hra).same s4, fun H5 s5 => ⟨(by show 2 ≤ sizeLine; decide), fun q hq => ?_⟩⟩
      obtain ⟨s6, u6⟩ := laid (.lst [V.bl false, .bl false]) hq
      generalize upd H5 q (.lst [V.bl false, .bl false]) = H6 at s6 u6 ⊢
      obtain ⟨w0, w1, w2, w3, w4⟩ := sh2 false false
      refine ⟨.ref q, _, rfl, dpBB (SqL.of u6), w0, w1, w2, w3, w4, _, rfl, _, rfl, (by show 2 ≤ sizeLine; decide), fun q7 hq7 => ?_⟩
      obtain ⟨s7, u7⟩ := laid (.lst [V.bl false, .bl false]) hq7
      generalize upd H6 q7 (.lst [V.bl false, .bl false]) = H7 at s7 u7 ⊢
      refine ⟨.ref q7, _, rfl, dpBB (SqL.of u7), w0, w1, w2, w3, w4, rfl, false, by simp, iteF ?_⟩
      have s47 := ((s4.trans s5).trans s6).trans s7
      exact ⟨_, rfl, _, rfl, iteF ⟨(ex2).same s47, _, _, _, _, rfl⟩⟩
    · refine ⟨_, rfl, .ref t, "tuple", true, rfl, .ty (.base (.tup ht)) (by decide +kernel), _, rfl, iteT ?_⟩
      refine ⟨_, rfl, t, xs, rfl, .inr (.inl (.inl ht)), _, rfl, a, _, rfl, .inl hP2.lst, rfl, ?_⟩
      by_cases hlen : xs.length = ms.length
      · rw [decide_eq_true (show V.int ((xs.length : Nat) : Int) = V.int (((rs.map V.ref).length : Nat) : Int) by rw [rl, hlen])]
        refine ⟨_, rfl, _, rfl, iteT ?_⟩
        have ht2 : SqT K H2 t xs := .inl (.inl ht)
        refine ⟨_, rfl, t, rfl, ⟨_, ht2⟩, fun D hD => lc_tplE ht2 hD (by omega) (fun x => !numV x) (fun x => x) (fun x _ => rfl) (fun x hx H3 e3 Q q => ?_) (fun x hx _ H3 e3 Q q => ⟨_, rfl, q _ (Same.refl _)⟩) (fun H3 e3 u3 => ?_)⟩
        · exact ⟨_, rfl, x, rfl, ((hodd x hx).keep fun b o _ q => e3 _ _ q).num, _, rfl, q _ (Same.refl _)⟩
        · refine ⟨(by show 0 ≤ sizeLine; decide), fun E1 hE1 => ?_⟩
          obtain ⟨s9, u9⟩ := laid (.lst ([] : List V)) hE1
          generalize upd H3 E1 (.lst []) = H8 at s9 u9 ⊢
          refine ⟨D, E1, _, rfl, rfl, SqL.of (s9 _ _ u3), SqL.of u9, ?_⟩
          have e28 := e3.trans s9
          have ed : ((xs.filter fun x => !numV x).map fun x => x).isEmpty = xs.all numV := by
            rw [List.map_id']
            exact filter_not_empty xs
          rw [ed]
          have ex8 := ex2.same e28
          have hF8 := hF2.same e28
          have hP8 := hP2.same e28
          have ht8 := e28 _ _ ht
          have hra : IsRowArg K H8 (.ref t) ms.length (xs.all numV) := by
            refine .inr ⟨t, xs, rfl, .inl (.inl ht8), by omega, fun x hx => ((hodd x hx).keep fun b o _ q => e28 _ _ q).num, ?_⟩
            rw [rowB, decide_eq_true hlen, decide_eq_true (show 1 ≤ xs.length by omega), decide_eq_true (show xs.length ≤ 6 by omega)]
            simp
          cases hd : xs.all numV with
          | false =>
            rw [hd] at hra
            refine ⟨_, rfl, _, rfl, x, dx, M, L, _, ls, (.ref t), false, rfl, hF8, h6, hra, fun H4 s4 => ?_⟩
            refine ⟨_, rfl, _, rfl, x, dx, M, L, _, ls, (.ref t), false, rfl, (hF8).same s4, h6, (hra).same s4, fun H5 s5 => ⟨(by show 2 ≤ sizeLine; decide), fun q hq => ?_⟩⟩
            obtain ⟨s6, u6⟩ := laid (.lst [V.bl false, .bl false]) hq
            generalize upd H5 q (.lst [V.bl false, .bl false]) = H6 at s6 u6 ⊢
            obtain ⟨w0, w1, w2, w3, w4⟩ := sh2 false false
            refine ⟨.ref q, _, rfl, dpBB (SqL.of u6), w0, w1, w2, w3, w4, _, rfl, _, rfl, (by show 2 ≤ sizeLine; decide), fun q7 hq7 => ?_⟩
            obtain ⟨s7, u7⟩ := laid (.lst [V.bl false, .bl false]) hq7
            generalize upd H6 q7 (.lst [V.bl false, .bl false]) = H7 at s7 u7 ⊢
            refine ⟨.ref q7, _, rfl, dpBB (SqL.of u7), w0, w1, w2, w3, w4, rfl, false, by simp, iteF ?_⟩
            have s47 := ((s4.trans s5).trans s6).trans s7
            exact ⟨_, rfl, _, rfl, iteF ⟨(ex8).same s47, _, _, _, _, rfl⟩⟩
          | true =>
            rw [hd] at hra
            refine ⟨_, rfl, _, rfl, x, dx, M, L, _, ls, (.ref t), true, rfl, hF8, h6, hra, fun H4 s4 => ?_⟩
            refine ⟨_, rfl, _, rfl, x, dx, M, L, _, ls, (.ref t), true, rfl, (hF8).same s4, h6, (hra).same s4, fun H5 s5 => ⟨(by show 2 ≤ sizeLine; decide), fun q hq => ?_⟩⟩
            obtain ⟨s6, u6⟩ := laid (.lst [V.bl true, .bl true]) hq
            generalize upd H5 q (.lst [V.bl true, .bl true]) = H6 at s6 u6 ⊢
            obtain ⟨w0, w1, w2, w3, w4⟩ := sh2 true true
            refine ⟨.ref q, _, rfl, dpBB (SqL.of u6), w0, w1, w2, w3, w4, _, rfl, _, rfl, (by show 2 ≤ sizeLine; decide), fun q7 hq7 => ?_⟩
            obtain ⟨s7, u7⟩ := laid (.lst [V.bl true, .bl true]) hq7
            generalize upd H6 q7 (.lst [V.bl true, .bl true]) = H7 at s7 u7 ⊢
            refine ⟨.ref q7, _, rfl, dpBB (SqL.of u7), w0, w1, w2, w3, w4, rfl, false, by simp, iteF ?_⟩
            have s47 := ((s4.trans s5).trans s6).trans s7
            obtain ⟨ns, rfl⟩ := ints_of hd
            rw [List.length_map] at hlen
            have ht9 : SqT K H7 t (ns.map V.int) := .inl (.inl (s47 _ _ ht8))
            have hrb : rowB (ns.map V.int) = true := rowB_of (by rw [List.length_map]; omega) (by rw [List.length_map]; omega) hd
            refine ⟨_, rfl, _, rfl, iteT ?_⟩
            refine ⟨_, rfl, _, rfl, x, dx, M, L, _, ls, t, ns, rfl, hF8.same s47, ht9, hlen, h6, hrb, hT, fun Ha ma sa ha => ?_⟩
            refine ⟨_, rfl, _, rfl, a, t, rs, ds, ms, ls, ns, rfl, (hP8.same s47).same sa, Same.seqT sa ht9, hlen, by omega, hT, fun Hb mb sb hb => ⟨rfl, _, rfl, ?_⟩⟩
            obtain rfl := ha.uniq hb
            rw [decide_eq_true (show V.int ma = V.int ma from rfl)]
            exact iteF ⟨((ex8.same s47).same sa).same sb, _, _, _, _, rfl⟩
      · rw [decide_eq_false (show ¬ V.int ((xs.length : Nat) : Int) = V.int (((rs.map V.ref).length : Nat) : Int) by rw [rl]; intro q; injection q with q; omega)]
        refine ⟨_, rfl, _, rfl, iteF ?_⟩
        have hra : IsRowArg K H2 (.ref t) ms.length false := .inr ⟨t, xs, rfl, .inl (.inl ht), by omega, fun x hx => (hodd x hx).num, by rw [decide_eq_false hlen, Bool.and_false]⟩
        refine ⟨_, rfl, _, rfl, x, dx, M, L, _, ls, (.ref t), false, rfl, hF2, h6, hra, fun H4 s4 => ?_⟩
        refine ⟨_, rfl, _, rfl, x, dx, M, L, _, ls, (.ref t), false, rfl, (hF2).same s4, h6, (hra).same s4, fun H5 s5 => ⟨(by show 2 ≤ sizeLine; decide), fun q hq => ?_⟩⟩
        obtain ⟨s6, u6⟩ := laid (.lst [V.bl false, .bl false]) hq
        generalize upd H5 q (.lst [V.bl false, .bl false]) = H6 at s6 u6 ⊢
        obtain ⟨w0, w1, w2, w3, w4⟩ := sh2 false false
        refine ⟨.ref q, _, rfl, dpBB (SqL.of u6), w0, w1, w2, w3, w4, _, rfl, _, rfl, (by show 2 ≤ sizeLine; decide), fun q7 hq7 => ?_⟩
        obtain ⟨s7, u7⟩ := laid (.lst [V.bl false, .bl false]) hq7
        generalize upd H6 q7 (.lst [V.bl false, .bl false]) = H7 at s7 u7 ⊢
        refine ⟨.ref q7, _, rfl, dpBB (SqL.of u7), w0, w1, w2, w3, w4, rfl, false, by simp, iteF ?_⟩
        have s47 := ((s4.trans s5).trans s6).trans s7
        exact ⟨_, rfl, _, rfl, iteF ⟨(ex2).same s47, _, _, _, _, rfl⟩⟩
end
end MN
/-! _law_two_right -/
namespace MN
open PySem PySem.Spec PyProof.Rows L2
theorem dpZ {K : PySem.W.Frag} {H : Hp} : ∀ l : List Int, DpAll K H (l.map V.int) (l.map PyData.int)
  | [] => .nil
  | i :: l => .cons (.int i) (dpZ l)
theorem shZ (l : List Int) : SeqAt.shaped (.tuple (l.map PyData.int)) = true := shapedT fun d hd => by
  obtain ⟨i, _, rfl⟩ := List.mem_map.mp hd
  exact ⟨by rw [PyData.canLay0], by rw [PyData.depth]; omega⟩
theorem inV_false : ∀ bs : List Bool, (!inV (.bl false) (bs.map V.bl)) = bs.all id
  | [] => rfl
  | b :: bs => by
    have ih := inV_false bs
    unfold inV at ih ⊢
    rw [List.map_cons, List.any_cons, List.all_cons, Bool.not_or, ih]
    cases b <;> rfl
theorem flat_bls (bs : List Bool) : (bs.map V.bl).all flatV = true := by
  rw [List.all_map]
  exact List.all_eq_true.mpr fun _ _ => rfl
theorem ixN_of {n k : Nat} (h : k < n) : ixN n (k : Int) = some k := by
  unfold ixN
  simp [h]
def NumL (ns : List Int) : Prop := ∀ n ∈ ns, numI n = true
theorem NumL.row {ns : List Int} (h : NumL ns) (h1 : 1 ≤ ns.length) (h6 : ns.length ≤ 6) : rowB (ns.map V.int) = true := by
  refine rowB_of (by rw [List.length_map]; exact h1) (by rw [List.length_map]; exact h6) ?_
  rw [List.all_map]
  exact List.all_eq_true.mpr fun n hn => h n hn
theorem NumL.set {ns : List Int} {k : Nat} {w : Int} (h : NumL ns) (hw : numI w = true) : NumL (ns.set k w) := fun n hn => by
  rcases List.mem_or_eq_of_mem_set hn with hn | rfl
  · exact h n hn
  · exact hw
theorem NumL.cut {ns : List Int} {l : Int} (h : NumL ns) (h0 : 0 ≤ l) : NumL (ns.map (cutI l)) := fun n hn => by
  obtain ⟨m, hm, rfl⟩ := List.mem_map.mp hn
  exact cutI_num h0 (h m hm)
theorem cut_cut (l : Int) (ns : List Int) : (ns.map (cutI l)).map (cutI l) = ns.map (cutI l) := by
  rw [List.map_map]
  refine List.map_congr_left fun n _ => ?_
  simp only [Function.comp_apply, cutI]
  split
  · rw [if_neg (by omega)]
  · rfl
theorem cut_top {ns : List Int} (h : NumL ns) : ns.map (cutI 9999) = ns := by
  refine (List.map_congr_left fun n hn => ?_).trans (List.map_id _)
  have := h n hn
  simp only [numI, Bool.and_eq_true, decide_eq_true_eq] at this
  unfold cutI
  rw [if_neg (by omega)]
  rfl
theorem above_cut (l : Int) : ∀ ns : List Int, aboveB ns (ns.map (cutI l)) = true
  | [] => rfl
  | n :: ns => by
    have ih := above_cut l ns
    unfold aboveB at ih ⊢
    rw [List.map_cons, List.zip_cons_cons, List.all_cons, ih, Bool.and_true]
    refine decide_eq_true ?_
    show n ≥ cutI l n
    unfold cutI
    split <;> omega
section
variable {P : Program} {w : World} {K : PySem.W.Frag} {mg : Str → Option Value} {base : Heap}
def spTwo : Sp := fun vs H Q _ => ∃ p, vs = [.ref p] ∧ Pot H p ∧ ∀ H', Ex p H H' → Q (.bl true) H'
abbrev N_tw : List Str := ["_law_urn_here", "_law_many", "_law_one", "_law_at", "_law_spot", "_law_other", "_law_due", "_law_left", "_law_right", "_law_told", "_law_limit", "_law_cut", "_law_number"]
theorem sc_tw : FnScope N_tw ["_law_urn_here"] (defScope (top 71)) := ⟨rfl, rfl, rfl, by decide +kernel, rfl, by decide +kernel, by decide +kernel⟩
theorem c_law_two_right (A : At K mg "_law_two_right" (top 71)) (B : Blt mg) (c_law_pull : Cal P w K mg base 1 "_law_pull" spDip) (c_law_from : Cal P w K mg base 2 "_law_from" (spFrom K)) (c_stands_above : Cal P w K mg base 4 "stands_above" (spAbove K)) (c_cut_row : Cal P w K mg base 4 "cut_row" (spCut K)) : CalG P w K mg base 5 "_law_two_right" spTwo := by
  refine calG_of A sc_tw (fun _ _ _ _ _ _ us hl => match us, hl with | [_], _ => rfl) (fun vs H Q E h => ?_) (fun _ cdv A outer s H vs Q E gd hr h => ?_)
  · obtain ⟨_, rfl, _⟩ := h; rfl
  · obtain ⟨p, rfl, hp, hQ⟩ := h
    refine ⟨_, (pss_cons (ps_set (i := 1) sc_tw.nd rfl (Or.inl rfl) (pe_op op_add pe_int (pe_c c_law_pull hr (by decide) (by rfl) (pa_cons (pv 0) (pa_cons pe_int pa_nil)))))
      (pss_cons (ps_set (i := 2) sc_tw.nd rfl (Or.inl rfl) (pe_callTy call_tuple_of (by rfl) B.tuple (by decide +kernel) (pa_cons (pe_lc (own := [("_law_at", 3)]) (g := gName 3) (tt := tYes) (by rfl) sc_tw.nd (pi_range1 (by rfl) B.range (pa_cons (pv 1) pa_nil)) (blkOk_by (own := [("_law_at", 3)]) (N := N_tw) (sc := defScope (top 71)) (by decide +kernel)) (fun _ _ _ _ _ => (pg_name (i := 3) sc_tw.nd rfl (Or.inl rfl))) (fun _ _ _ _ _ => pts_nil) (fun _ _ _ _ _ => (pe_c c_law_from hr (by decide) (by rfl) (pa_cons (pv 0) (pa_cons (pe_lst (pa_cons pe_int (pa_cons pe_int (pa_cons pe_int (pa_cons pe_int (pa_cons pe_int (pa_cons pe_int pa_nil))))))) pa_nil))))) pa_nil)))
      (pss_cons (ps_par (i := 4) (j := 5) (by rfl) sc_tw.nd rfl rfl (by decide) rfl rfl (pa_cons (pe_c c_law_pull hr (by decide) (by rfl) (pa_cons (pv 0) (pa_cons (pv 1) pa_nil))) (pa_cons (pe_callTy call_list_of (by rfl) B.list (by decide +kernel) (pa_cons (pv 2) pa_nil)) pa_nil)) (by rfl))
      (pss_cons (ps_asg (pe_callB (call_min2 rfl) (by rfl) B.min (by decide +kernel) (pa_cons pe_int (pa_cons (pe_callB (call_max2 rfl) (by rfl) B.max (by decide +kernel) (pa_cons pe_int (pa_cons (pe_op op_add (pe_ix ix_list (pv 5) (pv 4) (fun _ _ => rfl)) (pe_c c_law_from hr (by decide) (by rfl) (pa_cons (pv 0) (pa_cons (pe_lst (pa_cons (pe_un un_neg pe_int) (pa_cons pe_int (pa_cons pe_int (pa_cons pe_int pa_nil))))) pa_nil)))) pa_nil))) pa_nil))) (pg_sub (pv 5) (pv 4) set_list))
      (pss_cons (ps_if (pt_cmpR op_eq (pe_c c_law_pull hr (by decide) (by rfl) (pa_cons (pv 0) (pa_cons pe_int pa_nil))) pe_int (nomark _))
        (pss_one (ps_asg (pe_c c_law_from hr (by decide) (by rfl) (pa_cons (pv 0) (pa_cons (pe_lst (pa_cons pe_int (pa_cons pe_int (pa_cons pe_int pa_nil)))) pa_nil))) (pg_sub (pv 5) (pe_c c_law_pull hr (by decide) (by rfl) (pa_cons (pv 0) (pa_cons (pv 1) pa_nil))) set_list)))
        pss_nil)
      (pss_cons (ps_set (i := 6) sc_tw.nd rfl (Or.inl rfl) (pe_lst (pa_cons (pe_lc (own := [("_law_left", 7), ("_law_right", 8)]) (tt := tYes) (by rfl) sc_tw.nd (pi_zipM true false (by rfl) B.zip (pa_cons (pv 2) (pa_cons (pv 5) pa_nil))) (blkOk_by (own := [("_law_left", 7), ("_law_right", 8)]) (N := N_tw) (sc := defScope (top 71)) (by decide +kernel)) (fun _ _ _ _ _ => (pg_tupK (K := K) (n := 2) rfl rfl (pgs_cons (pg_name (i := 7) sc_tw.nd rfl (Or.inl rfl)) (pgs_cons (pg_name (i := 8) sc_tw.nd rfl (Or.inl rfl)) pgs_nil)))) (fun _ _ _ _ _ => pts_nil) (fun _ _ _ _ _ => (pe_cmpR op_ge (pv 7) (pv 8) (nomark _)))) (pa_cons (pe_lc (own := [("_law_left", 7), ("_law_right", 8)]) (tt := tYes) (by rfl) sc_tw.nd (pi_zipM false true (by rfl) B.zip (pa_cons (pv 5) (pa_cons (pv 2) pa_nil))) (blkOk_by (own := [("_law_left", 7), ("_law_right", 8)]) (N := N_tw) (sc := defScope (top 71)) (by decide +kernel)) (fun _ _ _ _ _ => (pg_tupK (K := K) (n := 2) rfl rfl (pgs_cons (pg_name (i := 7) sc_tw.nd rfl (Or.inl rfl)) (pgs_cons (pg_name (i := 8) sc_tw.nd rfl (Or.inl rfl)) pgs_nil)))) (fun _ _ _ _ _ => pts_nil) (fun _ _ _ _ _ => (pe_cmpR op_ge (pv 7) (pv 8) (nomark _)))) pa_nil))))
      (pss_cons (ps_set (i := 9) sc_tw.nd rfl (Or.inl rfl) (pe_lst (pa_cons (pe_c c_stands_above hr (by decide) (by rfl) (pa_cons (pv 2) (pa_cons (pe_callTy call_tuple_of (by rfl) B.tuple (by decide +kernel) (pa_cons (pv 5) pa_nil)) pa_nil))) (pa_cons (pe_c c_stands_above hr (by decide) (by rfl) (pa_cons (pe_callTy call_tuple_of (by rfl) B.tuple (by decide +kernel) (pa_cons (pv 5) pa_nil)) (pa_cons (pv 2) pa_nil))) pa_nil))))
      (pss_cons (ps_if (pt_cmpR op_ne (pe_callB (call_repr gd hr.units) (by rfl) B.repr (by decide +kernel) (pa_cons (pv 9) pa_nil)) (pe_callB (call_repr gd hr.units) (by rfl) B.repr (by decide +kernel) (pa_cons (pe_lst (pa_cons (pe_cmpR op_notIn_seq pe_bl (pe_ix ix_list (pv 6) pe_int (fun _ _ => rfl)) (by rfl)) (pa_cons (pe_cmpR op_notIn_seq pe_bl (pe_ix ix_list (pv 6) pe_int (fun _ _ => rfl)) (by rfl)) pa_nil))) pa_nil)) (nomark _))
        (pss_one (ps_ret pe_bl))
        pss_nil)
      (pss_cons (ps_set (i := 10) sc_tw.nd rfl (Or.inr rfl) (pe_c c_law_from hr (by decide) (by rfl) (pa_cons (pv 0) (pa_cons (pe_lst (pa_cons pe_int (pa_cons pe_int (pa_cons pe_int (pa_cons pe_int (pa_cons pe_int (pa_cons (pe_ix ix_tup (pv 2) (pv 4) (fun _ _ => rfl)) pa_nil))))))) pa_nil))))
      (pss_cons (ps_set (i := 11) sc_tw.nd rfl (Or.inl rfl) (pe_c c_cut_row hr (by decide) (by rfl) (pa_cons (pv 2) (pa_cons (pv 10) pa_nil))))
      (pss_cons (ps_if (PW.pt (pw_or (pt_cmpR (op_neD hr.units) (pv 11) (pe_callTy call_tuple_of (by rfl) B.tuple (by decide +kernel) (pa_cons (pe_lc (own := [("_law_number", 12)]) (g := gName 12) (tt := tYes) (by rfl) sc_tw.nd (pi_tup (pv 2)) (blkOk_by (own := [("_law_number", 12)]) (N := N_tw) (sc := defScope (top 71)) (by decide +kernel)) (fun _ _ _ _ _ => (pg_name (i := 12) sc_tw.nd rfl (Or.inl rfl))) (fun _ _ _ _ _ => pts_nil) (fun _ _ _ _ _ => (pe_callB (call_min2 rfl) (by rfl) B.min (by decide +kernel) (pa_cons (pv 12) (pa_cons (pv 10) pa_nil))))) pa_nil)) (nomark _)) (pw_or1 (pt_not (pt_val (pe_callB call_isS (by rfl) B.isinstance (by decide +kernel) (pa_cons (pv 11) (pa_cons (pe_bltn (v := .ty "tuple") (by rfl) B.tuple (by decide +kernel) rfl) pa_nil))))))))
        (pss_one (ps_ret pe_bl))
        pss_nil)
      (pss_one (ps_ret (pe_and (pe_cmpR (op_eqD hr.units) (pe_c c_cut_row hr (by decide) (by rfl) (pa_cons (pv 11) (pa_cons (pv 10) pa_nil))) (pv 11) (nomark _)) (pe_and (pe_c c_stands_above hr (by decide) (by rfl) (pa_cons (pv 2) (pa_cons (pv 11) pa_nil))) (pe_one (pe_cmpR (op_eqD hr.units) (pe_c c_cut_row hr (by decide) (by rfl) (pa_cons (pv 2) (pa_cons pe_int pa_nil))) (pv 2) (nomark _)))))))))))))))))), ?_⟩
    obtain ⟨pa, pb, pc, hp0⟩ := hp
    have hp : Pot H p := ⟨pa, pb, pc, hp0⟩
    refine ⟨_, rfl, p, _, pa, pb, pc, rfl, hp0, by decide, by decide, fun r a' b' c' r0 r1 => ?_⟩
    obtain ⟨c, rfl⟩ : ∃ c : Nat, r = c := ⟨r.toNat, by omega⟩
    have ex1 : Ex p H (upd H p (potO a' b' c')) := Ex.turn
    generalize upd H p (potO a' b' c') = H1 at ex1 ⊢
    refine ⟨_, _, rfl, rfl, ?_⟩
    refine ⟨_, rfl, _, rfl, by omega, by omega, fun D hD => ?_⟩
    have hD0 : H D = none := ex1.free hp hD
    have hDp : D ≠ p := (ne_of_none hp0 hD0).symm
    refine lc_it (walk_range (lo := 0)) (fun i H' => Ex p H H' ∧ ∃ ns : List Int, ns.length = i ∧ NumL ns ∧ H' D = some (.lst (ns.map V.int))) ⟨ex1.put hD0 hDp, [], rfl, (fun n hn => nomatch hn), upd_same⟩ (fun _ _ _ _ => trivial) (fun i x H2 H2' hi e y => ?_) (fun H2 e => ?_)
    · obtain ⟨rfl, rfl⟩ := y
      obtain ⟨ex, ns, hn, hN, hD1⟩ := e
      refine ⟨rfl, yes_q (iteT ⟨_, rfl, (by show 6 ≤ sizeLine; decide), fun q hq => ?_⟩)⟩
      obtain ⟨a, b, c3, hp1⟩ := ex.pot
      have qp : q ≠ p := (ne_of_none hp1 hq).symm
      have ex2 := ex.new (o := .lst [V.int 0, V.int 1, V.int 2, V.int 3, V.int 9999, V.int 9998]) hq
      have hD2 := same_new (o := .lst [V.int 0, V.int 1, V.int 2, V.int 3, V.int 9999, V.int 9998]) hq _ _ hD1
      refine ⟨p, q, _, rfl, ex2.pot, qp, SqL.of upd_same, (by show 0 < 6; decide), (by show 6 < 100000; decide), fun v x y z hv => ?_⟩
      obtain ⟨m, rfl, hm⟩ : ∃ m : Int, v = .int m ∧ numI m = true := by
        simp only [List.mem_cons, List.not_mem_nil, or_false] at hv
        rcases hv with rfl | rfl | rfl | rfl | rfl | rfl <;> exact ⟨_, rfl, by decide⟩
      refine ⟨ns.map V.int, by rw [upd_ne hDp]; exact hD2, ?_, (ex2.trans Ex.turn).put hD0 hDp, ns ++ [m], by rw [List.length_append, hn]; rfl, fun k hk => ?_, by rw [upd_same, List.map_append]; rfl⟩
      · have : 100000 < sizeLine := by decide
        rw [List.length_map]
        simp at hi
        omega
      · rcases List.mem_append.mp hk with hk | hk
        · exact hN k hk
        · rw [List.mem_singleton.mp hk]
          exact hm
    obtain ⟨ex2, ns, hn, hN, hD2⟩ := e
    have hn' : ns.length = c + 1 := by rw [hn]; omega
    refine ⟨D, _, rfl, .inl ⟨SqL.of hD2, fun T hT => ?_⟩⟩
    obtain ⟨x2, y2, z2, hp2⟩ := ex2.pot
    have Tp : T ≠ p := (ne_of_none hp2 hT).symm
    have ex3 := ex2.new (o := .tup (ns.map V.int)) hT
    obtain ⟨s3, u3⟩ := laid (.tup (ns.map V.int)) hT
    generalize upd H2 T (.tup (ns.map V.int)) = H3 at ex3 s3 u3 ⊢
    obtain ⟨x3, y3, z3, hp3⟩ := ex3.pot
    refine ⟨_, rfl, _, rfl, p, _, x3, y3, z3, rfl, hp3, by omega, by omega, fun r4 a' b' c' r40 r41 => ?_⟩
    obtain ⟨sp, rfl⟩ : ∃ c : Nat, r4 = c := ⟨r4.toNat, by omega⟩
    have u4 : upd H3 p (potO a' b' c') T = some (.tup (ns.map V.int)) := by rw [upd_ne Tp]; exact u3
    have ex4 := ex3.trans (Ex.turn (a := a') (b := b') (c := c'))
    generalize upd H3 p (potO a' b' c') = H4 at u4 ex4 ⊢
    refine ⟨_, rfl, T, _, rfl, .inr (.inl (.inl u4)), fun O hO => ?_⟩
    obtain ⟨x4, y4, z4, hp4⟩ := ex4.pot
    have Op : O ≠ p := (ne_of_none hp4 hO).symm
    have hO0 : H O = none := ex4.free hp hO
    have ex5 := ex4.new (o := .lst (ns.map V.int)) hO
    obtain ⟨s5, u5⟩ := laid (.lst (ns.map V.int)) hO
    have T5 := s5 _ _ u4
    have TO : T ≠ O := fun e => by rw [e, hO] at u4; cases u4
    generalize upd H4 O (.lst (ns.map V.int)) = H5 at ex5 s5 u5 T5 ⊢
    refine ⟨_, _, rfl, ?_⟩
    have spl : sp < ns.length := by omega
    have a5 : atI (ns.map V.int) (sp : Int) = some (.int ns[sp]) := atI_nat (by rw [List.getElem?_map, List.getElem?_eq_getElem spl]; rfl)
    refine ⟨_, rfl, _, rfl, O, _, _, _, rfl, rfl, SqL.of u5, a5, _, rfl, _, rfl, (by show 4 ≤ sizeLine; decide), fun q6 h6 => ?_⟩
    obtain ⟨x5, y5, z5, hp5⟩ := ex5.pot
    have q6p : q6 ≠ p := (ne_of_none hp5 h6).symm
    obtain ⟨s6, u6⟩ := laid (.lst [(fun (i : Int) => V.int (-i)) 1, V.int 0, V.int 1, V.int 1]) h6
    have ex6 := ex5.same s6
    generalize upd H5 q6 (.lst [(fun (i : Int) => V.int (-i)) 1, V.int 0, V.int 1, V.int 1]) = H6 at s6 u6 ex6 ⊢
    refine ⟨p, q6, _, rfl, ex6.pot, q6p, SqL.of u6, (by show 0 < 4; decide), (by show 4 < 100000; decide), fun v x y z hv => ?_⟩
    obtain ⟨m, rfl⟩ : ∃ m : Int, v = .int m := by
      simp only [List.mem_cons, List.not_mem_nil, or_false] at hv
      rcases hv with rfl | rfl | rfl | rfl <;> exact ⟨_, rfl⟩
    have O7 : upd H6 p (potO x y z) O = some (.lst (ns.map V.int)) := by rw [upd_ne Op]; exact s6 _ _ u5
    have T7 : upd H6 p (potO x y z) T = some (.tup (ns.map V.int)) := by rw [upd_ne Tp]; exact s6 _ _ T5
    have ex7 := ex6.trans (Ex.turn (a := x) (b := y) (c := z))
    generalize upd H6 p (potO x y z) = H7 at O7 T7 ex7 ⊢
    refine ⟨_, _, rfl, rfl, _, _, rfl, _, _, rfl, _, rfl, _, rfl, O, _, _, sp, rfl, rfl, O7, ixN_of (by rw [List.length_map]; omega), ?_⟩
    obtain ⟨wv, hw, ew⟩ : ∃ wv : Int, numI wv = true ∧ wv = (if (if ns[sp] + m > 0 then ns[sp] + m else 0) < 9999 then (if ns[sp] + m > 0 then ns[sp] + m else 0) else 9999) := by
      refine ⟨_, ?_, rfl⟩
      simp only [numI, Bool.and_eq_true, decide_eq_true_eq]
      split <;> split <;> omega
    rw [← ew]
    clear ew
    have es : (ns.map V.int).set sp (.int wv) = (ns.set sp wv).map V.int := (List.map_set ..).symm
    rw [es]
    have hos := hN.set (k := sp) hw
    have osl : (ns.set sp wv).length = ns.length := List.length_set ..
    generalize ns.set sp wv = os at hos osl ⊢
    have ex8 := ex7.put (o := .lst (os.map V.int)) hO0 Op
    have u8 : upd H7 O (.lst (os.map V.int)) O = some (.lst (os.map V.int)) := upd_same
    have T8 : upd H7 O (.lst (os.map V.int)) T = some (.tup (ns.map V.int)) := by rw [upd_ne TO]; exact T7
    generalize upd H7 O (.lst (os.map V.int)) = H8 at ex8 u8 T8 ⊢
    obtain ⟨x8, y8, z8, hp8⟩ := ex8.pot
    refine ⟨_, rfl, p, _, x8, y8, z8, rfl, hp8, by decide, by decide, fun r9 x9 y9 z9 _ _ => ⟨rfl, _, rfl, ?_⟩⟩
    have uX : upd H8 p (potO x9 y9 z9) O = some (.lst (os.map V.int)) := by rw [upd_ne Op]; exact u8
    have TX : upd H8 p (potO x9 y9 z9) T = some (.tup (ns.map V.int)) := by rw [upd_ne Tp]; exact T8
    have exX := ex8.trans (Ex.turn (a := x9) (b := y9) (c := z9))
    generalize upd H8 p (potO x9 y9 z9) = HX at uX TX exX ⊢
    refine ite2 (fun _ => ?_) (fun _ => ?_)
    · refine ⟨_, rfl, (by show 3 ≤ sizeLine; decide), fun qy hy => ?_⟩
      obtain ⟨x9, y9, z9, hp9⟩ := exX.pot
      have qyp : qy ≠ p := (ne_of_none hp9 hy).symm
      obtain ⟨sy, uy⟩ := laid (.lst [V.int 0, V.int 1, V.int 9999]) hy
      have exy := exX.same sy
      generalize upd HX qy (.lst [V.int 0, V.int 1, V.int 9999]) = Hy at sy uy exy ⊢
      refine ⟨p, qy, _, rfl, exy.pot, qyp, SqL.of uy, (by show 0 < 3; decide), (by show 3 < 100000; decide), fun v x y z hv => ?_⟩
      obtain ⟨m2, rfl, hm2⟩ : ∃ m : Int, v = .int m ∧ numI m = true := by
        simp only [List.mem_cons, List.not_mem_nil, or_false] at hv
        rcases hv with rfl | rfl | rfl <;> exact ⟨_, rfl, by decide⟩
      have uz : upd Hy p (potO x y z) O = some (.lst (os.map V.int)) := by rw [upd_ne Op]; exact sy _ _ uX
      have Tz : upd Hy p (potO x y z) T = some (.tup (ns.map V.int)) := by rw [upd_ne Tp]; exact sy _ _ TX
      have exz := exy.trans (Ex.turn (a := x) (b := y) (c := z))
      generalize upd Hy p (potO x y z) = Hz at uz Tz exz ⊢
      obtain ⟨xz, yz, zz, hpz⟩ := exz.pot
      refine ⟨_, rfl, _, rfl, _, rfl, p, _, xz, yz, zz, rfl, hpz, by omega, by omega, fun rt x y z rt0 rt1 => ?_⟩
      have uz2 : upd Hz p (potO x y z) O = some (.lst (os.map V.int)) := by rw [upd_ne Op]; exact uz
      have Tz2 : upd Hz p (potO x y z) T = some (.tup (ns.map V.int)) := by rw [upd_ne Tp]; exact Tz
      have exz2 := exz.trans (Ex.turn (a := x) (b := y) (c := z))
      generalize upd Hz p (potO x y z) = Hz2 at uz2 Tz2 exz2 ⊢
      obtain ⟨rt, rfl⟩ : ∃ t : Nat, rt = t := ⟨rt.toNat, by omega⟩
      refine ⟨O, _, _, rt, rfl, rfl, uz2, ixN_of (by rw [List.length_map]; omega), ?_⟩
      have es2 : (os.map V.int).set rt (.int m2) = (os.set rt m2).map V.int := (List.map_set ..).symm
      rw [es2]
      have hos2 := hos.set (k := rt) hm2
      have osl2 : (os.set rt m2).length = ns.length := (List.length_set ..).trans osl
      clear hos osl uX TX exX u8 T8 ex8 uz Tz exz exy
      generalize os.set rt m2 = os at hos2 osl2 ⊢
      have hos := hos2
      have osl := osl2
      have exX := exz2.put (o := .lst (os.map V.int)) hO0 Op
      have uX : upd Hz2 O (.lst (os.map V.int)) O = some (.lst (os.map V.int)) := upd_same
      have TX : upd Hz2 O (.lst (os.map V.int)) T = some (.tup (ns.map V.int)) := by rw [upd_ne TO]; exact Tz2
      generalize upd Hz2 O (.lst (os.map V.int)) = HX at exX uX TX ⊢
      -- due
      have TS : SqT K HX T (ns.map V.int) := .inl (.inl TX)
      have OS : SqL K HX O (os.map V.int) := SqL.of uX
      refine ⟨_, rfl, _, rfl, T, O, _, _, rfl, TS, OS, fun Da hDa => lc_zipM (ba := true) (bb := false) TS OS (by rw [List.length_map]; omega) hDa (fun _ => true) geV (fun p _ => rfl) (fun p _ H3 _ Q q => q) (fun p hp _ H3 e3 Q q => ?_) (fun Ha sa ua => ?_)⟩
      · rw [List.zip_map] at hp
        obtain ⟨q0, _, rfl⟩ := List.mem_map.mp hp
        exact ⟨_, rfl, _, rfl, _, _, rfl, rfl, q _ (Same.refl _)⟩
      rw [aboveV] at ua
      refine ⟨_, rfl, _, rfl, O, T, _, _, rfl, Same.seq sa OS, Same.seqT sa TS, fun Db hDb => lc_zipM (ba := false) (bb := true) (Same.seq sa OS) (Same.seqT sa TS) (by rw [List.length_map]; omega) hDb (fun _ => true) geV (fun p _ => rfl) (fun p _ H3 _ Q q => q) (fun p hp _ H3 e3 Q q => ?_) (fun Hb sb ub => ?_)⟩
      · rw [List.zip_map] at hp
        obtain ⟨q0, _, rfl⟩ := List.mem_map.mp hp
        exact ⟨_, rfl, _, rfl, _, _, rfl, rfl, q _ (Same.refl _)⟩
      rw [aboveV] at ub
      refine ⟨(by show 2 ≤ sizeLine; decide), fun Dd hDd => ?_⟩
      obtain ⟨sd, ud⟩ := laid (.lst [V.ref Da, .ref Db]) hDd
      generalize upd Hb Dd (.lst [V.ref Da, .ref Db]) = Hd at sd ud ⊢
      have sXd := (sa.trans sb).trans sd
      -- told
      have Od := sXd _ _ uX
      refine ⟨_, rfl, _, rfl, O, _, rfl, .inl ⟨SqL.of Od, fun t1 ht1 => ?_⟩⟩
      obtain ⟨se, ue⟩ := laid (.tup (os.map V.int)) ht1
      generalize upd Hd t1 (.tup (os.map V.int)) = He at se ue ⊢
      have sXe := sXd.trans se
      refine ⟨T, t1, ns, os, rfl, Same.seqT sXe TS, .inl (.inl ue), hN.row (by omega) (by omega), hos.row (by omega) (by omega), by omega, fun Hf sf => ?_⟩
      have sXf := sXe.trans sf
      refine ⟨_, rfl, O, _, rfl, .inl ⟨SqL.of (sXf _ _ uX), fun t2 ht2 => ?_⟩⟩
      obtain ⟨sg, ug⟩ := laid (.tup (os.map V.int)) ht2
      generalize upd Hf t2 (.tup (os.map V.int)) = Hg at sg ug ⊢
      have sXg := sXf.trans sg
      refine ⟨_, rfl, t2, T, os, ns, rfl, .inl (.inl ug), Same.seqT sXg TS, hos.row (by omega) (by omega), hN.row (by omega) (by omega), by omega, fun Hh sh => ?_⟩
      have sXh := sXg.trans sh
      refine ⟨(by show 2 ≤ sizeLine; decide), fun Dt hDt => ?_⟩
      obtain ⟨si, ui⟩ := laid (.lst [V.bl (aboveB ns os), .bl (aboveB os ns)]) hDt
      generalize upd Hh Dt (.lst [V.bl (aboveB ns os), .bl (aboveB os ns)]) = Hi at si ui ⊢
      have sXi := sXh.trans si
      have sdi := (((se.trans sf).trans sg).trans sh).trans si
      obtain ⟨w0, w1, w2, w3, w4⟩ := sh2 (aboveB ns os) (aboveB os ns)
      have da := (sb.trans sd).trans sdi _ _ ua
      have db := sd.trans sdi _ _ ub
      have dd := sdi _ _ ud
      refine ⟨_, rfl, .ref Dt, _, rfl, dpBB (SqL.of ui), w0, w1, w2, w3, w4, _, rfl, Dd, _, _, _, rfl, rfl, SqL.of dd, rfl, Da, _, rfl, .inl (SqL.of da), rfl, flat_bls _, _, rfl, Dd, _, _, _, rfl, rfl, SqL.of dd, rfl, Db, _, rfl, .inl (SqL.of db), rfl, flat_bls _, (by show 2 ≤ sizeLine; decide), fun Du hDu => ?_⟩
      have e1 : (if true = true then !inV (.bl false) (((ns.zip os).map fun p => decide (p.1 ≥ p.2)).map V.bl) else inV (.bl false) (((ns.zip os).map fun p => decide (p.1 ≥ p.2)).map V.bl)) = aboveB ns os := by
        rw [if_pos rfl, inV_false]
        simp [aboveB, List.all_map, Function.comp_def]
      have e2 : (if true = true then !inV (.bl false) (((os.zip ns).map fun p => decide (p.1 ≥ p.2)).map V.bl) else inV (.bl false) (((os.zip ns).map fun p => decide (p.1 ≥ p.2)).map V.bl)) = aboveB os ns := by
        rw [if_pos rfl, inV_false]
        simp [aboveB, List.all_map, Function.comp_def]
      rw [e1, e2]
      obtain ⟨sj, uj⟩ := laid (.lst [V.bl (aboveB ns os), .bl (aboveB os ns)]) hDu
      generalize upd Hi Du (.lst [V.bl (aboveB ns os), .bl (aboveB os ns)]) = Hj at sj uj ⊢
      refine ⟨.ref Du, _, rfl, dpBB (SqL.of uj), w0, w1, w2, w3, w4, rfl, false, by simp, iteF ?_⟩
      have sXj := sXi.trans sj
      have exj := exX.same sXj
      have Tj := sXj _ _ TX
      -- limit
      have a6 : atI (ns.map V.int) (sp : Int) = some (.int ns[sp]) := a5
      refine ⟨_, rfl, _, rfl, _, rfl, T, _, _, _, rfl, rfl, .inl (.inl Tj), a6, (by show 6 ≤ sizeLine; decide), fun qk hk => ?_⟩
      obtain ⟨xj, yj, zj, hpj⟩ := exj.pot
      have qkp : qk ≠ p := (ne_of_none hpj hk).symm
      obtain ⟨sk, uk⟩ := laid (.lst [V.int 0, V.int 1, V.int 2, V.int 9999, V.int 9998, V.int ns[sp]]) hk
      have exk := exj.same sk
      generalize upd Hj qk (.lst [V.int 0, V.int 1, V.int 2, V.int 9999, V.int 9998, V.int ns[sp]]) = Hk at sk uk exk ⊢
      refine ⟨p, qk, _, rfl, exk.pot, qkp, SqL.of uk, (by show 0 < 6; decide), (by show 6 < 100000; decide), fun v x y z hv => ?_⟩
      obtain ⟨l, rfl, hlim⟩ : ∃ m : Int, v = .int m ∧ numI m = true := by
        simp only [List.mem_cons, List.not_mem_nil, or_false] at hv
        rcases hv with rfl | rfl | rfl | rfl | rfl | rfl
        · exact ⟨_, rfl, by decide⟩
        · exact ⟨_, rfl, by decide⟩
        · exact ⟨_, rfl, by decide⟩
        · exact ⟨_, rfl, by decide⟩
        · exact ⟨_, rfl, by decide⟩
        · exact ⟨_, rfl, hN _ (List.getElem_mem spl)⟩
      have hl2 : 0 ≤ l ∧ l < 10000 := by
        simp only [numI, Bool.and_eq_true, decide_eq_true_eq] at hlim
        exact hlim
      have Tl : upd Hk p (potO x y z) T = some (.tup (ns.map V.int)) := by rw [upd_ne Tp]; exact sk _ _ Tj
      have exl := exk.trans (Ex.turn (a := x) (b := y) (c := z))
      generalize upd Hk p (potO x y z) = Hl at Tl exl ⊢
      -- cut
      have rN := hN.row (by omega) (by omega)
      refine ⟨_, rfl, _, rfl, T, ns, l, rfl, .inl (.inl Tl), rN, hl2.1, by omega, fun qc Hm _ sm um => ?_⟩
      have Tm : SqT K Hm T (ns.map V.int) := .inl (.inl (sm _ _ Tl))
      refine ⟨_, rfl, _, rfl, T, rfl, ⟨_, Tm⟩, fun Dn hDn => lc_tpl Tm hDn (by rw [List.length_map]; omega) (fun _ => true) (cutV1 l) (fun x _ => rfl) (fun x _ acc Q q => q) (fun x hx _ acc Q q => ?_) ?_⟩
      · obtain ⟨n, hn, rfl⟩ := List.mem_map.mp hx
        exact ⟨_, rfl, _, rfl, n, l, rfl, q⟩
      obtain ⟨sn, un⟩ := laid (.lst (((ns.map V.int).filter fun _ => true).map (cutV1 l))) hDn
      generalize upd Hm Dn (.lst (((ns.map V.int).filter fun _ => true).map (cutV1 l))) = Hn at sn un ⊢
      have ec : ((ns.map V.int).filter fun _ => true).map (cutV1 l) = (ns.map (cutI l)).map V.int := by
        rw [filter_all, List.map_map, List.map_map]
        rfl
      rw [ec] at un
      refine ⟨Dn, _, rfl, .inl ⟨SqL.of un, fun to hto => ?_⟩⟩
      obtain ⟨so, uo⟩ := laid (.tup ((ns.map (cutI l)).map V.int)) hto
      generalize upd Hn to (.tup ((ns.map (cutI l)).map V.int)) = Ho at so uo ⊢
      have cO := so _ _ (sn _ _ um)
      have shc := shZ (ns.map (cutI l))
      refine ⟨_, _, .tup (.inl (.inl cO)) (dpZ _), .tup (.inl (.inl uo)) (dpZ _), shc, shc, _, rfl, ?_⟩
      rw [eqv_self shc]
      refine iteF ⟨_, rfl, _, _, true, rfl, .ty (.base (.tup cO)) (by decide +kernel), _, rfl, iteF ?_⟩
      -- return
      have rC := (hN.cut hl2.1).row (by rw [List.length_map]; omega) (by rw [List.length_map]; omega)
      refine ⟨_, rfl, _, rfl, qc, _, l, rfl, .inl (.inl cO), rC, hl2.1, by omega, fun qp Hp _ sp' up => ?_⟩
      rw [cut_cut] at up
      refine ⟨_, rfl, _, _, .tup (.inl (.inl up)) (dpZ _), .tup (.inl (.inl (sp' _ _ cO))) (dpZ _), shc, shc, _, rfl, ?_⟩
      rw [eqv_self shc]
      have To := so _ _ (sn _ _ (sm _ _ Tl))
      refine iteT ⟨_, rfl, _, rfl, T, qc, ns, _, rfl, .inl (.inl (sp' _ _ To)), .inl (.inl (sp' _ _ cO)), rN, rC, by rw [List.length_map], fun Hq sq => ⟨_, rfl, ?_⟩⟩
      rw [above_cut]
      refine iteT ⟨_, rfl, T, ns, 9999, rfl, .inl (.inl (sq _ _ (sp' _ _ To))), rN, by decide, by decide, fun qr Hr _ sr ur => ?_⟩
      rw [cut_top hN] at ur
      refine ⟨_, rfl, _, _, .tup (.inl (.inl ur)) (dpZ _), .tup (.inl (.inl (sr _ _ (sq _ _ (sp' _ _ To))))) (dpZ _), shZ ns, shZ ns, ?_⟩
      rw [eqv_self (shZ ns)]
      exact hQ _ ((((((exl.same sm).same sn).same so).same sp').same sq).same sr)
    · -- due
      have TS : SqT K HX T (ns.map V.int) := .inl (.inl TX)
      have OS : SqL K HX O (os.map V.int) := SqL.of uX
      refine ⟨_, rfl, _, rfl, T, O, _, _, rfl, TS, OS, fun Da hDa => lc_zipM (ba := true) (bb := false) TS OS (by rw [List.length_map]; omega) hDa (fun _ => true) geV (fun p _ => rfl) (fun p _ H3 _ Q q => q) (fun p hp _ H3 e3 Q q => ?_) (fun Ha sa ua => ?_)⟩
      · rw [List.zip_map] at hp
        obtain ⟨q0, _, rfl⟩ := List.mem_map.mp hp
        exact ⟨_, rfl, _, rfl, _, _, rfl, rfl, q _ (Same.refl _)⟩
      rw [aboveV] at ua
      refine ⟨_, rfl, _, rfl, O, T, _, _, rfl, Same.seq sa OS, Same.seqT sa TS, fun Db hDb => lc_zipM (ba := false) (bb := true) (Same.seq sa OS) (Same.seqT sa TS) (by rw [List.length_map]; omega) hDb (fun _ => true) geV (fun p _ => rfl) (fun p _ H3 _ Q q => q) (fun p hp _ H3 e3 Q q => ?_) (fun Hb sb ub => ?_)⟩
      · rw [List.zip_map] at hp
        obtain ⟨q0, _, rfl⟩ := List.mem_map.mp hp
        exact ⟨_, rfl, _, rfl, _, _, rfl, rfl, q _ (Same.refl _)⟩
      rw [aboveV] at ub
      refine ⟨(by show 2 ≤ sizeLine; decide), fun Dd hDd => ?_⟩
      obtain ⟨sd, ud⟩ := laid (.lst [V.ref Da, .ref Db]) hDd
      generalize upd Hb Dd (.lst [V.ref Da, .ref Db]) = Hd at sd ud ⊢
      have sXd := (sa.trans sb).trans sd
      -- told
      have Od := sXd _ _ uX
      refine ⟨_, rfl, _, rfl, O, _, rfl, .inl ⟨SqL.of Od, fun t1 ht1 => ?_⟩⟩
      obtain ⟨se, ue⟩ := laid (.tup (os.map V.int)) ht1
      generalize upd Hd t1 (.tup (os.map V.int)) = He at se ue ⊢
      have sXe := sXd.trans se
      refine ⟨T, t1, ns, os, rfl, Same.seqT sXe TS, .inl (.inl ue), hN.row (by omega) (by omega), hos.row (by omega) (by omega), by omega, fun Hf sf => ?_⟩
      have sXf := sXe.trans sf
      refine ⟨_, rfl, O, _, rfl, .inl ⟨SqL.of (sXf _ _ uX), fun t2 ht2 => ?_⟩⟩
      obtain ⟨sg, ug⟩ := laid (.tup (os.map V.int)) ht2
      generalize upd Hf t2 (.tup (os.map V.int)) = Hg at sg ug ⊢
      have sXg := sXf.trans sg
      refine ⟨_, rfl, t2, T, os, ns, rfl, .inl (.inl ug), Same.seqT sXg TS, hos.row (by omega) (by omega), hN.row (by omega) (by omega), by omega, fun Hh sh => ?_⟩
      have sXh := sXg.trans sh
      refine ⟨(by show 2 ≤ sizeLine; decide), fun Dt hDt => ?_⟩
      obtain ⟨si, ui⟩ := laid (.lst [V.bl (aboveB ns os), .bl (aboveB os ns)]) hDt
      generalize upd Hh Dt (.lst [V.bl (aboveB ns os), .bl (aboveB os ns)]) = Hi at si ui ⊢
      have sXi := sXh.trans si
      have sdi := (((se.trans sf).trans sg).trans sh).trans si
      obtain ⟨w0, w1, w2, w3, w4⟩ := sh2 (aboveB ns os) (aboveB os ns)
      have da := (sb.trans sd).trans sdi _ _ ua
      have db := sd.trans sdi _ _ ub
      have dd := sdi _ _ ud
      refine ⟨_, rfl, .ref Dt, _, rfl, dpBB (SqL.of ui), w0, w1, w2, w3, w4, _, rfl, Dd, _, _, _, rfl, rfl, SqL.of dd, rfl, Da, _, rfl, .inl (SqL.of da), rfl, flat_bls _, _, rfl, Dd, _, _, _, rfl, rfl, SqL.of dd, rfl, Db, _, rfl, .inl (SqL.of db), rfl, flat_bls _, (by show 2 ≤ sizeLine; decide), fun Du hDu => ?_⟩
      have e1 : (if true = true then !inV (.bl false) (((ns.zip os).map fun p => decide (p.1 ≥ p.2)).map V.bl) else inV (.bl false) (((ns.zip os).map fun p => decide (p.1 ≥ p.2)).map V.bl)) = aboveB ns os := by
        rw [if_pos rfl, inV_false]
        simp [aboveB, List.all_map, Function.comp_def]
      have e2 : (if true = true then !inV (.bl false) (((os.zip ns).map fun p => decide (p.1 ≥ p.2)).map V.bl) else inV (.bl false) (((os.zip ns).map fun p => decide (p.1 ≥ p.2)).map V.bl)) = aboveB os ns := by
        rw [if_pos rfl, inV_false]
        simp [aboveB, List.all_map, Function.comp_def]
      rw [e1, e2]
      obtain ⟨sj, uj⟩ := laid (.lst [V.bl (aboveB ns os), .bl (aboveB os ns)]) hDu
      generalize upd Hi Du (.lst [V.bl (aboveB ns os), .bl (aboveB os ns)]) = Hj at sj uj ⊢
      refine ⟨.ref Du, _, rfl, dpBB (SqL.of uj), w0, w1, w2, w3, w4, rfl, false, by simp, iteF ?_⟩
      have sXj := sXi.trans sj
      have exj := exX.same sXj
      have Tj := sXj _ _ TX
      -- limit
      have a6 : atI (ns.map V.int) (sp : Int) = some (.int ns[sp]) := a5
      refine ⟨_, rfl, _, rfl, _, rfl, T, _, _, _, rfl, rfl, .inl (.inl Tj), a6, (by show 6 ≤ sizeLine; decide), fun qk hk => ?_⟩
      obtain ⟨xj, yj, zj, hpj⟩ := exj.pot
      have qkp : qk ≠ p := (ne_of_none hpj hk).symm
      obtain ⟨sk, uk⟩ := laid (.lst [V.int 0, V.int 1, V.int 2, V.int 9999, V.int 9998, V.int ns[sp]]) hk
      have exk := exj.same sk
      generalize upd Hj qk (.lst [V.int 0, V.int 1, V.int 2, V.int 9999, V.int 9998, V.int ns[sp]]) = Hk at sk uk exk ⊢
      refine ⟨p, qk, _, rfl, exk.pot, qkp, SqL.of uk, (by show 0 < 6; decide), (by show 6 < 100000; decide), fun v x y z hv => ?_⟩
      obtain ⟨l, rfl, hlim⟩ : ∃ m : Int, v = .int m ∧ numI m = true := by
        simp only [List.mem_cons, List.not_mem_nil, or_false] at hv
        rcases hv with rfl | rfl | rfl | rfl | rfl | rfl
        · exact ⟨_, rfl, by decide⟩
        · exact ⟨_, rfl, by decide⟩
        · exact ⟨_, rfl, by decide⟩
        · exact ⟨_, rfl, by decide⟩
        · exact ⟨_, rfl, by decide⟩
        · exact ⟨_, rfl, hN _ (List.getElem_mem spl)⟩
      have hl2 : 0 ≤ l ∧ l < 10000 := by
        simp only [numI, Bool.and_eq_true, decide_eq_true_eq] at hlim
        exact hlim
      have Tl : upd Hk p (potO x y z) T = some (.tup (ns.map V.int)) := by rw [upd_ne Tp]; exact sk _ _ Tj
      have exl := exk.trans (Ex.turn (a := x) (b := y) (c := z))
      generalize upd Hk p (potO x y z) = Hl at Tl exl ⊢
      -- cut
      have rN := hN.row (by omega) (by omega)
      refine ⟨_, rfl, _, rfl, T, ns, l, rfl, .inl (.inl Tl), rN, hl2.1, by omega, fun qc Hm _ sm um => ?_⟩
      have Tm : SqT K Hm T (ns.map V.int) := .inl (.inl (sm _ _ Tl))
      refine ⟨_, rfl, _, rfl, T, rfl, ⟨_, Tm⟩, fun Dn hDn => lc_tpl Tm hDn (by rw [List.length_map]; omega) (fun _ => true) (cutV1 l) (fun x _ => rfl) (fun x _ acc Q q => q) (fun x hx _ acc Q q => ?_) ?_⟩
      · obtain ⟨n, hn, rfl⟩ := List.mem_map.mp hx
        exact ⟨_, rfl, _, rfl, n, l, rfl, q⟩
      obtain ⟨sn, un⟩ := laid (.lst (((ns.map V.int).filter fun _ => true).map (cutV1 l))) hDn
      generalize upd Hm Dn (.lst (((ns.map V.int).filter fun _ => true).map (cutV1 l))) = Hn at sn un ⊢
      have ec : ((ns.map V.int).filter fun _ => true).map (cutV1 l) = (ns.map (cutI l)).map V.int := by
        rw [filter_all, List.map_map, List.map_map]
        rfl
      rw [ec] at un
      refine ⟨Dn, _, rfl, .inl ⟨SqL.of un, fun to hto => ?_⟩⟩
      obtain ⟨so, uo⟩ := laid (.tup ((ns.map (cutI l)).map V.int)) hto
      generalize upd Hn to (.tup ((ns.map (cutI l)).map V.int)) = Ho at so uo ⊢
      have cO := so _ _ (sn _ _ um)
      have shc := shZ (ns.map (cutI l))
      refine ⟨_, _, .tup (.inl (.inl cO)) (dpZ _), .tup (.inl (.inl uo)) (dpZ _), shc, shc, _, rfl, ?_⟩
      rw [eqv_self shc]
      refine iteF ⟨_, rfl, _, _, true, rfl, .ty (.base (.tup cO)) (by decide +kernel), _, rfl, iteF ?_⟩
      -- return
      have rC := (hN.cut hl2.1).row (by rw [List.length_map]; omega) (by rw [List.length_map]; omega)
      refine ⟨_, rfl, _, rfl, qc, _, l, rfl, .inl (.inl cO), rC, hl2.1, by omega, fun qp Hp _ sp' up => ?_⟩
      rw [cut_cut] at up
      refine ⟨_, rfl, _, _, .tup (.inl (.inl up)) (dpZ _), .tup (.inl (.inl (sp' _ _ cO))) (dpZ _), shc, shc, _, rfl, ?_⟩
      rw [eqv_self shc]
      have To := so _ _ (sn _ _ (sm _ _ Tl))
      refine iteT ⟨_, rfl, _, rfl, T, qc, ns, _, rfl, .inl (.inl (sp' _ _ To)), .inl (.inl (sp' _ _ cO)), rN, rC, by rw [List.length_map], fun Hq sq => ⟨_, rfl, ?_⟩⟩
      rw [above_cut]
      refine iteT ⟨_, rfl, T, ns, 9999, rfl, .inl (.inl (sq _ _ (sp' _ _ To))), rN, by decide, by decide, fun qr Hr _ sr ur => ?_⟩
      rw [cut_top hN] at ur
      refine ⟨_, rfl, _, _, .tup (.inl (.inl ur)) (dpZ _), .tup (.inl (.inl (sr _ _ (sq _ _ (sp' _ _ To))))) (dpZ _), shZ ns, shZ ns, ?_⟩
      rw [eqv_self (shZ ns)]
      exact hQ _ ((((((exl.same sm).same sn).same so).same sp').same sq).same sr)
end
end MN
/-! the law of near rows -/
namespace MN
open PySem PySem.Spec PyProof.Rows L2
theorem one_ok : StsOk [[]] [true] := by
  have st : ∀ k, stepN [[]] k [true] = [true] := fun k => by
    induction k with
    | zero => rfl
    | succ k ih => rw [stepN, ih]; rfl
  refine ⟨by decide, by decide, fun m hm => ?_, ⟨fun m hm q hq => ?_, fun i h0 hi => ?_⟩, fun k _ b hb => ?_⟩
  · rw [List.mem_singleton.mp hm]
    exact ⟨by decide, (fun q hq => nomatch hq), (fun q hq => nomatch hq), List.nodup_nil⟩
  · rw [List.mem_singleton.mp hm] at hq
    cases hq
  · have : i < 1 := hi
    omega
  · rw [st] at hb
    exact List.mem_singleton.mp hb
section
variable {P : Program} {w : World} {K : PySem.W.Frag} {mg : Str → Option Value} {base : Heap} {C p0 p1 : Addr} {i0 i1 : Nat}
def spLaw (K : PySem.W.Frag) : Sp := fun vs H Q _ => ∃ (a : Addr) (ns : List Int), vs = [.ref a] ∧ SqL K H a (ns.map V.int) ∧ ns.length ≤ 1000 ∧ ∀ H', Q (.bl true) H'
abbrev N_law : List Str := ["_law_script", "_law_at", "_law_urn_here", "_law_plain", "_law_target", "_law_turn", "_law_one", "_law_told"]
theorem sc_law : FnScope N_law ["_law_script"] (defScope (top 72)) := ⟨rfl, rfl, rfl, by decide +kernel, rfl, by decide +kernel, by decide +kernel⟩
theorem f_law {f : Addr} {fd : FuncData} (F : FunD K "law" "law" (defArgs (top 72)) (defBody (top 72)) (defScope (top 72)) [] [] f fd) (B : Blt mg) (FC : FormC K C p0 p1 i0 i1) (hC : mg "Form" = some (.ref C)) (c_are_states : Cal P w K mg base 3 "are_states" (spAreStates K)) (c_in_order : Cal P w K mg base 1 "in_order" spInOrder)
    (c_law_urn : Cal P w K mg base 1 "_law_urn" (spFilled K)) (c_law_signs_for : Cal P w K mg base 3 "_law_signs_for" spSigns) (c_law_plain_form : Cal P w K mg base 3 "_law_plain_form" (spPForm K)) (c_law_form : Cal P w K mg base 6 "_law_form" (spForm K C i0 i1)) (c_law_judged_right : CalG P w K mg base 5 "_law_judged_right" (spJudged K C i0 i1)) (c_law_two_right : CalG P w K mg base 5 "_law_two_right" spTwo)
    (c_is_row : Cal P w K mg base 4 "is_row" (spIsRow K C i0 i1)) (c_end_cost : Cal P w K mg base 4 "end_cost" (spEndCost K C i0 i1)) : FnG P w K mg base 7 f fd ["_law_script"] (spLaw K) := by
  refine fnG_of F sc_law (fun vs H Q E h => ?_) (fun cdv A outer s H vs Q E gd hr h => ?_)
  · obtain ⟨_, _, rfl, _⟩ := h; rfl
  · obtain ⟨a, ns, rfl, ha, hn, hQ⟩ := h
    obtain ⟨fi, fdi, M0, Fi⟩ := FC.ini
    have b0 := FunD.bindsN (ps := ["self", "states"]) Fi fun _ _ _ _ _ _ us hl => match us, hl with | [_, _], _ => rfl
    refine ⟨_, (pss_cons (ps_for PassesOwn.never rfl (pi_range1 (by rfl) B.range (pa_cons (pe_callB (call_max2 rfl) (by rfl) B.max (by decide +kernel) (pa_cons pe_int (pa_cons (pe_callB (call_min2 rfl) (by rfl) B.min (by decide +kernel) (pa_cons pe_int (pa_cons (pe_callB call_len_seq (by rfl) B.len (by decide +kernel) (pa_cons (pv 0) pa_nil)) pa_nil))) pa_nil))) pa_nil)) (pg_name (i := 1) sc_law.nd rfl (Or.inl rfl))
        (pss_cons (ps_set (i := 2) sc_law.nd rfl (Or.inl rfl) (pe_c c_law_urn hr (by decide) (by rfl) (pa_cons (pv 0) (pa_cons (pv 1) pa_nil))))
        (pss_cons (ps_set (i := 3) sc_law.nd rfl (Or.inl rfl) (pe_c c_law_plain_form hr (by decide) (by rfl) (pa_cons (pv 2) (pa_cons (pe_c c_law_signs_for hr (by decide) (by rfl) (pa_cons (pv 2) pa_nil)) (pa_cons pe_int pa_nil)))))
        (pss_cons (ps_set (i := 4) sc_law.nd rfl (Or.inl rfl) (pe_c c_law_form hr (by decide) (by rfl) (pa_cons (pv 3) pa_nil)))
        (pss_cons (ps_if (pt_not (pt_val (pe_cG c_law_judged_right gd hr (by decide) (by rfl) (pa_cons (pv 2) (pa_cons (pv 3) (pa_cons (pv 4) pa_nil))))))
          (pss_one (ps_ret pe_bl))
          pss_nil)
        (pss_one (ps_for PassesOwn.never rfl (pi_range1 (by rfl) B.range (pa_cons pe_int pa_nil)) (pg_name (i := 5) sc_law.nd rfl (Or.inl rfl))
          (pss_one (ps_if (pt_not (pt_val (pe_cG c_law_two_right gd hr (by decide) (by rfl) (pa_cons (pv 2) pa_nil))))
            (pss_one (ps_ret pe_bl))
            pss_nil)))))))))
      (pss_cons (ps_set (i := 6) sc_law.nd rfl (Or.inl rfl) (pe_make M0 (f_finit (P := P) (w := w) (mg := mg) (base := base) FC Fi B c_are_states c_in_order) (hr.mono (by decide)) (by rfl) hC b0 .nil pass0 (pa_cons (pe_tup (pa_cons (pe_tup (pa_cons pe_dnewK (pa_cons pe_bl pa_nil))) pa_nil)) pa_nil)))
      (pss_cons (ps_set (i := 7) sc_law.nd rfl (Or.inl rfl) (pe_lst (pa_cons (pe_c c_is_row hr (by decide) (by rfl) (pa_cons (pv 6) (pa_cons (pe_tup (pa_cons pe_int pa_nil)) pa_nil))) (pa_cons (pe_c c_is_row hr (by decide) (by rfl) (pa_cons (pv 6) (pa_cons (pe_tup (pa_cons pe_int pa_nil)) pa_nil))) (pa_cons (pe_c c_is_row hr (by decide) (by rfl) (pa_cons (pv 6) (pa_cons (pe_tup (pa_cons pe_int pa_nil)) pa_nil))) (pa_cons (pe_c c_is_row hr (by decide) (by rfl) (pa_cons (pv 6) (pa_cons (pe_tup pa_nil) pa_nil))) (pa_cons (pe_c c_is_row hr (by decide) (by rfl) (pa_cons (pv 6) (pa_cons (pe_tup (pa_cons pe_int (pa_cons pe_int pa_nil))) pa_nil))) pa_nil)))))))
      (pss_one (ps_ret (pe_and (pe_cmpR (op_eqD hr.units) (pv 7) (pe_lst (pa_cons pe_bl (pa_cons pe_bl (pa_cons pe_bl (pa_cons pe_bl (pa_cons pe_bl pa_nil)))))) (nomark _)) (pe_one (pe_cmpR op_eq (pe_c c_end_cost hr (by decide) (by rfl) (pa_cons (pv 6) (pa_cons (pe_tup (pa_cons pe_int pa_nil)) pa_nil))) pe_int (nomark _))))))))), ?_⟩
    refine ⟨_, rfl, a, _, rfl, .inl ha, _, _, rfl, _, _, rfl, _, rfl, ?_, ?_, for_it (walk_range (lo := 0)) (fun i σ H' => SqL K H' a (ns.map V.int) ∧ ∃ o1 o2 o3 o4 o5, σ = [some (.ref a), o1, o2, o3, o4, o5, none, none]) ⟨ha, _, _, _, _, _, rfl⟩ (fun _ _ _ _ _ => trivial) (fun i x σ H1 H1' hi e y => ?_) (fun σ H1 e => ?_)⟩
    · rw [List.length_map]; split <;> split <;> omega
    · rw [List.length_map]; split <;> split <;> omega
    · obtain ⟨rfl, rfl⟩ := y
      obtain ⟨ha1, o1, o2, o3, o4, o5, rfl⟩ := e
      have hi6 : i < 10 := by
        refine Nat.lt_of_lt_of_le hi ?_
        rw [List.length_map]
        split <;> split <;> omega
      refine ⟨_, rfl, _, rfl, a, _, ns, rfl, ha1, by omega, by omega, fun p H2 hpn s2 hp2 => ?_⟩
      refine ⟨_, rfl, _, rfl, p, rfl, hp2, fun l zs H3 hl2 ex3 ul hz => ?_⟩
      obtain ⟨x2, y2, z2, hp20⟩ := hp2
      have lp : l ≠ p := (ne_of_none hp20 hl2).symm
      refine ⟨p, l, zs, 4, rfl, ex3.pot, lp, SqL.of ul, hz, by decide, by decide, fun pl rs ds ms ls H4 ex4 hpl hP hnd hO hle => ?_⟩
      obtain ⟨x3, y3, z3, hp30⟩ := ex3.pot
      have plp : pl ≠ p := (ne_of_none hp30 hpl).symm
      refine ⟨_, rfl, pl, rs, ds, ms, ls, rfl, hP, hnd, hO, fun H5 x dx M L s5 hx hdx hM hL hF => ?_⟩
      obtain ⟨x4, y4, z4, hp40⟩ := ex4.pot
      have np : ∀ b, H4 b = none → b ≠ p := fun b hb => (ne_of_none hp40 hb).symm
      have ex5 := (ex3.trans ex4).same s5
      refine ⟨_, rfl, _, rfl, _, rfl, p, pl, x, dx, M, L, rs, ds, ms, ls, rfl, ex5.pot, hP.same s5, hF, hO, by omega, plp, np _ hx, np _ hdx, np _ hM, np _ hL, fun H6 ex6 => ⟨_, rfl, iteF ?_⟩⟩
      have ex6' := ex5.trans ex6
      refine ⟨6, rfl, by omega, by omega, for_it (walk_range (lo := 0)) (fun j σ H' => Ex p H2 H' ∧ ∃ o1 o3 o4 o5, σ = [some (.ref a), o1, some (.ref p), o3, o4, o5, none, none]) ⟨ex6', _, _, _, _, rfl⟩ (fun _ _ _ _ _ => trivial) (fun j y σ H7 H7' hj e yy => ?_) (fun σ H7 e => ?_)⟩
      · obtain ⟨rfl, rfl⟩ := yy
        obtain ⟨ex7, o1, o3, o4, o5, rfl⟩ := e
        exact ⟨_, rfl, p, rfl, ex7.pot, fun H8 ex8 => ⟨_, rfl, iteF ⟨ex7.trans ex8, _, _, _, _, rfl⟩⟩⟩
      · obtain ⟨ex7, o1, o3, o4, o5, rfl⟩ := e
        refine ⟨?_, _, _, _, _, _, rfl⟩
        rcases ha1 with (h | ⟨o, h⟩) | h
        · exact .inl (.inl (ex7.keep _ _ (ne_of_none h hpn) (s2 _ _ h)))
        · exact .inl (.inr ⟨o, ex7.keep _ _ (ne_of_none h hpn) (s2 _ _ h)⟩)
        · exact .inr h
    obtain ⟨-, o1, o2, o3, o4, o5, rfl⟩ := e
    -- the least form
    intro d hd
    obtain ⟨s2, u2⟩ := laid (.dK []) hd
    generalize upd H1 d (.dK []) = H2 at s2 u2 ⊢
    refine ⟨(by show 2 ≤ sizeLine; decide), fun t ht => ?_⟩
    obtain ⟨s3, u3⟩ := laid (.tup [V.ref d, .bl true]) ht
    generalize upd H2 t (.tup [V.ref d, .bl true]) = H3 at s3 u3 ⊢
    refine ⟨(by show 1 ≤ sizeLine; decide), fun T hT => ?_⟩
    obtain ⟨s4, u4⟩ := laid (.tup [V.ref t]) hT
    generalize upd H3 T (.tup [V.ref t]) = H4 at s4 u4 ⊢
    intro x dx hx hdx n
    have nx : ∀ b o, H4 b = some o → b ≠ x ∧ b ≠ dx := fun b o e => ⟨ne_of_none e hx, ne_of_none e hdx⟩
    have up : Same H4 (upd (upd H4 dx (.own x)) x (.ins C dx [])) := fun b o e => by rw [upd_ne (nx b o e).1, upd_ne (nx b o e).2]; exact e
    have hS : StsAt K (upd (upd H4 dx (.own x)) x (.ins C dx [])) T [t] [d] [[]] [true] := by
      refine ⟨.inl (.inl (up _ _ u4)), rfl, rfl, ⟨rfl, fun i d' m h1 h2 => ?_⟩, fun i t' d' l h1 h2 h3 => ?_⟩
      · have i0 : i = 0 := by
          have := (List.getElem?_eq_some_iff.mp h1).1
          simpa using this
        subst i0
        cases h1
        cases h2
        exact up _ _ (s4 _ _ (s3 _ _ u2))
      · have i0 : i = 0 := by
          have := (List.getElem?_eq_some_iff.mp h1).1
          simpa using this
        subst i0
        cases h1
        cases h2
        cases h3
        exact .inl (.inl (up _ _ (s4 _ _ u3)))
    refine ⟨x, dx, T, [t], [d], [[]], [true], rfl, upd_same, by rw [upd_ne n, upd_same], n, hS, by simp, one_ok, fun H5 M L _ _ _ hF => ⟨rfl, ?_⟩⟩
    have hF : FormAt K C i0 i1 H5 x dx M L 1 [true] := hF
    -- told
    have row : ∀ (H' : Hp) (t : Addr) (ns : List Int) (b : Bool), H' t = some (.tup (ns.map V.int)) → ns.length ≤ 10 → b = (rowB (ns.map V.int) && decide ((ns.map V.int).length = 1)) → IsRowArg K H' (.ref t) 1 b := fun H' t ns b h1 h2 h3 => .inr ⟨t, _, rfl, .inl (.inl h1), by rw [List.length_map]; omega, fun x hx => by
      obtain ⟨n, _, rfl⟩ := List.mem_map.mp hx
      exact .inl ⟨n, rfl⟩, h3⟩
    refine ⟨_, rfl, (by show 1 ≤ sizeLine; decide), fun t1 ht1 => ?_⟩
    obtain ⟨s6, u6⟩ := laid (.tup [V.int 0]) ht1
    generalize upd H5 t1 (.tup [V.int 0]) = H6 at s6 u6 ⊢
    refine ⟨x, dx, M, L, 1, [true], .ref t1, true, rfl, hF.same s6, by decide, row _ _ [0] true u6 (by decide) (by decide), fun H7 s7 => ?_⟩
    refine ⟨_, rfl, (by show 1 ≤ sizeLine; decide), fun t2 ht2 => ?_⟩
    obtain ⟨s8, u8⟩ := laid (.tup [V.int 9999]) ht2
    generalize upd H7 t2 (.tup [V.int 9999]) = H8 at s8 u8 ⊢
    have s58 := (s6.trans s7).trans s8
    refine ⟨x, dx, M, L, 1, [true], .ref t2, true, rfl, hF.same s58, by decide, row _ _ [9999] true u8 (by decide) (by decide), fun H9 s9 => ?_⟩
    refine ⟨_, rfl, (by show 1 ≤ sizeLine; decide), fun t3 ht3 => ?_⟩
    obtain ⟨sa, ua⟩ := laid (.tup [V.int 10000]) ht3
    generalize upd H9 t3 (.tup [V.int 10000]) = Ha at sa ua ⊢
    have s5a := (s58.trans s9).trans sa
    refine ⟨x, dx, M, L, 1, [true], .ref t3, false, rfl, hF.same s5a, by decide, row _ _ [10000] false ua (by decide) (by decide), fun Hb sb => ?_⟩
    refine ⟨_, rfl, (by show 0 ≤ sizeLine; decide), fun t4 ht4 => ?_⟩
    obtain ⟨sc, uc⟩ := laid (.tup ([] : List V)) ht4
    generalize upd Hb t4 (.tup []) = Hc at sc uc ⊢
    have s5c := (s5a.trans sb).trans sc
    refine ⟨x, dx, M, L, 1, [true], .ref t4, false, rfl, hF.same s5c, by decide, row _ _ [] false uc (by decide) (by decide), fun Hd sd => ?_⟩
    refine ⟨_, rfl, (by show 2 ≤ sizeLine; decide), fun t5 ht5 => ?_⟩
    obtain ⟨se, ue⟩ := laid (.tup [V.int 0, V.int 0]) ht5
    generalize upd Hd t5 (.tup [V.int 0, V.int 0]) = He at se ue ⊢
    have s5e := (s5c.trans sd).trans se
    refine ⟨x, dx, M, L, 1, [true], .ref t5, false, rfl, hF.same s5e, by decide, row _ _ [0, 0] false ue (by decide) (by decide), fun Hf sf => ?_⟩
    refine ⟨(by show 5 ≤ sizeLine; decide), fun t6 ht6 => ?_⟩
    obtain ⟨sg, ug⟩ := laid (.lst [V.bl true, .bl true, .bl false, .bl false, .bl false]) ht6
    generalize upd Hf t6 (.lst [V.bl true, .bl true, .bl false, .bl false, .bl false]) = Hg at sg ug ⊢
    have s5g := (s5e.trans sf).trans sg
    refine ⟨_, rfl, (by show 5 ≤ sizeLine; decide), fun t7 ht7 => ?_⟩
    obtain ⟨sh, uh⟩ := laid (.lst [V.bl true, .bl true, .bl false, .bl false, .bl false]) ht7
    generalize upd Hg t7 (.lst [V.bl true, .bl true, .bl false, .bl false, .bl false]) = Hh at sh uh ⊢
    have s5h := s5g.trans sh
    have sh5 : SeqAt.shaped (.list ([true, true, false, false, false].map PyData.bool)) = true := by decide +kernel
    refine ⟨_, _, dpB (bs := [true, true, false, false, false]) (SqL.of (sh _ _ ug)), dpB (bs := [true, true, false, false, false]) (SqL.of uh), sh5, sh5, _, rfl, ?_⟩
    rw [eqv_self sh5]
    refine iteT ⟨_, rfl, (by show 1 ≤ sizeLine; decide), fun t8 ht8 => ?_⟩
    obtain ⟨si, ui⟩ := laid (.tup [V.int 9999]) ht8
    generalize upd Hh t8 (.tup [V.int 9999]) = Hi at si ui ⊢
    refine ⟨x, dx, M, L, 1, [true], t8, [9999], rfl, (hF.same s5h).same si, .inl (.inl ui), rfl, by decide, by decide, by simp, fun Hj m sj hm => ⟨rfl, ?_⟩⟩
    have em : m = 9999 := List.mem_singleton.mp hm.1
    subst em
    exact hQ _
end
end MN
/-! the class Form in the head's run -/
namespace MN
open PySem PySem.Spec PyProof.Rows L2
theorem slB_ok2 {K : PySem.W.Frag} {C : Addr} {f : Str} (h : slB K C f = true) : ∃ i, SlX.Slot1 K C f (He.ma K C f) i := by
  obtain ⟨h1, h⟩ := He.ba h
  obtain ⟨h2, h⟩ := He.ba h
  obtain ⟨h3, h⟩ := He.ba h
  obtain ⟨h4, h5⟩ := He.ba h
  cases e : PySem.W.slotIn K (He.ma K C f) C with
  | none =>
    rw [e] at h5
    cases h5
  | some i =>
    rw [e] at h5
    exact ⟨i, He.eqO_ok h1, He.eqO_ok h2, of_decide_eq_true h3, of_decide_eq_true h4, e, of_decide_eq_true h5⟩
def formB (K : PySem.W.Frag) : Bool := scB K (He.ga K "Form") && (siB K (He.ga K "Form") && (decide (PySem.W.kitOne K (.ref (He.ga K "Form")) (.ref (He.ga K "Form")) = some true) && (slB K (He.ga K "Form") "own_moves" && (slB K (He.ga K "Form") "own_lasts" &&
  (decide (PySem.W.slotIn K (He.ma K (He.ga K "Form") "own_moves") (He.ga K "Form") ≠ PySem.W.slotIn K (He.ma K (He.ga K "Form") "own_lasts") (He.ga K "Form")) &&
  ((He.Fa.mkr "Form").ok K && (He.eqO (PySem.W.findIn K (.ref (He.ga K "Form")) "__len__") (some (some (.ref (He.ma K (He.ga K "Form") "__len__")))) && PySem.W.isFn K (.ref (He.ma K (He.ga K "Form") "__len__")))))))))
theorem formB_ok {K : PySem.W.Frag} {fi fl : FuncData} (h : formB K = true) (Fi : FunAt K "__init__" "Form.__init__" (inClass (top 37) 1) [] (He.ma K (He.ga K "Form") "__init__") fi) (Fl : FunAt K "__len__" "Form.__len__" (inClass (top 37) 24) [] (He.ma K (He.ga K "Form") "__len__") fl) :
    ∃ p0 p1 i0 i1, FormC K (He.ga K "Form") p0 p1 i0 i1 := by
  obtain ⟨e1, h⟩ := He.ba h
  obtain ⟨e2, h⟩ := He.ba h
  obtain ⟨e3, h⟩ := He.ba h
  obtain ⟨e4, h⟩ := He.ba h
  obtain ⟨e5, h⟩ := He.ba h
  obtain ⟨e6, h⟩ := He.ba h
  obtain ⟨e7, h⟩ := He.ba h
  obtain ⟨e8, e9⟩ := He.ba h
  obtain ⟨i0, s0⟩ := slB_ok2 e4
  obtain ⟨i1, s1⟩ := slB_ok2 e5
  refine ⟨_, _, i0, i1, scB_ok e1, siB_ok e2, s0, s1, fun z => of_decide_eq_true e6 ?_, of_decide_eq_true e3, ⟨_, fi, He.mkr_ok e7, Fi⟩, ⟨_, fl, He.eqO_ok e8, e9, Fl⟩⟩
  rw [s0.ix, s1.ix, z]
end MN
/-! the run of the head -/
namespace MN
open PySem PySem.Spec PyProof.Rows L2
def defs28 : List He5.DefA := [gDef "is_integer" (top 11),
  gDef "is_sign" (top 12),
  gDef "require_number" (top 14),
  gDef "useful_states" (top 17),
  gDef "are_useful" (top 18),
  gDef "is_state" (top 34),
  gDef "are_states" (top 35),
  gDef "in_order" (top 36),
  gDef "require_form" (top 39),
  gDef "require_small" (top 51),
  gDef "is_plain_row" (top 52),
  gDef "require_plain_row" (top 53),
  gDef "require_row" (top 54),
  gDef "is_row" (top 55),
  gDef "end_cost" (top 56),
  gDef "cut_row" (top 57),
  gDef "stands_above" (top 58),
  gDef "_law_urn" (top 60),
  gDef "_law_pull" (top 61),
  gDef "_law_from" (top 62),
  gDef "_law_signs_for" (top 63),
  gDef "_law_plain_form" (top 64),
  gDef "_law_form" (top 65),
  gDef "_law_end" (top 66),
  gDef "_law_odd" (top 67),
  gDef "_law_is_number" (top 68),
  gDef "_law_near" (top 69),
  gDef "_law_judged_right" (top 70),
  gDef "_law_two_right" (top 71),
  gDef "law" (top 72),
  { at_ := fun K => He.ma K (He.ga K "Form") "__init__", name := "__init__", qual := "Form.__init__", params := defArgs (inClass (top 37) 1), body := defBody (inClass (top 37) 1), scope := defScope (inClass (top 37) 1) },
  { at_ := fun K => He.ma K (He.ga K "Form") "__len__", name := "__len__", qual := "Form.__len__", params := defArgs (inClass (top 37) 24), body := defBody (inClass (top 37) 24), scope := defScope (inClass (top 37) 24) }]
def glo28 : List Str := ([("is_integer" : Str), ("is_sign" : Str), ("require_number" : Str), ("useful_states" : Str), ("are_useful" : Str), ("is_state" : Str), ("are_states" : Str), ("in_order" : Str)] : List Str) ++ ([("require_form" : Str), ("require_small" : Str), ("is_plain_row" : Str), ("require_plain_row" : Str), ("require_row" : Str), ("is_row" : Str), ("end_cost" : Str), ("cut_row" : Str)] : List Str) ++ ([("stands_above" : Str), ("_law_urn" : Str), ("_law_pull" : Str), ("_law_from" : Str), ("_law_signs_for" : Str), ("_law_plain_form" : Str), ("_law_form" : Str), ("_law_end" : Str)] : List Str) ++ ([("_law_odd" : Str), ("_law_is_number" : Str), ("_law_near" : Str), ("_law_judged_right" : Str), ("_law_two_right" : Str), ("law" : Str), ("Form" : Str)] : List Str)
def ex28 (K : PySem.W.Frag) : Bool := gloAll K glo28 && (freeAll K bltNames && ((He.Fa.str "SIGNS" "abcde").ok K && ((He.Fa.int "GREATEST" (10 ^ 60)).ok K && ((He.Fa.int "MAX_WRITTEN" 8).ok K && ((He.Fa.int "MAX_SIDE" 6).ok K && ((He.Fa.int "BEYOND" 10000).ok K && (formB K)))))))
end MN
/-! the facts and the end -/
namespace MN
open PySem PySem.Spec PyProof.Rows L2
section
variable {P : Program} {w : World} {K : PySem.W.Frag} {h : Heap} {mg : Str → Option Value}
theorem at28 (X : K.In h) (G : h.Ns mainGlobals mg) (c : SaysX ex28 defs28 K) (i : Nat) (x : Str) (st : Stmt) (hi : defs28[i]? = some (gDef x st)) (hx : x ∈ glo28) : At K mg x st := by
  obtain ⟨fd, F⟩ := c.def_ i hi
  exact ⟨_, fd, F, gloAll_ok X G (He.ba c.all).1 hx⟩
theorem facts28 {f : Addr} (X : K.In h) (G : h.Ns mainGlobals mg) (hfa : mg ("law" : Str) = some (.ref f)) (c : SaysX ex28 defs28 K) :
    ∃ fd : FuncData, (∀ (s : Shared) (v : Value), BindsTo s fd ⟨[v], []⟩ [("_law_script", v)]) ∧ ∀ base : Heap, K.In base → base.Ns mainGlobals mg → FnG P w K mg base 7 f fd ["_law_script"] (spLaw K) := by
  obtain ⟨e0, e⟩ := He.ba c.all
  obtain ⟨e1, e⟩ := He.ba e
  obtain ⟨e2, e⟩ := He.ba e
  obtain ⟨e3, e⟩ := He.ba e
  obtain ⟨e4, e⟩ := He.ba e
  obtain ⟨e5, e⟩ := He.ba e
  obtain ⟨e6, e⟩ := He.ba e
  have B : Blt mg := Blt.of (freeAll_ok X G e1) (strC_ok X G e2)
  have GG : GlC mg "GREATEST" (.int big) := intC_ok X G e3
  have GW : GlC mg "MAX_WRITTEN" (.int 8) := intC_ok X G e4
  have G6 : GlC mg "MAX_SIDE" (.int 6) := intC_ok X G e5
  have GB : GlC mg "BEYOND" (.int 10000) := intC_ok X G e6
  obtain ⟨fi, Fi⟩ := c.def_ 30
  obtain ⟨fl, Fl⟩ := c.def_ 31
  obtain ⟨p0, p1, i0, i1, FC⟩ := formB_ok e Fi Fl
  have hC : mg "Form" = some (.ref (He.ga K "Form")) := gloAll_ok X G e0 (by decide +kernel)
  have GF : GlC mg "Form" (.ref (He.ga K "Form")) := ⟨_, hC, rfl⟩
  obtain ⟨fd, F⟩ := c.def_ 29
  have e := hfa.symm.trans (gloAll_ok X G e0 (x := "law") (by decide +kernel))
  cases e
  have b := FunD.bindsA (ps := ["_law_script"]) F fun _ _ _ _ _ _ us hl => match us, hl with | [_], _ => rfl
  refine ⟨fd, fun s v => b s [v] rfl, fun base _ _ => ?_⟩
  have a := fun i x st hi hx => at28 (mg := mg) X G c i x st hi hx
  have c_is_integer : Cal P w K mg base 1 "is_integer" (spIsInt K) := MN.c_is_integer (a 0 _ _ rfl (by decide +kernel)) B GG
  have c_is_sign : Cal P w K mg base 1 "is_sign" (spIsSign K) := MN.c_is_sign (a 1 _ _ rfl (by decide +kernel)) B
  have c_require_number : Cal P w K mg base 2 "require_number" spReqNumber := MN.c_require_number (a 2 _ _ rfl (by decide +kernel)) c_is_integer
  have c_useful_states : Cal P w K mg base 1 "useful_states" (spUseful K) := MN.c_useful_states (a 3 _ _ rfl (by decide +kernel)) B
  have c_are_useful : Cal P w K mg base 2 "are_useful" (spAreUseful K) := MN.c_are_useful (a 4 _ _ rfl (by decide +kernel)) B c_useful_states
  have c_is_state : Cal P w K mg base 2 "is_state" (spIsState K) := MN.c_is_state (a 5 _ _ rfl (by decide +kernel)) B c_is_sign c_is_integer
  have c_are_states : Cal P w K mg base 3 "are_states" (spAreStates K) := MN.c_are_states (a 6 _ _ rfl (by decide +kernel)) B GW c_is_state c_are_useful
  have c_in_order : Cal P w K mg base 1 "in_order" spInOrder := MN.c_in_order (a 7 _ _ rfl (by decide +kernel)) B
  have c_require_form : Cal P w K mg base 1 "require_form" (spReqForm K _ i0 i1) := MN.c_require_form (a 8 _ _ rfl (by decide +kernel)) B FC GF
  have c_require_small : Cal P w K mg base 3 "require_small" (spReqForm K _ i0 i1) := MN.c_require_small (a 9 _ _ rfl (by decide +kernel)) B FC G6
  have c_is_plain_row : Cal P w K mg base 2 "is_plain_row" (spPlain K) := MN.c_is_plain_row (a 10 _ _ rfl (by decide +kernel)) B G6 GB c_is_integer
  have c_require_plain_row : Cal P w K mg base 3 "require_plain_row" (spReqPlain K) := MN.c_require_plain_row (a 11 _ _ rfl (by decide +kernel)) c_is_plain_row
  have c_require_row : Cal P w K mg base 3 "require_row" (spReqRow K _ i0 i1) := MN.c_require_row (a 12 _ _ rfl (by decide +kernel)) B FC c_is_plain_row
  have c_is_row : Cal P w K mg base 4 "is_row" (spIsRow K _ i0 i1) := MN.c_is_row (a 13 _ _ rfl (by decide +kernel)) B FC c_is_plain_row c_require_form c_require_small
  have c_end_cost : Cal P w K mg base 4 "end_cost" (spEndCost K _ i0 i1) := MN.c_end_cost (a 14 _ _ rfl (by decide +kernel)) B FC c_require_form c_require_row c_require_small
  have c_cut_row : Cal P w K mg base 4 "cut_row" (spCut K) := MN.c_cut_row (a 15 _ _ rfl (by decide +kernel)) B GB c_require_plain_row c_require_number
  have c_stands_above : Cal P w K mg base 4 "stands_above" (spAbove K) := MN.c_stands_above (a 16 _ _ rfl (by decide +kernel)) B c_require_plain_row
  have c_law_urn : Cal P w K mg base 1 "_law_urn" (spFilled K) := MN.c_law_urn (a 17 _ _ rfl (by decide +kernel)) B
  have c_law_pull : Cal P w K mg base 1 "_law_pull" spDip := MN.c_law_pull (a 18 _ _ rfl (by decide +kernel)) B
  have c_law_from : Cal P w K mg base 2 "_law_from" (spFrom K) := MN.c_law_from (a 19 _ _ rfl (by decide +kernel)) B c_law_pull
  have c_law_signs_for : Cal P w K mg base 3 "_law_signs_for" spSigns := MN.c_law_signs_for (a 20 _ _ rfl (by decide +kernel)) c_law_from
  have c_law_plain_form : Cal P w K mg base 3 "_law_plain_form" (spPForm K) := MN.c_law_plain_form (a 21 _ _ rfl (by decide +kernel)) B c_law_pull c_law_from
  have c_law_form : Cal P w K mg base 6 "_law_form" (spForm K _ i0 i1) := MN.c_law_form (a 22 _ _ rfl (by decide +kernel)) B FC hC c_are_states c_in_order
  have c_law_end : Cal P w K mg base 1 "_law_end" (spEnd K) := MN.c_law_end (a 23 _ _ rfl (by decide +kernel)) B
  have c_law_odd : Cal P w K mg base 3 "_law_odd" spOdd := MN.c_law_odd (a 24 _ _ rfl (by decide +kernel)) c_law_from
  have c_law_is_number : Cal P w K mg base 1 "_law_is_number" (spLNum K) := MN.c_law_is_number (a 25 _ _ rfl (by decide +kernel)) B
  have c_law_near : Cal P w K mg base 4 "_law_near" spNear := MN.c_law_near (a 26 _ _ rfl (by decide +kernel)) B c_law_pull c_law_from c_law_odd
  have c_law_judged_right : CalG P w K mg base 5 "_law_judged_right" (spJudged K _ i0 i1) := MN.c_law_judged_right (a 27 _ _ rfl (by decide +kernel)) B c_law_near c_law_is_number c_is_row c_end_cost c_law_end
  have c_law_two_right : CalG P w K mg base 5 "_law_two_right" spTwo := MN.c_law_two_right (a 28 _ _ rfl (by decide +kernel)) B c_law_pull c_law_from c_stands_above c_cut_row
  exact f_law F B FC hC c_are_states c_in_order c_law_urn c_law_signs_for c_law_plain_form c_law_form c_law_judged_right c_law_two_right c_is_row c_end_cost
end
end MN
open PySem PySem.W PySem.Calls PyProof.Rows
set_option maxHeartbeats 0 in
theorem PySem.Challenge.cw_mendnumber_k28_near_rows_holds : PySem.Challenge.rw_mendnumber_k28_near_rows.Holds := by
  w_on; o_law
  k_head
  case hw => w_witness2
  case hc =>
    refine MN.walk_g (l := PySem.Challenge.rw_mendnumber_k28_near_rows) (n := 63) (k := 7) (x := "_law_script") rfl (by decide) (by kernel_rfl) ⟨rfl, by decide, by decide⟩ ?F
    intro w mg fa h Y G hmg0
    have KX := kIn_of Y
    have hmg : mg ("law" : PySem.Str) = some (.ref fa) := by
      have e : (HandSHeadRun.topDef (OpenLaw.row PySem.Challenge.rw_mendnumber_k28_near_rows).prog 72).name = ("law" : PySem.Str) := by kernel_rfl
      rw [← e]
      exact hmg0
    obtain ⟨fd, hb, hF⟩ := MN.facts28 (P := (PySem.Challenge.rw_mendnumber_k28_near_rows).prog) (w := w) KX G hmg (by unfold MN.SaysX; kernel_rfl)
    exact ⟨_, fd, MN.spLaw _, KX, hb, fun H a ns hl _ hS => ⟨a, ns, rfl, hS, Nat.le_trans hl (by decide), fun _ => rfl⟩, hF⟩
