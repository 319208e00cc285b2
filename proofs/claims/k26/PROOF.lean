import PyProof.Rows.All
import Wide.All
import OpenK.AllK
import Wide.FinOn
import KE.KStateDown
import KE.SortKeyHeap
import KE.GoesMore
import KE.GoesNew
import KE.KDictZip
import Lean
import HandS.ForMost
import HandS.More
import HandS.Walk
import HandS.Flow
import HandS.Style
import HandS.Conv
import HandS.Defaults
import HandS.IsInst
import HandS.DictComp
import HandS.SortKw
import HandS.Slots
import HandS.SlotsOwn
import HandS.ClsMeth
import HandS.MakeKwOnly
import HandS.Zip
import HandS.TupAny
import HandS.ListItems
import HandS.SetFor
import HandS.SetBool
import HandS.Strs
import HandS.CallLocal
import HandS.WordsExc
import HandS.WordsDict
import HandS.Small
import HandS.Head0
import HandS.Head1
import HandS.Head2
import HandS.HeadEnd
import HandS.HeadHook1
import HandS.HeadHook2
import HandS.HeadNt
import HandS.GenList
import HandS.TupLen
import KE.KDictPairs
import HandS.DictTup
import HandS.Star
import HandS.TupSets
import HandS.Flt
import HandS.Property
import PySem.Challenge.RW_mendnumber_k26_whole_rows_by_all_words
set_option Elab.async false
set_option linter.all false
set_option maxRecDepth 100000
set_option maxHeartbeats 4000000
/-! defs by their names; promises that hold while nothing is being shown (repr) -/
namespace MN
open PySem PySem.Spec PyProof.Rows L2
/-- the def x of the text st, under its name -/
def At (K : PySem.W.Frag) (mg : Str → Option Value) (x : Str) (st : Stmt) : Prop := ∃ f fd, FunD K x x (defArgs st) (defBody st) (defScope st) [] [] f fd ∧ mg x = some (.ref f)
abbrev BindEq (x : Str) (st : Stmt) (ps : List Str) : Prop := ∀ (kV doc pm : Value) (an : Option Addr) (cdv ct : Value) (us : List Value), us.length = ps.length → bindArgs (PySem.W.fnOf x x (defArgs st) (defBody st) (defScope st) .none kV doc pm an cdv ct) ⟨us, []⟩ = pure (ps.zip us)
/-- a def that may be called by its name -/
structure Cal (P : Program) (w : World) (K : PySem.W.Frag) (mg : Str → Option Value) (base : Heap) (k : Nat) (x : Str) (sp : Sp) : Prop where
  ex : ∃ (f : Addr) (fd : FuncData) (ps : List Str), FnOk P w K mg base CX0 k f fd ps sp ∧ mg x = some (.ref f) ∧ PySem.W.keepIn K (.ref f) = true ∧ Binds K fd ps []
/-- FnOk for calls under which nothing is being shown -/
structure FnG (P : Program) (w : World) (K : PySem.W.Frag) (mg : Str → Option Value) (base : Heap) (k : Nat) (f : Addr) (fd : FuncData) (ps : List Str) (sp : Sp) : Prop where
  len : ∀ vs H Q E, sp vs H Q E → vs.length = ps.length
  run : ∀ (A : Around) (outer : List Env) (s : Shared) (H : Hp) (args : Args) (us : List Value) (vs : List V) (Q : VK) (E : XK), A.guards = some [] → Room k A → Env0 P w K mg base A outer s H →
    BindsTo s fd args (ps.zip us) → Vals vs us → sp vs H Q E → codeAny (model P w) A (.call (.ref f) args) (CR CX0 outer P w H s Q E) s
structure CalG (P : Program) (w : World) (K : PySem.W.Frag) (mg : Str → Option Value) (base : Heap) (k : Nat) (x : Str) (sp : Sp) : Prop where
  ex : ∃ (f : Addr) (fd : FuncData) (ps : List Str), FnG P w K mg base k f fd ps sp ∧ mg x = some (.ref f) ∧ PySem.W.keepIn K (.ref f) = true ∧ Binds K fd ps []
section
variable {X : Cx} {k j : Nat} {x : Str} {sp : Sp} {p pos : Pos} {e : Expr} {es : List Expr} {t : TA}
theorem pe_c (c : Cal X.prog X.w X.K X.mg X.base k x sp) (hr : Room j X.A) (hk : k ≤ j) (hg : Gl X x) (ha : PA X (e :: es) t)
    (hdb : (x == ("__debug__" : Str)) = false := by decide) (he : starEach (e :: es) X.env = (false, eval e X.env) :: starEach es X.env := by rfl)
    (hpl : (backTo pos (starEach es X.env)).any (·.1) = false := by rfl) : PE X (.Call (.Name x p) (e :: es) [] pos) (tCall sp [] E0 t) := by
  obtain ⟨f, fd, ps, F, hm, kp, b⟩ := c.ex
  exact pe_call F (hr.mono hk) hg hm kp b .nil pass0 ha hdb he hpl
theorem run_g {f : Addr} {fd : FuncData} {ps : List Str} {pins : List (Addr × Obj)} {σ : L2.St} {H : Hp} {s : Shared} {Q : VK} {us : List Value} {vs : List V} (F : FnG X.prog X.w X.K X.mg X.base k f fd ps sp) (gd : X.A.guards = some []) (hr : Room k X.A)
    (hb : Binds X.K fd ps []) (I : Inv X pins σ H s) (r : Vals vs us) (h : sp vs H Q E0) : wpAny (model X.prog X.w) X.A (call (.ref f) us) (EP X pins σ Q) X.xe s := by
  have hl : us.length = ps.length := r.length.symm.trans (F.len _ _ _ _ h)
  have hb' := hb s us I.kIn (by rw [List.append_nil]; exact hl)
  rw [List.append_nil] at hb'
  refine wpAny_call (codeAny_mono (F.run X.A X.stack s H ⟨us, []⟩ us vs Q E0 gd hr I.env0 hb' r h) fun r s' hq => ?_)
  match r, hq with
  | .ok (.ret u), hq => exact I.after hq
theorem pe_cG (c : CalG X.prog X.w X.K X.mg X.base k x sp) (gd : X.A.guards = some []) (hr : Room j X.A) (hk : k ≤ j) (hg : Gl X x) (ha : PA X (e :: es) t)
    (hdb : (x == ("__debug__" : Str)) = false := by decide) (he : starEach (e :: es) X.env = (false, eval e X.env) :: starEach es X.env := by rfl)
    (hpl : (backTo pos (starEach es X.env)).any (·.1) = false := by rfl) : PE X (.Call (.Name x p) (e :: es) [] pos) (tCall sp [] E0 t) := by
  obtain ⟨f, fd, ps, F, hm, kp, b⟩ := c.ex
  refine ⟨fun pins s σ H Q I h => ?_⟩
  refine wpAny_Call_Name_kw (ld_glob I hg hm ?_ hdb)
  refine PySem.W.callWith_K (h₀ := X.base) I.ok.mod.kin kp (thn (ha.run pos pins s σ H _ I h) fun us s1 ⟨vs, H1, I1, r, q⟩ => ⟨I1.kIn, ?_⟩) he hpl
  exact run_g F gd (hr.mono hk) b I1 r (List.append_nil vs ▸ (show sp (vs ++ []) H1 Q E0 from q))
/-- a constant of the module -/
theorem pe_gl {v : V} (hg : Gl X x) (h : ∃ u, X.mg x = some u ∧ RelV v u) (hd : (x == ("__debug__" : Str)) = false := by decide) : PE X (.Name x pos) (tC v) := by
  obtain ⟨u, hm, r⟩ := h
  exact pe_glob hg hm r hd
end
section
variable {P : Program} {w : World} {K : PySem.W.Frag} {mg : Str → Option Value} {base : Heap}
theorem Cal.g {k : Nat} {x : Str} {sp : Sp} (c : Cal P w K mg base k x sp) : CalG P w K mg base k x sp := by
  obtain ⟨f, fd, ps, F, hm, kp, b⟩ := c.ex
  exact ⟨f, fd, ps, ⟨F.len, fun A outer s H args us vs Q E _ => F.run A outer s H args us vs Q E⟩, hm, kp, b⟩
theorem cal_of {x : Str} {st : Stmt} {N ps : List Str} {k : Nat} {sp : Sp} (A : At K mg x st) (S : FnScope N ps (defScope st)) (hb : BindEq x st ps)
    (len : ∀ vs H Q E, sp vs H Q E → vs.length = ps.length)
    (hbody : ∀ (f : Addr) (cdv : Value) (A : Around) (outer : List Env) (s : Shared) (H : Hp) (vs : List V) (Q : VK) (E : XK), Room k (A.deeper (envOfC x (defScope st) s.heap.objs.size f cdv)) → sp vs H Q E →
      ∃ t, PSs (cxOf CX0 P w K mg base N x (defScope st) f cdv A outer s H E).nox (defBody st) t ∧ t { nx := fun _ H' => Q .non H', rt := Q } (start N vs) H) : Cal P w K mg base (k + 1) x sp := by
  obtain ⟨f, fd, F, hm⟩ := A
  refine ⟨f, fd, ps, F.ok S len fun cdv A outer s H vs Q E hr h => ?_, hm, F.kp, F.bindsN hb⟩
  obtain ⟨t, h1, h2⟩ := hbody f cdv A outer s H vs Q E hr h
  exact ⟨t, h1.nox, h2⟩
theorem fnG_of {x : Str} {st : Stmt} {N ps : List Str} {k : Nat} {sp : Sp} {f : Addr} {fd : FuncData} (F : FunD K x x (defArgs st) (defBody st) (defScope st) [] [] f fd) (S : FnScope N ps (defScope st))
    (len : ∀ vs H Q E, sp vs H Q E → vs.length = ps.length)
    (hbody : ∀ (cdv : Value) (A : Around) (outer : List Env) (s : Shared) (H : Hp) (vs : List V) (Q : VK) (E : XK), (A.deeper (envOfC x (defScope st) s.heap.objs.size f cdv)).guards = some [] → Room k (A.deeper (envOfC x (defScope st) s.heap.objs.size f cdv)) → sp vs H Q E →
      ∃ t, PSs (cxOf CX0 P w K mg base N x (defScope st) f cdv A outer s H E).nox (defBody st) t ∧ t { nx := fun _ H' => Q .non H', rt := Q } (start N vs) H) : FnG P w K mg base (k + 1) f fd ps sp := by
  refine ⟨len, fun A outer s H args us vs Q E gd hr e0 hb r hsp => ?_⟩
  obtain ⟨oc, od, dV, kV, doc, pm, an, cdv, ct, osl, rfl, lk, hcd, -, -⟩ := F.ex
  have kin : ∀ b o, base.get? b = some o → s.heap.get? b = some o := fun b o e => (e0.bs b o e).1
  have KX : K.In s.heap := e0.mod.kin.keeps kin
  refine codeAny_call_function hr.depth (KX _ _ lk) rfl S.co S.gen rfl (PySem.W.codeRec_of KX hcd) (hb _ _ _ _ ?_)
  refine wpAny_newFunctionEnv_cells S.kind (fun y hy => (S.par y.1 (List.of_mem_zip hy).1).imp id fun q => ⟨q, PySem.W.cellsFrom_some _ _ _ (.inl q)⟩) fun env he s1 ic => ?_
  cases he
  refine ⟨(e0.mod.nolimit.keeps kin).keeps ic.toInCall.keep, codeAny_func ?_⟩
  obtain ⟨t, ht, hq⟩ := hbody cdv A outer s H vs Q E gd (hr.deeper _) hsp
  have I : Inv (cxOf CX0 P w K mg base N x (defScope st) f cdv A outer s H E) [] (start N vs) H s1 := inv_start S hr.hd e0 (len _ _ _ _ hsp) r ic
  refine wpAny_mono (ht.nox.run [] s1 (start N vs) H _ I hq) (fun fl s' hs => ?_) fun _ _ hs => hs
  match fl, hs with
  | .ret u, ⟨v, σ', H', J, rv, q⟩ => exact ⟨v, H', J.os, J.bare, J.base, J.hok, rv, q⟩
  | .next, ⟨σ', H', J, q⟩ => exact ⟨V.non, H', J.os, J.bare, J.base, J.hok, rfl, q⟩
  | .brk, ⟨_, _, _, q⟩ => exact q.elim
  | .cont, ⟨_, _, _, q⟩ => exact q.elim
theorem calG_of {x : Str} {st : Stmt} {N ps : List Str} {k : Nat} {sp : Sp} (A : At K mg x st) (S : FnScope N ps (defScope st)) (hb : BindEq x st ps)
    (len : ∀ vs H Q E, sp vs H Q E → vs.length = ps.length)
    (hbody : ∀ (f : Addr) (cdv : Value) (A : Around) (outer : List Env) (s : Shared) (H : Hp) (vs : List V) (Q : VK) (E : XK), (A.deeper (envOfC x (defScope st) s.heap.objs.size f cdv)).guards = some [] → Room k (A.deeper (envOfC x (defScope st) s.heap.objs.size f cdv)) → sp vs H Q E →
      ∃ t, PSs (cxOf CX0 P w K mg base N x (defScope st) f cdv A outer s H E).nox (defBody st) t ∧ t { nx := fun _ H' => Q .non H', rt := Q } (start N vs) H) : CalG P w K mg base (k + 1) x sp := by
  obtain ⟨f, fd, F, hm⟩ := A
  exact ⟨f, fd, ps, fnG_of F S len (hbody f), hm, F.kp, F.bindsN hb⟩
end
end MN
/-! the end of a law's row: its def called where nothing is being shown -/
namespace MN
open PySem PySem.Spec PyProof.Rows L2
theorem law_g {P : Program} {w : World} {K : PySem.W.Frag} {mg mb : Str → Option Value} {k : Nat} {fa a : Addr} {fd : FuncData} {x : Str} {sp : Sp} {s₁ : Shared} {vs : List Value} {ns : List Int}
    (KX : K.In s₁.heap) (hns : s₁.heap.Ns mainGlobals mg) (hb : s₁.heap.Ns builtinsNs mb) (hbb : ∀ x : Str, x ≠ "__name__" → mb x = bootBuiltins x) (hlim : s₁.heap.NoLimit) (hg : s₁.gens = #[])
    (ha : s₁.heap.get? a = some { cls := .type "list", data := .seq vs.toArray }) (hi : IntsAre vs ns) (hl : ns.length ≤ sizeLine) (hr : Room k callerA)
    (F : ∀ base : Heap, K.In base → base.Ns mainGlobals mg → FnG P w K mg base k fa fd [x] sp) (hbind : ∀ (s : Shared) (u : Value), BindsTo s fd ⟨[u], []⟩ [(x, u)])
    (hsp : ∀ H : Hp, Only H → SqL K H a (ns.map V.int) → sp [.ref a] H (fun v _ => v = .bl true) E0) :
    codeAny (model P w) callerA (.call (.ref fa) ⟨[.ref a], []⟩) (fun r s' => r = .ok (.ret (.bool true)) ∧ OldK s₁.heap s'.heap ∧ s'.os = s₁.os ∧ AllBare s'.gens) s₁ := by
  have rv := vals_ints hi
  have core : ∀ H : Hp, Only H → SqL K H a (ns.map V.int) → HOk P w H s₁.heap → (∀ b u, H b = some u → b = a ∧ K.lookup a = none) →
      codeAny (model P w) callerA (.call (.ref fa) ⟨[.ref a], []⟩) (fun r s' => r = .ok (.ret (.bool true)) ∧ OldK s₁.heap s'.heap ∧ s'.os = s₁.os ∧ AllBare s'.gens) s₁ := by
    intro H hO hS hok hA
    have free : ∀ {b : Addr}, b ≠ a → H b = none := fun {b} hb => by
      cases q : H b with
      | none => rfl
      | some u => exact absurd (hA b u q).1 hb
    have nsK : ∀ {b : Addr} {m : Str → Option Value}, s₁.heap.Ns b m → (hidT s₁.heap H).Ns b m := fun {b m} ⟨o, es, ep, e, d, r⟩ => by
      refine ⟨o, es, ep, hidT_get e (free fun z => ?_), d, r⟩
      rw [z, ha] at e
      cases e
      cases (show Data.seq vs.toArray _ = Data.dict es ep from d)
    have hKb : K.In (hidT s₁.heap H) := fun b o e => by
      refine hidT_get (KX b o e) ?_
      cases q : H b with
      | none => rfl
      | some u =>
        obtain ⟨z, zk⟩ := hA b u q
        rw [z, zk] at e
        cases e
    have hM : Mod K mg (hidT s₁.heap H) := by
      obtain ⟨mc, h1, h2⟩ := hlim
      exact ⟨hKb, nsK hns, ⟨mb, nsK hb, hbb⟩, ⟨mc, nsK h1, h2⟩⟩
    have e0 : Env0 P w K mg (hidT s₁.heap H) callerA [] s₁ H := by
      refine ⟨rfl, hM, fun b o e => of_hidT e, Nat.le_of_eq (hidT_size _ _), trivial, fun b hb => ?_, hok, .of_eq hg⟩
      cases (show b ∈ ([] : List Addr) from hb)
    refine codeAny_mono ((F _ hKb (nsK hns)).run callerA [] s₁ H ⟨[.ref a], []⟩ [.ref a] [.ref a] _ _ rfl hr e0 (hbind s₁ (.ref a)) (.cons rfl .nil) (hsp H hO hS)) fun r s' h => ?_
    match r, h with
    | .ok (.ret u), ⟨v, H', os, bare, un, hok', r', q⟩ =>
      cases (show v = .bl true from q)
      cases (show u = Value.bool true from r')
      refine ⟨rfl, OldK.of_keep fun b o e => ?_, os, bare⟩
      rcases hO b with z | ⟨ob, xs, z⟩
      · exact un.keep b o e z (fun y => nomatch (show b ∈ ([] : List Addr) from y)) (fun y => nomatch (show b ∈ ([] : List Addr) from y))
      · have e1 := (hok b _ z).1
        have e2 := (hok' b _ (un.frzs b ob _ z)).1
        rw [e] at e1
        cases e1
        exact e2
  cases hk : K.lookup a with
  | some o =>
    have e := KX a o hk
    rw [ha] at e
    cases e
    refine core (fun _ => none) (fun _ => .inl rfl) (.inr ⟨_, vs.toArray, _, hk, rfl, rfl, rfl, ?_, by simpa using rv⟩) (fun _ _ z => nomatch z) (fun _ _ z => nomatch z)
    rw [List.size_toArray, hi.length]
    exact hl
  | none =>
    let o : Obj := { cls := .type "list", data := .seq vs.toArray }
    have at_ : ∀ b u, upd (fun _ => none) a (.frz o (.lst (ns.map V.int))) b = some u → b = a ∧ u = .frz o (.lst (ns.map V.int)) := fun b u q => by
      by_cases z : b = a
      · subst z
        rw [upd_same] at q
        exact ⟨rfl, (Option.some.inj q).symm⟩
      · rw [upd_ne z] at q
        cases q
    refine core (upd (fun _ => none) a (.frz o (.lst (ns.map V.int)))) (fun b => ?_) (.inl (.inr ⟨o, upd_same⟩)) (fun b u q => ?_) (fun b u q => ⟨(at_ b u q).1, hk⟩)
    · by_cases z : b = a
      · subst z; exact .inr ⟨_, _, upd_same⟩
      · exact .inl (upd_ne z)
    · obtain ⟨rfl, rfl⟩ := at_ b u q
      exact ⟨ha, by rw [List.length_map]; exact hl, vs, _, rv, ha⟩
theorem walk_g {l : PySem.W.OpenLaw} {n k : Nat} {q : Program} {loose : List Str} {XP : (Str → Option Value) → Heap → Prop} {YP : World → Heap → Prop} {d : DefRec} {x : Str}
    (hn : l.most = some n) (hn2 : n ≤ sizeLine) (hdf : d.params.defaults = []) (hr : Room k callerA)
    (F : ∀ (w : World) (mg : Str → Option Value) (fa : Addr) (h : Heap), YP w h → h.Ns mainGlobals mg → mg d.name = some (.ref fa) →
      ∃ (K : PySem.W.Frag) (fd : FuncData) (sp : Sp), K.In h ∧ (∀ (s : Shared) (u : Value), BindsTo s fd ⟨[u], []⟩ [(x, u)]) ∧
        (∀ (H : Hp) (a : Addr) (ns : List Int), ns.length ≤ n → Only H → SqL K H a (ns.map V.int) → sp [.ref a] H (fun v _ => v = .bl true) E0) ∧
        ∀ base : Heap, K.In base → base.Ns mainGlobals mg → FnG l.prog w K mg base k fa fd [x] sp) :
    PySem.W.WalkO q loose XP YP l.row.toRowW d [] (fun f vs => PySem.call f vs) := by
  refine Att.attach_call hn hdf fun w s₀ s₁ mg mb fa o pm cd doc a vs ns G Y ho hd hcd hmg hobj hints hlen hg => ?_
  obtain ⟨K, fd, sp, KX, hb, hsp, hF⟩ := F w mg fa _ Y G.T.g hmg
  exact law_g KX G.T.g G.T.b G.T.builtins G.T.nolimit hg hobj hints (Nat.le_trans hlen hn2) hr hF hb fun H hO hS => hsp H a ns hlen hO hS
end MN
namespace MN
open PySem L2
def top (i : Nat) : Stmt := PySem.Challenge.pw_mendnumber_k26_whole_rows_by_all_words.main.body.getD i (.Pass ⟨0, 0, 0, 0⟩)
end MN
/-! comprehensions whose tests and items leave the heap as it is -/
namespace MN
open PySem PySem.Spec PyProof.Rows L2
theorem seqL_upd {K : PySem.W.Frag} {H : Hp} {a D : Addr} {xs : List V} {o : HO} (h : SqL K H a xs) (hD : H D = none) : SqL K (upd H D o) a xs := by
  rcases h with (h | ⟨o, h⟩) | h
  · exact .inl (.inl (by rw [upd_ne (ne_of_none h hD)]; exact h))
  · exact .inl (.inr ⟨o, by rw [upd_ne (ne_of_none h hD)]; exact h⟩)
  · exact .inr h
theorem seqT_upd {K : PySem.W.Frag} {H : Hp} {a D : Addr} {xs : List V} {o : HO} (h : SqT K H a xs) (hD : H D = none) : SqT K (upd H D o) a xs := by
  rcases h with (h | ⟨o, h⟩) | h
  · exact .inl (.inl (by rw [upd_ne (ne_of_none h hD)]; exact h))
  · exact .inl (.inr ⟨o, by rw [upd_ne (ne_of_none h hD)]; exact h⟩)
  · exact .inr h
theorem Same.seqT {K : PySem.W.Frag} {H H' : Hp} {a : Addr} {xs : List V} (e : Same H H') (h : SqT K H a xs) : SqT K H' a xs := by
  rcases h with (h | ⟨o, h⟩) | h
  · exact .inl (.inl (e _ _ h))
  · exact .inl (.inr ⟨o, e _ _ h⟩)
  · exact .inr h
/-- the reading of a comprehension, from where its source's walk is known -/
abbrev LcGoal (J : It) (g : TG) (tt : TT) (te : TE) (vs : List Nat) (σ : L2.St) (H1 : Hp) (D : Addr) (Qd : Hp → Prop) : Prop := ∃ W : Nat → Nat → Hp → Prop, (∃ m, W 0 m (upd H1 D (.lst []))) ∧ ∀ i m H, W i m H →
  (J.stop i H ∧ Qd H) ∨ (J.go i H ∧ ∃ Nx : Hp → Prop, (∀ H', Nx H' → ∃ m', m' < m ∧ W (i + 1) m' H') ∧ ∀ x H', J.yld i H x H' → g x (wipe σ vs) H' fun σ2 H2 => wipe σ2 vs = wipe σ vs ∧ tt σ2 H2 fun b H3 =>
    if b = true then te σ2 H3 fun y H4 => ∃ acc, H4 D = some (.lst acc) ∧ acc.length < sizeLine ∧ Nx (upd H4 D (.lst (acc ++ [y]))) else Nx H3)
theorem lc_pure {J : It} {n : Nat} {G : Hp → Prop} {Y : Nat → Hp → V → Hp → Prop} (w : Walk J n G Y) (xs : List V) (hn : xs.length = n) (hz : n ≤ 1000000) (hY : ∀ i H x H', i < n → Y i H x H' → H' = H ∧ xs[i]? = some x)
    {j : Nat} {tt : TT} {te : TE} {vs : List Nat} {σ : L2.St} {H1 : Hp} {D : Addr} {Qd : Hp → Prop} (f : V → Bool) (v : V → V) (hG : ∀ acc, G (upd H1 D (.lst acc)))
    (hw : ∀ x ∈ xs, wipe ((wipe σ vs).set j (some x)) vs = wipe σ vs)
    (ht : ∀ x ∈ xs, ∀ (acc : List V) (Q : Bool → Hp → Prop), Q (f x) (upd H1 D (.lst acc)) → tt ((wipe σ vs).set j (some x)) (upd H1 D (.lst acc)) Q)
    (he : ∀ x ∈ xs, f x = true → ∀ (acc : List V) (Q : VK), Q (v x) (upd H1 D (.lst acc)) → te ((wipe σ vs).set j (some x)) (upd H1 D (.lst acc)) Q)
    (hd : Qd (upd H1 D (.lst ((xs.filter f).map v)))) : LcGoal J (gName j) tt te vs σ H1 D Qd := by
  refine lc_it w (fun i H' => H' = upd H1 D (.lst (((xs.take i).filter f).map v))) (by rw [List.take_zero]; rfl) (fun i H' _ e => by rw [e]; exact hG _) (fun i x H H' hi e y => ?_) (fun H' e => ?_)
  · obtain ⟨rfl, hx⟩ := hY i H x H' hi y
    subst e
    have hm : x ∈ xs := List.mem_of_getElem? hx
    have tk : xs.take (i + 1) = xs.take i ++ [x] := by rw [List.take_add_one, hx]; rfl
    refine ⟨hw x hm, ht x hm _ _ ?_⟩
    cases hf : f x with
    | false =>
      refine iteF ?_
      rw [tk, List.filter_append, List.filter_cons, hf]
      simp
    | true =>
      refine iteT (he x hm hf _ _ ⟨_, upd_same, ?_, ?_⟩)
      · rw [List.length_map]
        refine Nat.lt_of_le_of_lt (List.length_filter_le _ _) (Nat.lt_of_le_of_lt (List.length_take_le _ _) ?_)
        have : 1000000 < sizeLine := by decide
        omega
      · rw [upd_upd, tk, List.filter_append, List.filter_cons, hf]
        simp
  · rw [e, ← hn, List.take_length]
    exact hd
section
variable {K : PySem.W.Frag} {j : Nat} {tt : TT} {te : TE} {vs : List Nat} {σ : L2.St} {H1 : Hp} {D a : Addr} {Qd : Hp → Prop}
def signsOf (z : Str) : List V := z.cps.toList.map fun c => V.str ⟨#[c]⟩
theorem lc_str {z : Str} (hz : z.length ≤ 1000000) (f : V → Bool) (v : V → V) (hw : ∀ x ∈ signsOf z, wipe ((wipe σ vs).set j (some x)) vs = wipe σ vs)
    (ht : ∀ x ∈ signsOf z, ∀ (acc : List V) (Q : Bool → Hp → Prop), Q (f x) (upd H1 D (.lst acc)) → tt ((wipe σ vs).set j (some x)) (upd H1 D (.lst acc)) Q)
    (he : ∀ x ∈ signsOf z, f x = true → ∀ (acc : List V) (Q : VK), Q (v x) (upd H1 D (.lst acc)) → te ((wipe σ vs).set j (some x)) (upd H1 D (.lst acc)) Q)
    (hd : Qd (upd H1 D (.lst (((signsOf z).filter f).map v)))) : LcGoal (Its z) (gName j) tt te vs σ H1 D Qd := by
  refine lc_pure walk_str (signsOf z) (by simp [signsOf]) hz (fun i H x H' hi y => ?_) f v (fun _ => trivial) hw ht he hd
  obtain ⟨e, c, hc, rfl⟩ := y
  refine ⟨e, ?_⟩
  simp [signsOf, hc]
theorem lc_lst {xs : List V} (hs : SqL K H1 a xs) (hD : H1 D = none) (hz : xs.length ≤ 1000000) (f : V → Bool) (v : V → V) (hw : ∀ x ∈ xs, wipe ((wipe σ vs).set j (some x)) vs = wipe σ vs)
    (ht : ∀ x ∈ xs, ∀ (acc : List V) (Q : Bool → Hp → Prop), Q (f x) (upd H1 D (.lst acc)) → tt ((wipe σ vs).set j (some x)) (upd H1 D (.lst acc)) Q)
    (he : ∀ x ∈ xs, f x = true → ∀ (acc : List V) (Q : VK), Q (v x) (upd H1 D (.lst acc)) → te ((wipe σ vs).set j (some x)) (upd H1 D (.lst acc)) Q)
    (hd : Qd (upd H1 D (.lst ((xs.filter f).map v)))) : LcGoal (Itl K a) (gName j) tt te vs σ H1 D Qd :=
  lc_pure walk_list xs rfl hz (fun _ _ _ _ _ y => y) f v (fun _ => seqL_upd hs hD) hw ht he hd
theorem lc_tpl {xs : List V} (hs : SqT K H1 a xs) (hD : H1 D = none) (hz : xs.length ≤ 1000000) (f : V → Bool) (v : V → V) (hw : ∀ x ∈ xs, wipe ((wipe σ vs).set j (some x)) vs = wipe σ vs)
    (ht : ∀ x ∈ xs, ∀ (acc : List V) (Q : Bool → Hp → Prop), Q (f x) (upd H1 D (.lst acc)) → tt ((wipe σ vs).set j (some x)) (upd H1 D (.lst acc)) Q)
    (he : ∀ x ∈ xs, f x = true → ∀ (acc : List V) (Q : VK), Q (v x) (upd H1 D (.lst acc)) → te ((wipe σ vs).set j (some x)) (upd H1 D (.lst acc)) Q)
    (hd : Qd (upd H1 D (.lst ((xs.filter f).map v)))) : LcGoal (Itt K a) (gName j) tt te vs σ H1 D Qd :=
  lc_pure walk_tup xs rfl hz (fun _ _ _ _ _ y => y) f v (fun _ => seqT_upd hs hD) hw ht he hd
def rangeV (n : Nat) : List V := (List.range n).map fun (i : Nat) => V.int (i : Int)
theorem lc_rng {n : Nat} (hz : n ≤ 1000000) (f : V → Bool) (v : V → V) (hw : ∀ x ∈ rangeV n, wipe ((wipe σ vs).set j (some x)) vs = wipe σ vs)
    (ht : ∀ x ∈ rangeV n, ∀ (acc : List V) (Q : Bool → Hp → Prop), Q (f x) (upd H1 D (.lst acc)) → tt ((wipe σ vs).set j (some x)) (upd H1 D (.lst acc)) Q)
    (he : ∀ x ∈ rangeV n, f x = true → ∀ (acc : List V) (Q : VK), Q (v x) (upd H1 D (.lst acc)) → te ((wipe σ vs).set j (some x)) (upd H1 D (.lst acc)) Q)
    (hd : Qd (upd H1 D (.lst (((rangeV n).filter f).map v)))) : LcGoal (Itr 0 n) (gName j) tt te vs σ H1 D Qd := by
  refine lc_pure (walk_range (lo := 0)) (rangeV n) (by simp [rangeV]) hz (fun i H x H' hi y => ?_) f v (fun _ => trivial) hw ht he hd
  obtain ⟨e1, e2⟩ := y
  refine ⟨e1, ?_⟩
  simp [rangeV, hi, e2]
end
/-- tests and items may lay new objects -/
theorem lc_ext {J : It} {n : Nat} {G : Hp → Prop} {Y : Nat → Hp → V → Hp → Prop} (w : Walk J n G Y) (xs : List V) (hn : xs.length = n) (hz : n ≤ 1000000) (hY : ∀ i H x H', i < n → Y i H x H' → H' = H ∧ xs[i]? = some x)
    {j : Nat} {tt : TT} {te : TE} {vs : List Nat} {σ : L2.St} {H1 : Hp} {D : Addr} {Qd : Hp → Prop} (hD : H1 D = none) (f : V → Bool) (v : V → V) (hG : ∀ H', Same H1 H' → G H')
    (hw : ∀ x ∈ xs, wipe ((wipe σ vs).set j (some x)) vs = wipe σ vs)
    (ht : ∀ x ∈ xs, ∀ H2, Same H1 H2 → ∀ (Q : Bool → Hp → Prop), (∀ H3, Same H2 H3 → Q (f x) H3) → tt ((wipe σ vs).set j (some x)) H2 Q)
    (he : ∀ x ∈ xs, f x = true → ∀ H2, Same H1 H2 → ∀ (Q : VK), (∀ H3, Same H2 H3 → Q (v x) H3) → te ((wipe σ vs).set j (some x)) H2 Q)
    (hd : ∀ H', Same H1 H' → H' D = some (.lst ((xs.filter f).map v)) → Qd H') : LcGoal J (gName j) tt te vs σ H1 D Qd := by
  refine lc_it w (fun i H' => Same H1 H' ∧ H' D = some (.lst (((xs.take i).filter f).map v))) ⟨fun b o e => by rw [upd_ne (ne_of_none e hD)]; exact e, by rw [List.take_zero]; exact upd_same⟩ (fun i H' _ e => hG _ e.1) (fun i x H H' hi e y => ?_) (fun H' e => ?_)
  · obtain ⟨rfl, hx⟩ := hY i H x H' hi y
    obtain ⟨e1, e2⟩ := e
    have hm : x ∈ xs := List.mem_of_getElem? hx
    have tk : xs.take (i + 1) = xs.take i ++ [x] := by rw [List.take_add_one, hx]; rfl
    refine ⟨hw x hm, ht x hm _ e1 _ fun H3 e3 => ?_⟩
    cases hf : f x with
    | false =>
      refine iteF ⟨e1.trans e3, ?_⟩
      rw [tk, List.filter_append, List.filter_cons, hf]
      simpa using e3 _ _ e2
    | true =>
      refine iteT (he x hm hf _ (e1.trans e3) _ fun H4 e4 => ⟨_, e4 _ _ (e3 _ _ e2), ?_, fun b o q => ?_, ?_⟩)
      · rw [List.length_map]
        refine Nat.lt_of_le_of_lt (List.length_filter_le _ _) (Nat.lt_of_le_of_lt (List.length_take_le _ _) ?_)
        have : 1000000 < sizeLine := by decide
        omega
      · rw [upd_ne (ne_of_none q hD)]
        exact e4 _ _ (e3 _ _ (e1 _ _ q))
      · rw [upd_same, tk, List.filter_append, List.filter_cons, hf]
        simp
  · rw [← hn, List.take_length] at e
    exact hd H' e.1 e.2
section
variable {K : PySem.W.Frag} {j : Nat} {tt : TT} {te : TE} {vs : List Nat} {σ : L2.St} {H1 : Hp} {D a : Addr} {Qd : Hp → Prop}
theorem lc_tplE {xs : List V} (hs : SqT K H1 a xs) (hD : H1 D = none) (hz : xs.length ≤ 1000000) (f : V → Bool) (v : V → V) (hw : ∀ x ∈ xs, wipe ((wipe σ vs).set j (some x)) vs = wipe σ vs)
    (ht : ∀ x ∈ xs, ∀ H2, Same H1 H2 → ∀ (Q : Bool → Hp → Prop), (∀ H3, Same H2 H3 → Q (f x) H3) → tt ((wipe σ vs).set j (some x)) H2 Q)
    (he : ∀ x ∈ xs, f x = true → ∀ H2, Same H1 H2 → ∀ (Q : VK), (∀ H3, Same H2 H3 → Q (v x) H3) → te ((wipe σ vs).set j (some x)) H2 Q)
    (hd : ∀ H', Same H1 H' → H' D = some (.lst ((xs.filter f).map v)) → Qd H') : LcGoal (Itt K a) (gName j) tt te vs σ H1 D Qd :=
  lc_ext walk_tup xs rfl hz (fun _ _ _ _ _ y => y) hD f v (fun _ e => Same.seqT e hs) hw ht he hd
theorem lc_lstE {xs : List V} (hs : SqL K H1 a xs) (hD : H1 D = none) (hz : xs.length ≤ 1000000) (f : V → Bool) (v : V → V) (hw : ∀ x ∈ xs, wipe ((wipe σ vs).set j (some x)) vs = wipe σ vs)
    (ht : ∀ x ∈ xs, ∀ H2, Same H1 H2 → ∀ (Q : Bool → Hp → Prop), (∀ H3, Same H2 H3 → Q (f x) H3) → tt ((wipe σ vs).set j (some x)) H2 Q)
    (he : ∀ x ∈ xs, f x = true → ∀ H2, Same H1 H2 → ∀ (Q : VK), (∀ H3, Same H2 H3 → Q (v x) H3) → te ((wipe σ vs).set j (some x)) H2 Q)
    (hd : ∀ H', Same H1 H' → H' D = some (.lst ((xs.filter f).map v)) → Qd H') : LcGoal (Itl K a) (gName j) tt te vs σ H1 D Qd :=
  lc_ext walk_list xs rfl hz (fun _ _ _ _ _ y => y) hD f v (fun _ e => Same.seq e hs) hw ht he hd
end
theorem yes_q {σ : L2.St} {H : Hp} {Q : Bool → Hp → Prop} (h : Q true H) : tYes σ H Q := h
theorem filter_all {xs : List V} : xs.filter (fun _ => true) = xs := by simp
end MN
namespace MN
open PySem PySem.Spec PyProof.Rows L2
/-- the built-in names that no def of the module hides; the signs -/
structure Blt (mg : Str → Option Value) : Prop where
  isinstance : mg "isinstance" = none
  str : mg "str" = none
  len : mg "len" = none
  all : mg "all" = none
  tuple : mg "tuple" = none
  int : mg "int" = none
  bool : mg "bool" = none
  list : mg "list" = none
  dict : mg "dict" = none
  range : mg "range" = none
  sorted : mg "sorted" = none
  zip : mg "zip" = none
  max : mg "max" = none
  min : mg "min" = none
  abs : mg "abs" = none
  repr : mg "repr" = none
  sum : mg "sum" = none
  any : mg "any" = none
  set : mg "set" = none
  enumerate : mg "enumerate" = none
  SIGNS : ∃ u, mg "SIGNS" = some u ∧ RelV (.str "abcde") u
def bltNames : List Str := ([("isinstance" : Str), ("str" : Str), ("len" : Str), ("all" : Str), ("tuple" : Str), ("int" : Str), ("bool" : Str), ("list" : Str)] : List Str) ++ ([("dict" : Str), ("range" : Str), ("sorted" : Str), ("zip" : Str), ("max" : Str), ("min" : Str), ("abs" : Str), ("repr" : Str)] : List Str) ++ ([("sum" : Str), ("any" : Str), ("set" : Str), ("enumerate" : Str)] : List Str)
theorem Blt.of {mg : Str → Option Value} (h : ∀ x ∈ bltNames, mg x = none) (hs : ∃ u, mg "SIGNS" = some u ∧ RelV (.str "abcde") u) : Blt mg := by
  refine ⟨h _ ?_, h _ ?_, h _ ?_, h _ ?_, h _ ?_, h _ ?_, h _ ?_, h _ ?_, h _ ?_, h _ ?_, h _ ?_, h _ ?_, h _ ?_, h _ ?_, h _ ?_, h _ ?_, h _ ?_, h _ ?_, h _ ?_, h _ ?_, hs⟩ <;> simp [bltNames]
end MN
/-! rules of one's own: repr of data, powers, texts repeated, a tuple turned round -/
namespace MN
open PySem PySem.Spec PyProof.Rows L2
section
variable {X : Cx}
/-- repr of lists and tuples of data -/
def rRepr (K : PySem.W.Frag) : List V → Hp → VK → Prop := fun xs H Q => ∃ (x : V) (d : PyData), xs = [x] ∧ Dp K H x d ∧ isDisplay d = true ∧ d.showable = true ∧ d.hasDict = false ∧ d.depth ≤ 60 ∧ d.shown.length ≤ sizeLine ∧ Q (.str d.shown) H
theorem call_repr (gd : X.A.guards = some []) (hu : X.A.units + 64 < cLine) : CallR X (.builtin "repr") (rRepr X.K) := by
  intro pins s σ H vs us Q I r h
  obtain ⟨x, d, rfl, hd, h1, h2, h3, h4, h5, q⟩ := h
  cases r with
  | cons rx rn =>
    cases rn
    obtain ⟨as, rd⟩ := Dp.reads I d x _ hd rx
    obtain ⟨a, rfl⟩ := isRef_of_reads rd h1
    refine repr_of_reads' rd h2 (PyData.noDict_hsm h3) gd (by omega) (fun _ _ e => e) (fun h' u tk hk => ?_) h5
    exact ⟨.str d.shown, H, I.kept hk, ⟨u, rfl⟩, q⟩
/-- i ** j, as far as the bits go -/
theorem op_powB : OpR X (binaryOp .Pow) (rI (fun i j => 0 ≤ j ∧ (Builtin.Int.intBits i : Int) * j ≤ 2 ^ 27) fun i j => .int (i ^ j.toNat)) := opI fun _ _ _ _ _ _ _ hc q => pow_int hc.1 hc.2 q
/-- s * n -/
def repS (z : Str) (n : Int) : Str := ⟨((List.replicate n.toNat z.cps.toList).flatten).toArray⟩
theorem foldl_app (l : List (Array Nat)) : ∀ a : Array Nat, (l.foldl (· ++ ·) a).toList = a.toList ++ (l.map Array.toList).flatten := by
  induction l with
  | nil => intro a; simp
  | cons x l ih => intro a; rw [List.foldl_cons, ih]; simp
theorem repS_length (z : Str) (n : Int) : (repS z n).length = n.toNat * z.length := by
  simp [repS, Str.length]
def rRepS : R2 := fun x y H Q => ∃ (z : Str) (n : Int), x = .str z ∧ y = .int n ∧ 0 ≤ n ∧ n ≤ 100000 ∧ z.length ≤ 100 ∧ Q (.str (repS z n)) H
theorem op_repS : OpR X (binaryOp .Mult) rRepS := by
  intro pins s σ H x y v u Q I rx ry h
  obtain ⟨z, n, rfl, rfl, h0, h1, h2, q⟩ := h
  obtain ⟨t, rfl⟩ := rx
  obtain ⟨t2, rfl⟩ := ry
  have hb : z.length * n.toNat ≤ 100 * 100000 := Nat.mul_le_mul h2 (by omega)
  have hl : Builtin.Str.tooLong (z.length * n.toNat) = false := by
    have h9 : z.length * n.toNat ≤ sizeLine := Nat.le_trans hb (by decide)
    exact decide_eq_false (by omega)
  have hdiv : ¬ n < 1 → ¬ ((z.length : Int) > (2 ^ 63 - 1) / n) := fun hn => by
    have e : (100 : Int) ≤ (2 ^ 63 - 1) / n := (Int.le_ediv_iff_mul_le (by omega)).mpr (by omega)
    omega
  refine P.mul_str (by simp only [Bool.or_eq_false_iff, decide_eq_false_iff_not]; omega) (fun hn _ => hdiv hn) (fun _ _ => hl) ?_
  by_cases c1 : n < 1
  · have e : repS z n = Str.empty := by
      have : n.toNat = 0 := by omega
      simp [repS, this, Str.empty]
    rw [if_pos c1]
    rw [e] at q
    exact ⟨by decide, .str Str.empty, H, I.tok _, ⟨_, rfl⟩, q⟩
  · rw [if_neg c1]
    by_cases c2 : (n == 1 || z.length == 0) = true
    · rw [if_pos c2]
      have e : repS z n = z := by
        rw [Bool.or_eq_true] at c2
        rcases c2 with c2 | c2
        · have : n = 1 := eq_of_beq c2
          subst this
          simp [repS]
        · have hz : z.cps.toList = [] := by
            have : z.cps.size = 0 := eq_of_beq c2
            simpa using this
          obtain ⟨⟨l⟩⟩ := z
          cases hz
          simp [repS]
      rw [e] at q
      exact ⟨.str z, H, I, ⟨_, rfl⟩, q⟩
    · rw [if_neg c2]
      have e : (⟨(List.replicate n.toNat z.cps).foldl (· ++ ·) #[]⟩ : Str) = repS z n := by
        have := foldl_app (List.replicate n.toNat z.cps) #[]
        simp only [repS]
        congr 1
        apply Array.toList_inj.mp
        rw [this]
        simp
      rw [e]
      refine ⟨?_, .str (repS z n), H, I.tok _, ⟨_, rfl⟩, q⟩
      show (repS z n).length ≤ sizeLine
      rw [repS_length, Nat.mul_comm]
      exact Nat.le_trans hb (by decide)
/-! ### rules in a comprehension's block: the text's facts K are given by name -/
section
variable {K : PySem.W.Frag} (hK : X.K = K)
include hK
theorem lenK : CallR X (.builtin "len") (fun xs H Q => ∃ p ys, xs = [.ref p] ∧ (SqL K H p ys ∨ SqT K H p ys) ∧ Q (.int (ys.length : Nat)) H) := hK ▸ call_len_seq
theorem allK (hc : X.calm = true) : CallR X (.builtin "all") (rAll K) := hK ▸ cr_all hc
theorem isiK : CallR X (.builtin "isinstance") (rIsi K) := hK ▸ call_isi
theorem ixLK : IxR X (rIxL K) := hK ▸ ix_list
theorem ixTK : IxR X (rIxT K) := hK ▸ ix_tup
theorem inSeqK : OpR X (compareOp .In) (rIn K false) := hK ▸ op_in_seq
theorem notInSeqK : OpR X (compareOp .NotIn) (rIn K true) := hK ▸ op_notIn_seq
end
/-! ### methods of lists, the context a letter -/
section
variable {o e : Expr} {to te : TE} {apos cpos : Pos}
theorem pe_popAt (K : PySem.W.Frag) (hK : X.K = K) (ho : PE X o to) (he : PE X e te)
    (hbase : attributeBase o "pop" X.env (eval o X.env) = eval o X.env := by rfl)
    (hfew : ((backTo cpos (starEach [e] X.env)).all (fun x => !x.1) && (backToKw cpos (keywordEach [] X.env)).all (fun x => x.1.isSome) && decide ([e].length + ([] : List Keyword).length + (if ([] : List Keyword).isEmpty then 0 else 1) < 30)) = true := by rfl)
    (hline : (apos.endLine == cpos.line) = true := by rfl) (hs : starEach [e] X.env = (false, eval e X.env) :: starEach [] X.env := by rfl) : PE X (.Call (.Attribute o "pop" apos) [e] [] cpos) (tBM K "list" rPopAt to (tCons te tNil)) := hK ▸ pe_bm PySem.F.plainAttrs_list PySem.F.slot_list_pop PySem.F.type_list_pop mt_popAt ho (pa_cons he pa_nil hs) hbase hfew hline hs rfl
theorem pe_append (K : PySem.W.Frag) (hK : X.K = K) (ho : PE X o to) (he : PE X e te)
    (hbase : attributeBase o "append" X.env (eval o X.env) = eval o X.env := by rfl)
    (hfew : ((backTo cpos (starEach [e] X.env)).all (fun x => !x.1) && (backToKw cpos (keywordEach [] X.env)).all (fun x => x.1.isSome) && decide ([e].length + ([] : List Keyword).length + (if ([] : List Keyword).isEmpty then 0 else 1) < 30)) = true := by rfl)
    (hline : (apos.endLine == cpos.line) = true := by rfl) (hs : starEach [e] X.env = (false, eval e X.env) :: starEach [] X.env := by rfl) : PE X (.Call (.Attribute o "append" apos) [e] [] cpos) (tBM K "list" rAppend to (tCons te tNil)) := hK ▸ pe_bm PySem.F.plainAttrs_list PySem.F.slot_list_append PySem.F.type_list_append mt_append ho (pa_cons he pa_nil hs) hbase hfew hline hs rfl
end
end
end MN
/-! list(d.values()); a class called through a local name; what is never evaluated -/
namespace MN
open PySem PySem.Spec PyProof.Rows L2
section
variable {X : Cx}
def tNo : TE := fun _ _ _ => False
theorem pe_no {e : Expr} : PE X e tNo := ⟨fun _ _ _ _ _ _ h => h.elim⟩
theorem pi_no {tg e : Expr} : PI X tg e (fun _ _ _ => False) := ⟨fun _ _ _ _ _ _ h => h.elim⟩
def tListVals (te : TE) : TE := fun σ H Q => te σ H fun x H1 => ∃ (d : Addr) (kvs : List (Key × V)), x = .ref d ∧ H1 d = some (.dK kvs) ∧ ∀ q, H1 q = none → Q (.ref q) (upd H1 q (.lst (kvs.map (·.2))))
theorem kv_vals : ∀ {kvs : List (Key × V)} {vs : List (Key × Value)}, KV kvs vs → Vals (kvs.map (·.2)) (vs.map (·.2))
  | [], [], _ => .nil
  | _ :: _, _ :: _, .cons h t => .cons h.2 (kv_vals t)
variable {e : Expr} {te : TE} {p apos cpos pos : Pos}
/-- list(e.values()) -/
theorem pe_listVals (hc : X.calm = true) (he : PE X e te) (hg : Gl X "list") (hm : X.mg "list" = none) (hbase : attributeBase e "values" X.env (eval e X.env) = eval e X.env := by rfl) (hline : (apos.endLine == cpos.line) = true := by rfl)
    (hs : starEach [.Call (.Attribute e "values" apos) [] [] cpos] X.env = (false, eval (.Call (.Attribute e "values" apos) [] [] cpos) X.env) :: starEach [] X.env := by rfl) :
    PE X (.Call (.Name "list" p) [.Call (.Attribute e "values" apos) [] [] cpos] [] pos) (tListVals te) := by
  refine ⟨fun pins s σ H Q I hq => ?_⟩
  refine wpAny_Call_Name_kw (ld_blt I hg hm boot_list ?_)
  refine PyProof.Rows.callWith_type1 ?_ hs rfl
  rw [hs]
  show wpAny _ _ (spliced ((false, eval (.Call (.Attribute e "values" apos) [] [] cpos) X.env) :: backTo pos (starEach [] X.env))) _ _ s
  refine Calls.spliced_cons ?_
  refine wpAny_Call_method (T := "dict") (id := "dict.values") hbase rfl hline F.plainAttrs_dict F.slot_dict_values F.type_dict_values (thn (he.run pins s σ H _ I hq) fun u s1 ⟨x, H1, I1, rx, d, kvs, ex, hd, q⟩ => ?_)
  subst ex
  obtain rfl : u = Value.ref d := rx
  obtain ⟨hz, hs0, vs, kv, hdo⟩ := I1.hok d _ hd
  obtain ⟨ep, hat⟩ := hdo.dictAt
  have lk : kvs.length = vs.length := Paired.length kv
  have I2 : Inv X pins σ H1 { s1 with heap := s1.heap.push { cls := .type "dict_values", data := .fields #[.ref d] } } := I1.kept (t' := s1.toks) fun b ob q => Heap.get?_push_of_some _ q
  refine ⟨hdo.typeIs, hdo.mapOf.noDict, ?_⟩
  show wpAny _ _ (callWith cpos (.builtin "dict.values") [.ref d] [] []) _ X.xe s1
  refine method_meetsIn F.slot_dict_values F.entry_dict_values rfl (PySem.evalArgs_none ⟨rfl, hdo.typeIs, F.args_dict_values_1 _, _, meets_dict_values (mixKind X.prog X.w) d hs0, ⟨vs, hdo⟩, ?_⟩)
  refine Calls.spliced_nil ?_
  refine PySem.W.kdl_call (PySem.W.kdl_values (knd := mixKind X.prog X.w) (kvs := vs) (ep := ep)) (I1.ok.hd hc) ⟨⟨_, Heap.get?_push_size _ rfl, rfl, rfl⟩, hat.push _⟩ (by rw [← lk]; exact hz) fun h' tk acc' c' hkeep hS hacc => ?_
  have el : acc'.toList.length = acc'.size := by simp
  have ev : acc'.toList = vs.map (·.2) := PySem.W.kdl_vals_eq acc'.toList (by rw [el, hacc.1]) fun j v h2 => hacc.2 j v (by rw [← Array.getElem?_toList]; exact h2)
  refine ⟨.ref _, upd H1 _ (.lst (kvs.map (·.2))), I2.laid hkeep (Nat.le_refl _) (show ObjOk X.prog X.w _ _ _ (.lst (kvs.map (·.2))) from ⟨?_, acc'.toList, c', ?_, ?_⟩), rfl, q _ (I2.hok.fresh (Nat.le_refl _))⟩
  · rw [List.length_map]; exact hz
  · rw [ev]; exact kv_vals kv
  · rw [Array.toArray_toList]; exact hS
end
section
variable {X : Cx} {CX : CXT} {k i : Nat} {f C : Addr} {fd : FuncData} {ps ks : List Str} {sp : Sp} {E : XK} {x : Str} {p pos : Pos} {kws : List Keyword} {tk : TA} {g : List Value → List Value → List Value} {gV : List V → List V → List V}
/-- the class that the i-th slot holds, called by keywords alone -/
def tMakeKL (i : Nat) (C : Addr) (m : Nat) (sp : Sp) (gV : List V → List V → List V) (E : XK) (tk : TA) : TE := fun σ H Q => σ[i]? = some (some (.ref C)) ∧ tMakeK C 0 m sp gV E tNil tk σ H Q
theorem pe_makeKL (M : Mk X.K C f) (F : FnOk X.prog X.w X.K X.mg X.base CX k f fd ps sp) (hr : Room (k + 1) X.A) (hN : X.N[i]? = some x) (hv : Vis X.env.scope x) (hb : KBn X.K fd ps 1 ks g gV) (hx : Passes CX X E) (hkw : PK X kws tk)
    (hall : (backToKw pos (keywordEach kws X.env)).all (·.1.isSome) = true := by rfl) (hks : (backToKw pos (keywordEach kws X.env)).filterMap (·.1) = ks := by rfl) (hdb : (x == ("__debug__" : Str)) = false := by decide) (hcd : (x == ("__classdict__" : Str)) = false := by decide)
    (hpl : ((backTo pos (starEach [] X.env)).any (·.1) || (backToKw pos (keywordEach kws X.env)).any (·.1.isNone)) = false := by rfl) :
    PE X (.Call (.Name x p) [] kws pos) (tMakeKL i C ks.length sp gV E tk) := by
  refine ⟨fun pins s σ H Q I h => ?_⟩
  obtain ⟨hs, h⟩ := h
  refine wpAny_Call_Name_kw (thn ((pe_var (pos := p) hN hv hdb hcd).run pins s σ H (fun v H1 => v = .ref C ∧ H1 = H) I ⟨.ref C, hs, rfl, rfl⟩) fun u s1 ⟨v, H1, I1, r1, q1⟩ => ?_)
  obtain ⟨rfl, rfl⟩ := q1
  cases r1
  refine PySem.W.callWith_KW0 (h₀ := X.base) I.ok.mod.kin M.kp hall ?_ hpl
  refine thn (hkw.run pos pins s1 σ _ _ I1 h) fun ws s2 ⟨zs, H2, I2, rz, l1, l2, q2⟩ => ⟨I2.kIn, ?_⟩
  rw [hks]
  exact run_makeK (us := []) (vs := []) M F hr hb hx I2 .nil rz rfl l2 q2
end
/-! ### isinstance(value, str) where value may be an instance with slots -/
/-- an instance with slots, of a class that is no text -/
def SlNo (K : PySem.W.Frag) (H : Hp) (v : V) (u : Value) : Prop := ∃ a C dx vs, v = .ref a ∧ SlX.Slt H a C dx vs ∧ SlX.SCls K C ∧ SlX.SIsi K C ∧ PySem.W.kitOne K (.ref C) u = some false
def IsX (K : PySem.W.Frag) (H : Hp) (v : V) (c : String) (b : Bool) : Prop := (∃ t, TyX K H v t ∧ PySem.W.kitOne K t (.type c) = some b) ∨ (b = false ∧ SlNo K H v (.type c))
theorem IsX.str {K : PySem.W.Frag} {H : Hp} {z : Str} : IsX K H (.str z) "str" true := .inl ⟨_, .base (.str z), kit_ty (by decide +kernel)⟩
def rIsS (K : PySem.W.Frag) : List V → Hp → VK → Prop := fun xs H Q => ∃ x c b, xs = [x, .ty c] ∧ IsX K H x c b ∧ Q (.bl b) H
theorem call_isS {X : Cx} : CallR X (.builtin "isinstance") (rIsS X.K) := by
  intro pins s σ H xs us Q I r h
  obtain ⟨x, c, b, rfl, h | ⟨rfl, a, C, dx, vs, rfl, h1, h2, h3, h4⟩, q⟩ := h
  · obtain ⟨t, h1, h2⟩ := h
    exact call_isi pins s σ H _ us Q I r ⟨x, .ty c, t, .type c, b, rfl, .ty _, h1, h2, q⟩
  · refine SlX.call_isiSl (.type c) pins s σ H _ us Q I r ⟨a, C, dx, vs, .ty c, false, rfl, rfl, fun w e => e, h1, h2, h3, h4, q⟩
end MN
/-! lemmas that hang on no law: walks, locked dicts, instances with slots -/
namespace MN
open PySem PySem.Spec PyProof.Rows L2
theorem same_new {H : Hp} {p : Addr} {o : HO} (h : H p = none) : Same H (upd H p o) := fun b u e => by rw [upd_ne (ne_of_none e h)]; exact e
theorem tyT {K : PySem.W.Frag} {H : Hp} {t : Addr} {xs : List V} (h : SqT K H t xs) : TyX K H (.ref t) (.type "tuple") := by
  rcases h with (h | ⟨o, h⟩) | h
  · exact .base (.tup h)
  · exact .fTuple h
  · obtain ⟨o, its, n, e1, e2, _⟩ := h
    exact .kTuple e1 e2
abbrev GlC (mg : Str → Option Value) (x : Str) (v : V) : Prop := ∃ u, mg x = some u ∧ RelV v u
theorem IsX.ty {K : PySem.W.Frag} {H : Hp} {v : V} {a c : String} {b : Bool} (h : TyX K H v (.type a)) (hk : kitB a c = some b) : IsX K H v c b := .inl ⟨_, h, kit_ty hk⟩
theorem pg_tupK {X : Cx} {pos : Pos} {K : PySem.W.Frag} (hK : X.K = K) {es : List Expr} {k : Nat} {t : TGs} {n : Nat} (hc : X.calm = true) (h : PGs X es t)
    (hn : (assignEach es X.env).length = n := by rfl) (hst : (assignEach es X.env).findIdx? (·.1) = none := by rfl) : PG X (.Tuple es k pos) (gTup K n t) := hK ▸ pg_tup hc h hn hst
theorem isSK {X : Cx} {K : PySem.W.Frag} (hK : X.K = K) : CallR X (.builtin "isinstance") (rIsS K) := hK ▸ call_isS
theorem walk_zipT {K : PySem.W.Frag} {a b : Addr} {xs ys : List V} {n : Nat} (hn : n = min xs.length ys.length) : Walk (RZ.ItzT K a b) n (fun H => SqT K H a xs ∧ SqT K H b ys) (YPair (fun i => xs[i]?) (fun i => ys[i]?)) := by
  subst hn
  refine ⟨fun i _ hi q => ?_, fun _ q => ⟨xs, ys, q.1, q.2, by omega⟩, fun i H v H' _ q y => ?_⟩
  · have h1 : i < xs.length := by omega
    have h2 : i < ys.length := by omega
    exact ⟨xs, ys, xs[i], ys[i], q.1, q.2, by simp [h1], by simp [h2]⟩
  · obtain ⟨T, x, y, h1, h2, h3, h4, h5⟩ := y
    exact ⟨T, x, y, h1, h2, h3, h4 xs q.1, h5 ys q.2⟩
section
variable {j : Nat} {tt : TT} {te : TE} {vs : List Nat} {σ : L2.St} {H1 : Hp} {D d : Addr} {o : Obj} {Qd : Hp → Prop}
theorem lc_keys {kvs : List (Key × V)} (hs : H1 d = some (.frz o (.dK kvs))) (hD : H1 D = none) (hz : kvs.length ≤ 1000000) (f : V → Bool) (v : V → V) (hw : ∀ x ∈ kvs.map (fun kv => kV kv.1), wipe ((wipe σ vs).set j (some x)) vs = wipe σ vs)
    (ht : ∀ x ∈ kvs.map (fun kv => kV kv.1), ∀ (acc : List V) (Q : Bool → Hp → Prop), Q (f x) (upd H1 D (.lst acc)) → tt ((wipe σ vs).set j (some x)) (upd H1 D (.lst acc)) Q)
    (he : ∀ x ∈ kvs.map (fun kv => kV kv.1), f x = true → ∀ (acc : List V) (Q : VK), Q (v x) (upd H1 D (.lst acc)) → te ((wipe σ vs).set j (some x)) (upd H1 D (.lst acc)) Q)
    (hd : Qd (upd H1 D (.lst (((kvs.map fun kv => kV kv.1).filter f).map v)))) : LcGoal (Itk d o kvs) (gName j) tt te vs σ H1 D Qd := by
  refine lc_pure walk_keys (kvs.map fun kv => kV kv.1) (by simp) hz (fun i H x H' hi y => ?_) f v (fun _ => by rw [upd_ne (ne_of_none hs hD)]; exact hs) hw ht he hd
  obtain ⟨e, k, v', h1, rfl⟩ := y
  exact ⟨e, by simp [h1]⟩
theorem dc_it {J : It} {n : Nat} {G : Hp → Prop} {Y : Nat → Hp → V → Hp → Prop} (w : Walk J n G Y) {g : TG} {tk tv : TE} (Pv : Nat → Hp → Prop) (h0 : Pv 0 (upd H1 D (.dK []))) (hG : ∀ i H, i ≤ n → Pv i H → G H)
    (hs : ∀ i x H H', i < n → Pv i H → Y i H x H' → g x (wipe σ vs) H' fun σ2 H2 => wipe σ2 vs = wipe σ vs ∧ tt σ2 H2 fun b H3 =>
      if b = true then tk σ2 H3 fun y H4 => tv σ2 H4 fun z H5 => ∃ kvs k, y = kV k ∧ H5 D = some (.dK kvs) ∧ kvs.length < sizeLine ∧ Pv (i + 1) (upd H5 D (.dK (putK kvs k z))) else Pv (i + 1) H3) (hd : ∀ H, Pv n H → Qd H) :
    ∃ W : Nat → Nat → Hp → Prop, (∃ m, W 0 m (upd H1 D (.dK []))) ∧ ∀ i m H, W i m H →
      (J.stop i H ∧ Qd H) ∨ (J.go i H ∧ ∃ Nx : Hp → Prop, (∀ H', Nx H' → ∃ m', m' < m ∧ W (i + 1) m' H') ∧ ∀ x H', J.yld i H x H' → g x (wipe σ vs) H' fun σ2 H2 => wipe σ2 vs = wipe σ vs ∧ tt σ2 H2 fun b H3 =>
        if b = true then tk σ2 H3 fun y H4 => tv σ2 H4 fun z H5 => ∃ kvs k, y = kV k ∧ H5 D = some (.dK kvs) ∧ kvs.length < sizeLine ∧ Nx (upd H5 D (.dK (putK kvs k z))) else Nx H3) := by
  refine ⟨fun i m H => m = n - i ∧ i ≤ n ∧ Pv i H, ⟨n, by simp, Nat.zero_le _, h0⟩, ?_⟩
  rintro i m H ⟨rfl, hi, p⟩
  have q := hG i H hi p
  by_cases hlt : i < n
  · exact .inr ⟨w.goes i H hlt q, Pv (i + 1), fun H' p' => ⟨n - (i + 1), by omega, rfl, hlt, p'⟩, fun x H' y => hs i x H H' hlt p (w.yields i H x H' hlt q y)⟩
  · obtain rfl : i = n := by omega
    exact .inl ⟨w.stops H q, hd H p⟩
theorem dp_it {J : It} {n : Nat} {G : Hp → Prop} {Y : Nat → Hp → V → Hp → Prop} {o0 : HO} (w : Walk J n G Y) {g : TG} {tk tv : TE} (Pv : Nat → Hp → Prop) (h0 : Pv 0 (upd H1 D o0)) (hG : ∀ i H, i ≤ n → Pv i H → G H)
    (hs : ∀ i x H H', i < n → Pv i H → Y i H x H' → g x (wipe σ vs) H' fun σ2 H2 => wipe σ2 vs = wipe σ vs ∧ tt σ2 H2 fun b H3 =>
      if b = true then tk σ2 H3 fun y H4 => tv σ2 H4 fun z H5 => ∃ H6, DPut H5 D y z H6 ∧ Pv (i + 1) H6 else Pv (i + 1) H3) (hd : ∀ H, Pv n H → Qd H) :
    ∃ W : Nat → Nat → Hp → Prop, (∃ m, W 0 m (upd H1 D o0)) ∧ ∀ i m H, W i m H →
      (J.stop i H ∧ Qd H) ∨ (J.go i H ∧ ∃ Nx : Hp → Prop, (∀ H', Nx H' → ∃ m', m' < m ∧ W (i + 1) m' H') ∧ ∀ x H', J.yld i H x H' → g x (wipe σ vs) H' fun σ2 H2 => wipe σ2 vs = wipe σ vs ∧ tt σ2 H2 fun b H3 =>
        if b = true then tk σ2 H3 fun y H4 => tv σ2 H4 fun z H5 => ∃ H6, DPut H5 D y z H6 ∧ Nx H6 else Nx H3) := by
  refine ⟨fun i m H => m = n - i ∧ i ≤ n ∧ Pv i H, ⟨n, by simp, Nat.zero_le _, h0⟩, ?_⟩
  rintro i m H ⟨rfl, hi, p⟩
  have q := hG i H hi p
  by_cases hlt : i < n
  · exact .inr ⟨w.goes i H hlt q, Pv (i + 1), fun H' p' => ⟨n - (i + 1), by omega, rfl, hlt, p'⟩, fun x H' y => hs i x H H' hlt p (w.yields i H x H' hlt q y)⟩
  · obtain rfl : i = n := by omega
    exact .inl ⟨w.stops H q, hd H p⟩
end
/-- nothing to walk over -/
theorem lc_none {J : It} {g : TG} {tt : TT} {te : TE} {vs : List Nat} {σ : L2.St} {H1 : Hp} {D : Addr} {Qd : Hp → Prop} (h : J.stop 0 (upd H1 D (.lst []))) (q : Qd (upd H1 D (.lst []))) : LcGoal J g tt te vs σ H1 D Qd :=
  ⟨fun i _ H => i = 0 ∧ H = upd H1 D (.lst []), ⟨0, rfl, rfl⟩, fun _ _ _ e => by
    obtain ⟨rfl, rfl⟩ := e
    exact .inl ⟨h, q⟩⟩
/-- locked, a list laid, unlocked -/
theorem same_lock {H : Hp} {a D : Addr} {u : HO} {o : Obj} {x : HO} (h : H a = some u) (hD : (upd H a (.frz o u)) D = none) : Same H (upd (upd (upd H a (.frz o u)) D x) a u) ∧ (upd (upd (upd H a (.frz o u)) D x) a u) D = some x ∧ D ≠ a := by
  have n : D ≠ a := fun z => by rw [z, upd_same] at hD; cases hD
  refine ⟨fun b y e => ?_, by rw [upd_ne n, upd_same], n⟩
  by_cases z : b = a
  · rw [z, upd_same]; rw [z, h] at e; exact e
  · rw [upd_ne z]
    have n2 : b ≠ D := fun q => by rw [upd_ne n] at hD; rw [q, hD] at e; cases e
    rw [upd_ne n2, upd_ne z]; exact e
theorem lc_keysL {j : Nat} {tt : TT} {te : TE} {vs : List Nat} {σ : L2.St} {H1 : Hp} {D a : Addr} {od : Obj} {kvs : List (Key × V)} {Qd : Hp → Prop} (h : H1 a = some (.dK kvs)) (hD : (upd H1 a (.frz od (.dK kvs))) D = none) (hz : kvs.length ≤ 1000000) (f : V → Bool) (v : V → V) (hw : ∀ x ∈ kvs.map (fun kv => kV kv.1), wipe ((wipe σ vs).set j (some x)) vs = wipe σ vs)
    (ht : ∀ x ∈ kvs.map (fun kv => kV kv.1), ∀ H2, H2 a = some (.frz od (.dK kvs)) → (∀ b o, b ≠ a → H1 b = some o → H2 b = some o) → ∀ (Q : Bool → Hp → Prop), Q (f x) H2 → tt ((wipe σ vs).set j (some x)) H2 Q)
    (he : ∀ x ∈ kvs.map (fun kv => kV kv.1), f x = true → ∀ H2, H2 a = some (.frz od (.dK kvs)) → (∀ b o, b ≠ a → H1 b = some o → H2 b = some o) → ∀ (Q : VK), Q (v x) H2 → te ((wipe σ vs).set j (some x)) H2 Q)
    (hd : ∀ H', H' a = some (.frz od (.dK kvs)) → Same H1 (upd H' a (.dK kvs)) → upd H' a (.dK kvs) D = some (.lst (((kvs.map fun kv => kV kv.1).filter f).map v)) → Qd H') :
    LcGoal (Itk a od kvs) (gName j) tt te vs σ (upd H1 a (.frz od (.dK kvs))) D Qd := by
  have n : D ≠ a := fun z => by rw [z, upd_same] at hD; cases hD
  have k1 : ∀ acc, upd (upd H1 a (.frz od (.dK kvs))) D (.lst acc) a = some (.frz od (.dK kvs)) := fun acc => by rw [upd_ne n.symm, upd_same]
  have k2 : ∀ acc b o, b ≠ a → H1 b = some o → upd (upd H1 a (.frz od (.dK kvs))) D (.lst acc) b = some o := fun acc b o nb e => by
    have n2 : b ≠ D := fun q => by rw [upd_ne n] at hD; rw [q, hD] at e; cases e
    rw [upd_ne n2, upd_ne nb]; exact e
  refine lc_keys upd_same hD hz f v hw (fun x hx acc Q q => ht x hx _ (k1 _) (k2 _) Q q) (fun x hx hf acc Q q => he x hx hf _ (k1 _) (k2 _) Q q) ?_
  obtain ⟨s, sD, _⟩ := same_lock (x := .lst (((kvs.map fun kv => kV kv.1).filter f).map v)) h hD
  exact hd _ (k1 _) s sD
theorem slt_same {H H' : Hp} {a C dx : Addr} {vs : List (Option V)} (e : Same H H') (h : SlX.Slt H a C dx vs) : SlX.Slt H' a C dx vs := by
  rcases h with ⟨h, rfl⟩ | ⟨h1, h2⟩
  · exact .inl ⟨e _ _ h, rfl⟩
  · exact .inr ⟨e _ _ h1, e _ _ h2⟩
theorem piTupK {X : Cx} {K : PySem.W.Frag} (hK : X.K = K) {tg l : Expr} {tl : TE} (hl : PE X l tl) : PI X tg l (iTup K tl) := hK ▸ pi_tup hl
theorem putK_le (kvs : List (Key × V)) (k : Key) (v : V) : (putK kvs k v).length ≤ kvs.length + 1 := by
  unfold putK
  split <;> simp
/-- an instance with slots, laid -/
def Sl2 (H : Hp) (a C dx : Addr) (vs : List (Option V)) : Prop := H a = some (SlX.SlO a C dx vs) ∧ H dx = some (.xd [])
theorem slH_sl2 {H : Hp} {a C dx : Addr} {vs : List (Option V)} (h : dx ≠ a) : Sl2 (SlX.slH H a C dx vs) a C dx vs := ⟨upd_same, by unfold SlX.slH; rw [upd_ne h, upd_same]⟩
/-- all but x and dx stays -/
def Kp (x dx : Addr) (H H' : Hp) : Prop := ∀ b o, b ≠ x → b ≠ dx → H b = some o → H' b = some o
theorem Kp.same {x dx : Addr} {H H1 H2 : Hp} (h : Kp x dx H H1) (e : Same H1 H2) : Kp x dx H H2 := fun b o n1 n2 q => e _ _ (h b o n1 n2 q)
theorem Kp.sl {x dx C : Addr} {vs : List (Option V)} {H H1 : Hp} (h : Kp x dx H H1) : Kp x dx H (SlX.slH H1 x C dx vs) := fun b o n1 n2 q => by
  rw [SlX.slH_ne n1 n2]; exact h b o n1 n2 q
section
variable {P : Program} {w : World} {K : PySem.W.Frag} {mg : Str → Option Value} {base : Heap}
theorem fnok_of {x qual : Str} {params : Arguments} {body : List Stmt} {scope : Scope} {dvs : List V} {kws : List (Str × V)} {f : Addr} {fd : FuncData} {N ps : List Str} {k : Nat} {sp : Sp} (F : FunD K x qual params body scope dvs kws f fd) (S : FnScope N ps scope) (len : ∀ vs H Q E, sp vs H Q E → vs.length = ps.length)
    (hbody : ∀ (cdv : Value) (A : Around) (outer : List Env) (s : Shared) (H : Hp) (vs : List V) (Q : VK) (E : XK), Room k (A.deeper (envOfC qual scope s.heap.objs.size f cdv)) → sp vs H Q E →
      ∃ t, PSs (cxOf CX0 P w K mg base N qual scope f cdv A outer s H E).nox body t ∧ t { nx := fun _ H' => Q .non H', rt := Q } (start N vs) H) : FnOk P w K mg base CX0 (k + 1) f fd ps sp :=
  F.ok S len fun cdv A outer s H vs Q E hr h => by
    obtain ⟨t, h1, h2⟩ := hbody cdv A outer s H vs Q E hr h
    exact ⟨t, h1.nox, h2⟩
abbrev FunAt (K : PySem.W.Frag) (x qual : Str) (st : Stmt) (dvs : List V) (f : Addr) (fd : FuncData) : Prop := FunD K x qual (defArgs st) (defBody st) (defScope st) dvs [] f fd
end
/-- a new object, in a word -/
theorem laid {H : Hp} {q : Addr} (o : HO) (h : H q = none) : Same H (upd H q o) ∧ upd H q o q = some o := ⟨same_new h, upd_same⟩
end MN
/-! the order of words: by length, then sign by sign -/
namespace MN
open PySem
def ahead (a b : Str) : Prop := a.length < b.length ∨ (a.length = b.length ∧ a.cps.toList < b.cps.toList)
instance (a b : Str) : Decidable (ahead a b) := by unfold ahead; infer_instance
theorem str_ext {a b : Str} (h : a.cps.toList = b.cps.toList) : a = b := PySem.W.str_of_cps h
theorem str_eq_iff {a b : Str} : a = b ↔ a.cps.toList = b.cps.toList := ⟨fun h => by rw [h], str_ext⟩
theorem ahead_irrefl (a : Str) : ¬ ahead a a := fun h => by
  rcases h with h | ⟨_, h⟩
  · omega
  · exact List.lt_irrefl _ h
theorem ahead_trans {a b c : Str} (h : ahead a b) (h' : ahead b c) : ahead a c := by
  rcases h with h | ⟨e, h⟩ <;> rcases h' with h' | ⟨e', h'⟩
  · exact .inl (by omega)
  · exact .inl (by omega)
  · exact .inl (by omega)
  · exact .inr ⟨by omega, List.lt_trans h h'⟩
theorem ahead_total (a b : Str) : ahead a b ∨ a = b ∨ ahead b a := by
  by_cases h1 : a.length < b.length
  · exact .inl (.inl h1)
  by_cases h2 : b.length < a.length
  · exact .inr (.inr (.inl h2))
  have e : a.length = b.length := by omega
  by_cases h3 : a.cps.toList < b.cps.toList
  · exact .inl (.inr ⟨e, h3⟩)
  by_cases h4 : b.cps.toList < a.cps.toList
  · exact .inr (.inr (.inr ⟨e.symm, h4⟩))
  exact .inr (.inl (str_ext (List.le_antisymm (List.not_lt.mp h4) (List.not_lt.mp h3))))
def leW (a b : Str) : Bool := !decide (ahead b a)
/-- each once, in the order in which they are met -/
def uniq (zs : List Str) : List Str := zs.foldl (fun acc z => if z ∈ acc then acc else acc ++ [z]) []
theorem uniq_spec (zs : List Str) : ∀ acc : List Str, acc.Nodup → (zs.foldl (fun acc z => if z ∈ acc then acc else acc ++ [z]) acc).Nodup ∧ ∀ x, x ∈ zs.foldl (fun acc z => if z ∈ acc then acc else acc ++ [z]) acc ↔ x ∈ acc ∨ x ∈ zs := by
  induction zs with
  | nil => intro acc h; exact ⟨h, fun x => by simp⟩
  | cons z zs ih =>
    intro acc h
    rw [List.foldl_cons]
    by_cases hz : z ∈ acc
    · rw [if_pos hz]
      obtain ⟨h1, h2⟩ := ih acc h
      refine ⟨h1, fun x => ?_⟩
      rw [h2 x, List.mem_cons]
      constructor
      · rintro (q | q)
        · exact .inl q
        · exact .inr (.inr q)
      · rintro (q | q | q)
        · exact .inl q
        · exact .inl (q ▸ hz)
        · exact .inr q
    · rw [if_neg hz]
      have hn : (acc ++ [z]).Nodup := List.nodup_append.mpr ⟨h, by simp, fun a ha b hb e => hz (by rw [List.mem_singleton] at hb; rw [← hb, ← e]; exact ha)⟩
      obtain ⟨h1, h2⟩ := ih (acc ++ [z]) hn
      refine ⟨h1, fun x => ?_⟩
      rw [h2 x, List.mem_append, List.mem_singleton, List.mem_cons]
      constructor
      · rintro ((q | q) | q)
        · exact .inl q
        · exact .inr (.inl q)
        · exact .inr (.inr q)
      · rintro (q | q | q)
        · exact .inl (.inl q)
        · exact .inl (.inr q)
        · exact .inr q
theorem uniq_nodup (zs : List Str) : (uniq zs).Nodup := (uniq_spec zs [] List.nodup_nil).1
theorem mem_uniq (zs : List Str) (x : Str) : x ∈ uniq zs ↔ x ∈ zs := by
  have h := (uniq_spec zs [] List.nodup_nil).2 x
  have e : x ∈ uniq zs ↔ x ∈ ([] : List Str) ∨ x ∈ zs := h
  simpa using e
def ord (zs : List Str) : List Str := (uniq zs).mergeSort leW
theorem mem_ord {zs : List Str} {x : Str} : x ∈ ord zs ↔ x ∈ zs := by
  unfold ord
  rw [List.mem_mergeSort, mem_uniq]
theorem ord_sorted (zs : List Str) : (ord zs).Pairwise ahead := by
  have h1 : (ord zs).Pairwise fun a b => leW a b = true := by
    refine List.pairwise_mergeSort (fun a b c h h' => ?_) (fun a b => ?_) _
    · simp only [leW, Bool.not_eq_true', decide_eq_false_iff_not] at *
      intro q
      rcases ahead_total b c with z | z | z
      · exact h (ahead_trans z q)
      · exact h (z ▸ q)
      · exact h' z
    · simp only [leW, Bool.or_eq_true, Bool.not_eq_true', decide_eq_false_iff_not]
      by_cases q : ahead b a
      · exact .inr fun q' => ahead_irrefl _ (ahead_trans q q')
      · exact .inl q
  have h2 : (ord zs).Nodup := (List.mergeSort_perm _ _).nodup_iff.mpr (uniq_nodup zs)
  have h2' : (ord zs).Pairwise fun a b => a ≠ b := h2
  refine List.Pairwise.imp₂ (fun a b h h' => ?_) h1 h2'
  simp only [leW, Bool.not_eq_true', decide_eq_false_iff_not] at h
  rcases ahead_total a b with z | z | z
  · exact z
  · exact absurd z h'
  · exact absurd z h
/-- only one list ascends and has these members -/
theorem sorted_one : ∀ {xs ys : List Str}, xs.Pairwise ahead → ys.Pairwise ahead → (∀ z, z ∈ xs ↔ z ∈ ys) → xs = ys
  | [], [], _, _, _ => rfl
  | [], y :: ys, _, _, h => absurd ((h y).mpr List.mem_cons_self) (by simp)
  | x :: xs, [], _, _, h => absurd ((h x).mp List.mem_cons_self) (by simp)
  | x :: xs, y :: ys, hx, hy, h => by
    rw [List.pairwise_cons] at hx hy
    have e : x = y := by
      rcases ahead_total x y with z | z | z
      · have := (h x).mp List.mem_cons_self
        rcases List.mem_cons.mp this with q | q
        · exact q
        · exact absurd (ahead_trans z (hy.1 x q)) (ahead_irrefl _)
      · exact z
      · have := (h y).mpr List.mem_cons_self
        rcases List.mem_cons.mp this with q | q
        · exact q.symm
        · exact absurd (ahead_trans z (hx.1 y q)) (ahead_irrefl _)
    subst e
    congr 1
    refine sorted_one hx.2 hy.2 fun z => ?_
    have hz := h z
    rw [List.mem_cons, List.mem_cons] at hz
    constructor
    · intro q
      rcases hz.mp (.inr q) with e | e
      · exact absurd (e ▸ hx.1 z q) (ahead_irrefl _)
      · exact e
    · intro q
      rcases hz.mpr (.inr q) with e | e
      · exact absurd (e ▸ hy.1 z q) (ahead_irrefl _)
      · exact e
theorem ord_eq {xs ys : List Str} (h : ∀ z, z ∈ xs ↔ z ∈ ys) : ord xs = ord ys := sorted_one (ord_sorted _) (ord_sorted _) fun z => by rw [mem_ord, mem_ord]; exact h z
theorem ord_of {xs : List Str} (h : xs.Pairwise ahead) : ord xs = xs := sorted_one (ord_sorted _) h fun z => mem_ord
theorem ord_ord (xs : List Str) : ord (ord xs) = ord xs := ord_of (ord_sorted xs)
theorem ord_reverse (xs : List Str) : ord xs.reverse = ord xs := ord_eq fun z => List.mem_reverse
theorem ord_length (zs : List Str) : (ord zs).length ≤ zs.length := by
  unfold ord
  rw [List.length_mergeSort]
  have h : ∀ (zs acc : List Str), (zs.foldl (fun acc z => if z ∈ acc then acc else acc ++ [z]) acc).length ≤ acc.length + zs.length := by
    intro zs
    induction zs with
    | nil => intro acc; simp
    | cons z zs ih =>
      intro acc
      rw [List.foldl_cons, List.length_cons]
      have := ih (if z ∈ acc then acc else acc ++ [z])
      split at this
      · rename_i q; rw [if_pos q]; omega
      · rename_i q; rw [if_neg q]; rw [List.length_append, List.length_singleton] at this; omega
  simpa [uniq] using h zs []
theorem dataLe_rank : PySem.W.dataLe false (fun z : Str => PyData.tuple [.int z.length, .str z]) = leW := by
  funext a b
  show (!PySem.W.dataLt (.tuple [.int b.length, .str b]) (.tuple [.int a.length, .str a])) = _
  rw [PySem.W.dataLt_pair (by simp [PySem.W.alike]) (by simp [PySem.W.alike]), PySem.W.dataLt_int, PySem.W.dataLt_str]
  simp only [PyData.eqv, leW, ahead, beq_iff_eq]
  congr 1
  by_cases h1 : (b.length : Int) = a.length
  · have e : b.length = a.length := by omega
    have nl : ¬ b.length < a.length := by omega
    rw [if_pos h1]
    by_cases h2 : b = a
    · subst h2
      rw [if_pos rfl]
      exact (decide_eq_false (fun q => ahead_irrefl b q)).symm
    · rw [if_neg h2]
      simp [e]
  · have e : b.length ≠ a.length := by omega
    rw [if_neg h1]
    simp only [e, false_and, or_false]
    congr 1
    exact propext ⟨fun q => by omega, fun q => by omega⟩
end MN
/-! the defs about words -/
namespace MN
open PySem PySem.Spec PyProof.Rows L2
theorem str_one {z : Str} (h : z.length = 1) : ∃ c, z = ⟨#[c]⟩ := by
  obtain ⟨⟨l⟩⟩ := z
  match l, h with
  | [c], _ => exact ⟨c, rfl⟩
/-- a value: a text, or one of a kind that is no text -/
def ValOk (K : PySem.W.Frag) (H : Hp) (v : V) : Prop := (∃ z : Str, v = .str z ∧ z.length ≤ 100000) ∨ ((∀ z, v ≠ .str z) ∧ IsX K H v "str" false)
theorem ValOk.str {K : PySem.W.Frag} {H : Hp} {z : Str} (h : z.length ≤ 100000) : ValOk K H (.str z) := .inl ⟨z, rfl, h⟩
def sgn (c : Nat) : Bool := decide (c ∈ ("abcde" : Str).cps.toList)
def isWordS (z : Str) : Bool := z.cps.toList.all sgn
def isWord : V → Bool
  | .str z => isWordS z
  | _ => false
def isSign : V → Bool
  | .str z => decide (z.length = 1) && isWordS z
  | _ => false
theorem isWord_no {v : V} (h : ∀ z, v ≠ .str z) : isWord v = false := by
  cases v with
  | str z => exact absurd rfl (h z)
  | _ => rfl
theorem isSign_no {v : V} (h : ∀ z, v ≠ .str z) : isSign v = false := by
  cases v with
  | str z => exact absurd rfl (h z)
  | _ => rfl
section
variable {P : Program} {w : World} {K : PySem.W.Frag} {mg : Str → Option Value} {base : Heap}
/-! ### is_sign -/
def spIsSign (K : PySem.W.Frag) : Sp := fun vs H Q _ => ∃ v, vs = [v] ∧ ValOk K H v ∧ Q (.bl (isSign v)) H
theorem sc_is_sign : FnScope ["value"] ["value"] (defScope (top 15)) := ⟨rfl, rfl, rfl, by decide +kernel, rfl, by decide +kernel, by decide +kernel⟩
theorem c_is_sign (A : At K mg "is_sign" (top 15)) (B : Blt mg) : Cal P w K mg base 1 "is_sign" (spIsSign K) := by
  refine cal_of A sc_is_sign (fun _ _ _ _ _ _ us hl => match us, hl with | [_], _ => rfl) (fun vs H Q E h => ?_) (fun f cdv A outer s H vs Q E hr h => ?_)
  · obtain ⟨v, rfl, _⟩ := h; rfl
  · obtain ⟨v, rfl, hv, hQ⟩ := h
    refine ⟨_, pss_one (ps_ret (pe_and (pe_callB call_isS (by rfl) B.isinstance (by decide +kernel) (pa_cons (pv 0) (pa_cons (pe_bltn (v := .ty "str") (by rfl) B.str (by decide +kernel) rfl) pa_nil)))
      (pe_and (pe_cmpR op_eq (pe_callB call_len_str (by rfl) B.len PySem.boot_len (pa_cons (pv 0) pa_nil)) pe_int (nomark _))
        (pe_one (pe_cmpR op_in_sign (pv 0) (pe_gl (by rfl) B.SIGNS) (by rfl)))))), ?_⟩
    rcases hv with ⟨z, rfl, hz⟩ | ⟨hn, hk⟩
    · refine ⟨_, rfl, .str z, "str", true, rfl, .str, true, rfl, iteT ?_⟩
      refine ⟨_, rfl, z, rfl, Nat.le_trans hz (by decide), rfl, _, rfl, ?_⟩
      by_cases h1 : z.length = 1
      · obtain ⟨c, rfl⟩ : ∃ c, z = ⟨#[c]⟩ := str_one h1
        rw [show decide (V.int ((⟨#[c]⟩ : Str).length : Int) = V.int 1) = true from rfl]
        refine iteT ⟨_, rfl, c, _, rfl, rfl, ?_⟩
        have e : isSign (.str ⟨#[c]⟩) = decide (c ∈ ("abcde" : Str).cps.toList) := by simp [isSign, isWordS, Str.length, sgn]
        rw [← e]; exact hQ
      · have e0 : decide (V.int (z.length : Int) = V.int 1) = false := decide_eq_false (fun q => h1 (by injection q with q; omega))
        rw [e0]
        have e : isSign (.str z) = false := by simp [isSign, h1]
        rw [e] at hQ
        exact iteF hQ
    · refine ⟨_, rfl, v, "str", false, rfl, hk, false, rfl, iteF ?_⟩
      rw [isSign_no hn] at hQ
      exact hQ
/-! ### is_word -/
def spIsWord (K : PySem.W.Frag) : Sp := fun vs H Q _ => ∃ v, vs = [v] ∧ ValOk K H v ∧ ∀ H', Same H H' → Q (.bl (isWord v)) H'
abbrev N_is_word : List Str := ["value", "sign"]
theorem sc_is_word : FnScope N_is_word ["value"] (defScope (top 16)) := ⟨rfl, rfl, rfl, by decide +kernel, rfl, by decide +kernel, by decide +kernel⟩
theorem c_is_word (A : At K mg "is_word" (top 16)) (B : Blt mg) : Cal P w K mg base 1 "is_word" (spIsWord K) := by
  refine cal_of A sc_is_word (fun _ _ _ _ _ _ us hl => match us, hl with | [_], _ => rfl) (fun vs H Q E h => ?_) (fun f cdv A outer s H vs Q E hr h => ?_)
  · obtain ⟨v, rfl, _⟩ := h; rfl
  · obtain ⟨v, rfl, hv, hQ⟩ := h
    refine ⟨_, (pss_one (ps_ret (pe_and (pe_callB call_isS (by rfl) B.isinstance (by decide +kernel) (pa_cons (pv 0) (pa_cons (pe_bltn (v := .ty "str") (by rfl) B.str (by decide +kernel) rfl) pa_nil)))
      (pe_one (pe_callB (cr_all rfl) (by rfl) B.all (by decide +kernel) (pa_cons (pe_lc (own := [("sign", 1)]) (g := gName 1) (tt := tYes) (by rfl) sc_is_word.nd (pi_str (pv 0))
        (blkOk_by (own := [("sign", 1)]) (N := N_is_word) (sc := defScope (top 16)) (by decide +kernel)) (fun _ _ _ _ _ => (pg_name (i := 1) sc_is_word.nd rfl (Or.inl rfl))) (fun _ _ _ _ _ => pts_nil)
        (fun _ _ _ _ _ => (pe_cmpR op_in_sign (pv 1) (pe_gl (by rfl) B.SIGNS) (by rfl)))) pa_nil)))))), ?_⟩
    rcases hv with ⟨z, rfl, hz⟩ | ⟨hn, hk⟩
    · refine ⟨_, rfl, .str z, "str", true, rfl, .str, true, rfl, iteT ?_⟩
      refine ⟨_, rfl, z, rfl, fun D hD => lc_str (by omega) (fun _ => true) (fun x => .bl (isWord x)) (fun x _ => rfl) (fun x _ acc Q q => q) (fun x hx _ acc Q q => ?_) ?_⟩
      · obtain ⟨c, hc, rfl⟩ := List.mem_map.mp hx
        refine ⟨_, rfl, c, _, rfl, rfl, ?_⟩
        have e : isWord (.str ⟨#[c]⟩) = decide (c ∈ ("abcde" : Str).cps.toList) := by simp [isWord, isWordS, sgn]
        rw [← e]; exact q
      · refine ⟨D, (signsOf z).map isWord, rfl, .inl (.inl ?_), ?_⟩
        · rw [filter_all, List.map_map]; exact upd_same
        · have e : ((signsOf z).map isWord).all id = isWordS z := by
            simp [signsOf, isWordS, isWord, List.all_map, Function.comp_def]
          rw [e]
          exact hQ _ (same_new hD)
    · refine ⟨_, rfl, v, "str", false, rfl, hk, false, rfl, iteF ?_⟩
      rw [isWord_no hn] at hQ
      exact hQ _ (Same.refl _)
end
end MN
/-! the defs about numbers -/
namespace MN
open PySem PySem.Spec PyProof.Rows L2
def big : Int := 10 ^ 60
def isInt (n : Int) : Bool := decide (-big < n) && decide (n < big)
theorem isInt_of {n : Int} (h1 : -1000000 ≤ n) (h2 : n ≤ 1000000) : isInt n = true := by
  have : (1000000 : Int) < big := by decide +kernel
  unfold isInt
  rw [decide_eq_true (by omega), decide_eq_true (by omega)]
  rfl
section
variable {P : Program} {w : World} {K : PySem.W.Frag} {mg : Str → Option Value} {base : Heap}
def spIsInt (K : PySem.W.Frag) : Sp := fun vs H Q _ => ∃ v, vs = [v] ∧ ((∃ n, v = .int n ∧ Q (.bl (isInt n)) H) ∨ (∃ b, v = .bl b ∧ Q (.bl false) H) ∨ (IsX K H v "int" false ∧ Q (.bl false) H))
theorem sc_is_integer : FnScope ["value"] ["value"] (defScope (top 14)) := ⟨rfl, rfl, rfl, by decide +kernel, rfl, by decide +kernel, by decide +kernel⟩
theorem c_is_integer (A : At K mg "is_integer" (top 14)) (B : Blt mg) (G : GlC mg "GREATEST" (.int big)) : Cal P w K mg base 1 "is_integer" (spIsInt K) := by
  refine cal_of A sc_is_integer (fun _ _ _ _ _ _ us hl => match us, hl with | [_], _ => rfl) (fun vs H Q E h => ?_) (fun f cdv A outer s H vs Q E hr h => ?_)
  · obtain ⟨v, rfl, _⟩ := h; rfl
  · obtain ⟨v, rfl, hQ⟩ := h
    refine ⟨_, (pss_one (ps_ret (pe_and (pe_callB call_isS (by rfl) B.isinstance (by decide +kernel) (pa_cons (pv 0) (pa_cons (pe_bltn (v := .ty "int") (by rfl) B.int (by decide +kernel) rfl) pa_nil))) (pe_and (pe_not (pe_callB call_isS (by rfl) B.isinstance (by decide +kernel) (pa_cons (pv 0) (pa_cons (pe_bltn (v := .ty "bool") (by rfl) B.bool (by decide +kernel) rfl) pa_nil)))) (pe_one (pe_chain op_lt op_lt (pe_un un_neg (pe_gl (by rfl) G)) (pv 0) (pe_gl (by rfl) G))))))), ?_⟩
    rcases hQ with ⟨n, rfl, hQ⟩ | ⟨b, rfl, hQ⟩ | ⟨hi, hQ⟩
    · refine ⟨_, rfl, _, _, true, rfl, .ty (.base (.int n)) (by decide +kernel), _, rfl, iteT ?_⟩
      refine ⟨_, rfl, _, _, false, rfl, .ty (.base (.int n)) (by decide +kernel), _, rfl, _, rfl, iteT ?_⟩
      refine ⟨_, rfl, _, rfl, _, _, rfl, rfl, _, rfl, ?_⟩
      by_cases h1 : -big < n
      · rw [decide_eq_true h1]
        refine iteT ⟨_, _, rfl, rfl, ?_⟩
        unfold isInt at hQ
        rw [decide_eq_true h1] at hQ
        exact hQ
      · rw [decide_eq_false h1]
        unfold isInt at hQ
        rw [decide_eq_false h1] at hQ
        exact iteF hQ
    · refine ⟨_, rfl, _, _, true, rfl, .ty (.base (.bl b)) (by decide +kernel), _, rfl, iteT ?_⟩
      exact ⟨_, rfl, _, _, true, rfl, .ty (.base (.bl b)) (by decide +kernel), _, rfl, _, rfl, iteF hQ⟩
    · exact ⟨_, rfl, _, _, false, rfl, hi, _, rfl, iteF hQ⟩
end
end MN
/-! require_number -/
namespace MN
open PySem PySem.Spec PyProof.Rows L2
section
variable {P : Program} {w : World} {K : PySem.W.Frag} {mg : Str → Option Value} {base : Heap}
/-- a number within its bounds -/
def spReqNumber : Sp := fun vs H Q _ => ∃ n lo hi, vs = [.int n, .int lo, .int hi] ∧ isInt n = true ∧ lo ≤ n ∧ n ≤ hi ∧ Q .non H
theorem sc_require_number : FnScope ["value", "low", "high"] ["value", "low", "high"] (defScope (top 18)) := ⟨rfl, rfl, rfl, by decide +kernel, rfl, by decide +kernel, by decide +kernel⟩
theorem c_require_number (A : At K mg "require_number" (top 18)) (c_is_integer : Cal P w K mg base 1 "is_integer" (spIsInt K)) : Cal P w K mg base 2 "require_number" spReqNumber := by
  refine cal_of A sc_require_number (fun _ _ _ _ _ _ us hl => match us, hl with | [_, _, _], _ => rfl) (fun vs H Q E h => ?_) (fun f cdv A outer s H vs Q E hr h => ?_)
  · obtain ⟨n, lo, hi, rfl, _⟩ := h; rfl
  · obtain ⟨n, lo, hi, rfl, hn, h1, h2, hQ⟩ := h
    refine ⟨_, (pss_one (ps_if (PW.pt (pw_or (pt_not (pt_val (pe_c c_is_integer hr (by decide) (by rfl) (pa_cons (pv 0) pa_nil)))) (pw_or1 (pt_not (pt_chain op_le op_le (pv 1) (pv 0) (pv 2))))))
      (pss_one ps_never)
      pss_nil)), ?_⟩
    refine ⟨_, rfl, _, rfl, .inl ⟨n, rfl, _, rfl, ?_⟩⟩
    rw [hn]
    refine iteF ⟨_, rfl, _, rfl, _, _, rfl, rfl, _, rfl, ?_⟩
    rw [decide_eq_true h1]
    refine iteT ⟨_, rfl, _, _, rfl, rfl, _, rfl, ?_⟩
    rw [decide_eq_true h2]
    exact iteF hQ
end
end MN
/-! is_price -/
namespace MN
open PySem PySem.Spec PyProof.Rows L2
section
variable {P : Program} {w : World} {K : PySem.W.Frag} {mg : Str → Option Value} {base : Heap}
/-- prices: whole numbers -/
def spIsPrice (K : PySem.W.Frag) : Sp := fun vs H Q _ => ∃ v m, vs = [v, .int m] ∧ ((∃ n, v = .int n ∧ Q (.bl (isInt n && (decide (1 ≤ n) && decide (n ≤ m)))) H) ∨ (∃ b, v = .bl b ∧ Q (.bl false) H) ∨ (IsX K H v "int" false ∧ Q (.bl false) H))
theorem sc_is_price : FnScope ["value", "most"] ["value", "most"] (defScope (top 22)) := ⟨rfl, rfl, rfl, by decide +kernel, rfl, by decide +kernel, by decide +kernel⟩
theorem c_is_price (A : At K mg "is_price" (top 22)) (c_is_integer : Cal P w K mg base 1 "is_integer" (spIsInt K)) : Cal P w K mg base 2 "is_price" (spIsPrice K) := by
  refine cal_of A sc_is_price (fun _ _ _ _ _ _ us hl => match us, hl with | [_, _], _ => rfl) (fun vs H Q E h => ?_) (fun f cdv A outer s H vs Q E hr h => ?_)
  · obtain ⟨v, m, rfl, _⟩ := h; rfl
  · obtain ⟨v, m, rfl, hQ⟩ := h
    refine ⟨_, (pss_one (ps_ret (pe_and (pe_c c_is_integer hr (by decide) (by rfl) (pa_cons (pv 0) pa_nil)) (pe_one (pe_chain op_le op_le pe_int (pv 0) (pv 1)))))), ?_⟩
    refine ⟨_, rfl, _, rfl, ?_⟩
    rcases hQ with ⟨n, rfl, hQ⟩ | ⟨b, rfl, hQ⟩ | ⟨hi, hQ⟩
    · refine .inl ⟨n, rfl, _, rfl, ?_⟩
      cases hn : isInt n with
      | false => rw [hn] at hQ; exact iteF hQ
      | true =>
        rw [hn] at hQ
        refine iteT ⟨_, rfl, _, _, rfl, rfl, _, rfl, ?_⟩
        by_cases h1 : 1 ≤ n
        · rw [decide_eq_true h1] at hQ ⊢
          exact iteT ⟨_, rfl, _, _, rfl, rfl, hQ⟩
        · rw [decide_eq_false h1] at hQ ⊢
          exact iteF hQ
    · exact .inr (.inl ⟨b, rfl, _, rfl, iteF hQ⟩)
    · exact .inr (.inr ⟨hi, _, rfl, iteF hQ⟩)
end
end MN
/-! dict comprehensions with one and with two clauses, keys of any kind that a tracked dict knows -/
namespace MN
open PySem PySem.Spec PyProof.Rows L2
theorem d_setP {X : Cx} {pins : List (Addr × Obj)} {σ : L2.St} {H H' : Hp} {s : Shared} {E : Value → Shared → Prop} {D : Addr} {y v : V} {u r : Value} {Q : Unit → Shared → Prop} (hu : X.A.units + 1 < cLine) (I : Inv X pins σ H s) (g : DPut H D y v H')
    (ry : RelV y u) (rv : RelV v r) (h : ∀ s', Inv X pins σ H' s' → Q () s') : wpAny (model X.prog X.w) X.A (dictSet D u r) Q E s := by
  rcases g with ⟨kvs, k, e, ey, l, eH⟩ | ⟨kvs, k, b, e, ey, eb, l, eH⟩
  · subst ey eH
    exact d_dictSet I e l ry rv h
  · subst ey eH
    cases (show u = Value.ref b from ry)
    obtain ⟨z, hd, xs, rel, dd⟩ := dt_of I.hok e
    have hz : xs.length ≤ sizeLine := by rw [← Paired.length rel]; exact z
    have hl : (putK kvs k v).length ≤ sizeLine := by have := length_putK kvs k v; omega
    refine wpAny_dictSet_heap (hsz := hz) (show X.A.units < cLine by omega) (key_of I.hok eb) dd fun h' dd' hs => h _ ?_
    obtain ⟨q, es, ep, hq, h2, h3, h4, _, h5⟩ := dd'
    refine d_write I (by rw [e]; exact True.intro) hs ⟨q, hq⟩ ⟨hl, hd, _, (rel.put k eb rv).keeps fun c ys ec => ?_, q, es, ep, hq, h2, h3, h4, h5⟩
    rw [upd_ne (ne_of ec e (fun z => nomatch z))]
    exact ec
theorem turn2_out (kx vx t0 i0 t1 i1 : Expr) (ifs0 ifs1 : List Expr) (scope : Scope) (pos : Pos) (it acc : Value) (env : Env) :
    compTurn (.DictComp kx vx [⟨t0, i0, ifs0, 0⟩, ⟨t1, i1, ifs1, 0⟩] scope pos) 0 it acc env = (do
      standAt i0.pos
      match ← pyNext it with
      | none => pure (.done .next)
      | some v =>
        letOwnedTupleGo t0 it v
        assign t0 env v
        let mut ok := true
        for c in ifs0 do
          if ok then ok ← isTrue c env (eval c env)
        if ok then
          let x ← eval i1 env
          standAt i1.pos
          let x ← foldedSetIterable i1 env x
          let _ ← runOwn (.compStart (.DictComp kx vx [⟨t0, i0, ifs0, 0⟩, ⟨t1, i1, ifs1, 0⟩] scope pos) 1 (← holding [x] (pyIter x)) acc env) env
        again (.compLoop (.DictComp kx vx [⟨t0, i0, ifs0, 0⟩, ⟨t1, i1, ifs1, 0⟩] scope pos) 0 it acc env)) := by rfl
theorem turn2_in (kx vx t0 i0 t1 i1 : Expr) (ifs0 ifs1 : List Expr) (scope : Scope) (pos : Pos) (it : Value) (D : Addr) (env : Env) :
    compTurn (.DictComp kx vx [⟨t0, i0, ifs0, 0⟩, ⟨t1, i1, ifs1, 0⟩] scope pos) 1 it (.ref D) env = (do
      standAt i1.pos
      match ← pyNext it with
      | none => pure (.done .next)
      | some v =>
        letOwnedTupleGo t1 it v
        assign t1 env v
        let mut ok := true
        for c in ifs1 do
          if ok then ok ← isTrue c env (eval c env)
        if ok then
          (do
            let kv ← eval kx env
            let vv ← holding [kv] (eval vx env)
            standAt { kx.pos with endLine := vx.pos.endLine, endCol := vx.pos.endCol }
            holding [kv, vv] (dictSet D kv vv))
        again (.compLoop (.DictComp kx vx [⟨t0, i0, ifs0, 0⟩, ⟨t1, i1, ifs1, 0⟩] scope pos) 1 it (.ref D) env)) := by rfl
section
variable {prog : Program} {w : World} {A : Around} {R : Result → Shared → Prop} {s : Shared} {kx vx t0 i0 t1 i1 : Expr} {ifs0 ifs1 : List Expr} {scope : Scope} {pos : Pos} {it acc : Value} {D : Addr} {env : Env}
theorem loop2_out (hs : ∀ x, foldedSetIterable i1 env x = pure x) (I : Nat → Shared → Prop)
    (turn : ∀ n s, I n s → wpAny (model prog w) A (pyNext it) (fun r s₁ => match r with
      | none => R (.ok .next) s₁
      | some v => wpAny (model prog w) A (letOwnedTupleGo t0 it v) (fun _ s₂ => wpAny (model prog w) A (assign t0 env v) (fun _ s₃ => wpAny (model prog w) A (forIn ifs0 true fun c r => if r = true then do let ok ← isTrue c env (eval c env); pure (ForInStep.yield ok) else pure (ForInStep.yield r)) (fun ok s₄ =>
          if ok = true then wpAny (model prog w) A (eval i1 env) (fun x s₅ => wpAny (model prog w) A (pyIter x) (fun j s₆ =>
            codeAny (model prog w) A (.compStart (.DictComp kx vx [⟨t0, i0, ifs0, 0⟩, ⟨t1, i1, ifs1, 0⟩] scope pos) 1 j acc env) (fun r s' => match r with
              | .ok _ => ∃ m, m < n ∧ I m s'
              | .error _ => False) s₆) (notedBy (model prog w) A env fun e s' => R (.error e) s') s₅) (notedBy (model prog w) A env fun e s' => R (.error e) s') s₄
          else ∃ m, m < n ∧ I m s₄) (notedBy (model prog w) A env fun e s' => R (.error e) s') s₃) (notedBy (model prog w) A env fun e s' => R (.error e) s') s₂) (notedBy (model prog w) A env fun e s' => R (.error e) s') s₁) (notedBy (model prog w) A env fun e s' => R (.error e) s') s)
    (n : Nat) (h : I n s) : codeAny (model prog w) A (.compLoop (.DictComp kx vx [⟨t0, i0, ifs0, 0⟩, ⟨t1, i1, ifs1, 0⟩] scope pos) 0 it acc env) R s := by
  refine codeAny_loop rfl I (fun n s hI => ?_) n h
  show wpAny _ A ((compTurn (.DictComp kx vx [⟨t0, i0, ifs0, 0⟩, ⟨t1, i1, ifs1, 0⟩] scope pos) 0 it acc env).onRaise (fun x => do noteFrame x env; theTreesLotGoes x)) _ _ s
  refine wpAny_noted ?_
  rw [turn2_out]
  refine wpAny_bind (wpAny_standAt (wpAny_bind (wpAny_mono (turn n s hI) (fun r s₁ h₁ => ?_) fun _ _ z => z)))
  match r, h₁ with
  | none, h₁ => exact wpAny_pure h₁
  | some v, h₁ =>
    refine wpAny_bind (wpAny_mono h₁ (fun _ s₂ h₂ => wpAny_bind (wpAny_mono h₂ (fun _ s₃ h₃ => wpAny_bind (wpAny_mono h₃ (fun ok s₄ h₄ => ?_) fun _ _ z => z)) fun _ _ z => z)) fun _ _ z => z)
    cases ok with
    | false => exact wpAny_pure ⟨rfl, h₄⟩
    | true =>
      refine wpAny_bind (wpAny_mono h₄ (fun x s₅ h₅ => ?_) fun _ _ z => z)
      refine wpAny_bind (wpAny_standAt (wpAny_bind (wpAny_of_eq (hs x) (wpAny_bind (wpAny_holding (wpAny_mono h₅ (fun j s₆ h₆ => ?_) fun _ _ z => z))))))
      refine wpAny_bind (wpAny_runOwn ?_)
      rw [Around.mark_none]
      refine codeAny_mono h₆ fun r s' hr => ?_
      match r, hr with
      | .ok f, hr =>
        first
          | exact wpAny_pure ⟨rfl, hr⟩
          | exact wpAny_bind (wpAny_pure (wpAny_pure ⟨rfl, hr⟩))
      | .error e, hr => exact hr.elim
theorem loop2_in (I : Nat → Shared → Prop)
    (turn : ∀ n s, I n s → wpAny (model prog w) A (pyNext it) (fun r s₁ => match r with
      | none => R (.ok .next) s₁
      | some v => wpAny (model prog w) A (letOwnedTupleGo t1 it v) (fun _ s₂ => wpAny (model prog w) A (assign t1 env v) (fun _ s₃ => wpAny (model prog w) A (forIn ifs1 true fun c r => if r = true then do let ok ← isTrue c env (eval c env); pure (ForInStep.yield ok) else pure (ForInStep.yield r)) (fun ok s₄ =>
          if ok = true then wpAny (model prog w) A (eval kx env) (fun kv s₅ => wpAny (model prog w) A (eval vx env) (fun vv s₆ => wpAny (model prog w) A (dictSet D kv vv) (fun _ s₇ => ∃ m, m < n ∧ I m s₇) (notedBy (model prog w) A env fun e s' => R (.error e) s') s₆) (notedBy (model prog w) A env fun e s' => R (.error e) s') s₅) (notedBy (model prog w) A env fun e s' => R (.error e) s') s₄
          else ∃ m, m < n ∧ I m s₄) (notedBy (model prog w) A env fun e s' => R (.error e) s') s₃) (notedBy (model prog w) A env fun e s' => R (.error e) s') s₂) (notedBy (model prog w) A env fun e s' => R (.error e) s') s₁) (notedBy (model prog w) A env fun e s' => R (.error e) s') s)
    (n : Nat) (h : I n s) : codeAny (model prog w) A (.compLoop (.DictComp kx vx [⟨t0, i0, ifs0, 0⟩, ⟨t1, i1, ifs1, 0⟩] scope pos) 1 it (.ref D) env) R s := by
  refine codeAny_loop rfl I (fun n s hI => ?_) n h
  show wpAny _ A ((compTurn (.DictComp kx vx [⟨t0, i0, ifs0, 0⟩, ⟨t1, i1, ifs1, 0⟩] scope pos) 1 it (.ref D) env).onRaise (fun x => do noteFrame x env; theTreesLotGoes x)) _ _ s
  refine wpAny_noted ?_
  rw [turn2_in]
  refine wpAny_bind (wpAny_standAt (wpAny_bind (wpAny_mono (turn n s hI) (fun r s₁ h₁ => ?_) fun _ _ z => z)))
  match r, h₁ with
  | none, h₁ => exact wpAny_pure h₁
  | some v, h₁ =>
    refine wpAny_bind (wpAny_mono h₁ (fun _ s₂ h₂ => wpAny_bind (wpAny_mono h₂ (fun _ s₃ h₃ => wpAny_bind (wpAny_mono h₃ (fun ok s₄ h₄ => ?_) fun _ _ z => z)) fun _ _ z => z)) fun _ _ z => z)
    cases ok with
    | false => exact wpAny_pure ⟨rfl, h₄⟩
    | true =>
      exact wpAny_bind (wpAny_bind (wpAny_mono h₄ (fun kv s₅ h₅ => wpAny_bind (wpAny_holding (wpAny_mono h₅ (fun vv s₆ h₆ => wpAny_bind (wpAny_standAt (wpAny_holding (wpAny_mono h₆ (fun _ s₇ h₇ => wpAny_pure ⟨rfl, h₇⟩) fun _ _ z => z)))) fun _ _ z => z))) fun _ _ z => z))
theorem start2 (h0 : codeAny (model prog w) A (.compLoop (.DictComp kx vx [⟨t0, i0, ifs0, 0⟩, ⟨t1, i1, ifs1, 0⟩] scope pos) 1 it acc env) R s)
    (h : wpAny (model prog w) A (pyIter it) (fun j s' => codeAny (model prog w) A (.compLoop (.DictComp kx vx [⟨t0, i0, ifs0, 0⟩, ⟨t1, i1, ifs1, 0⟩] scope pos) 1 j acc env) R s') (notedBy (model prog w) A env fun x s' => R (.error x) s') s) :
    codeAny (model prog w) A (.compStart (.DictComp kx vx [⟨t0, i0, ifs0, 0⟩, ⟨t1, i1, ifs1, 0⟩] scope pos) 1 it acc env) R s := by
  refine codeAny_of_tree ?_
  show wpAny _ _ ((compStart (.DictComp kx vx [⟨t0, i0, ifs0, 0⟩, ⟨t1, i1, ifs1, 0⟩] scope pos) 1 it acc env).onRaise (fun x => do noteFrame x env; standAt theWindowsPlace)) _ _ s
  refine wpAny_notedAt ?_
  unfold compStart
  show wpAny _ _ (ask >>= _) _ _ s
  refine wpAny_bind (wpAny_askSetting (wpAny_ite ?_))
  split
  · first
      | exact wpAny_bind (wpAny_pure (wpAny_pure (And.intro rfl h0)))
      | exact wpAny_pure (And.intro rfl h0)
  · first
      | exact wpAny_bind (wpAny_rule (wpAny_bind (wpAny_standAt (wpAny_bind (wpAny_mono h (fun j s' z => wpAny_pure (And.intro rfl z)) fun _ _ z => z)))))
      | (refine wpAny_bind (wpAny_rule ?_); show wpAny _ _ (standAt i1.pos >>= _) _ _ s; exact wpAny_bind (wpAny_standAt (wpAny_bind (wpAny_mono h (fun j s' z => wpAny_pure (And.intro rfl z)) fun _ _ z => z))))
end
section
variable {X : Cx}
def tDp1 (o0 : HO) (wi : TI) (g : TG) (tt : TT) (tk tv : TE) (vs : List Nat) : TE := fun σ H Q => wi σ H fun J H1 => ∀ D, H1 D = none → ∃ W : Nat → Nat → Hp → Prop, (∃ m, W 0 m (upd H1 D o0)) ∧ ∀ i m H, W i m H →
  (J.stop i H ∧ Q (.ref D) H) ∨ (J.go i H ∧ ∃ Nx : Hp → Prop, (∀ H', Nx H' → ∃ m', m' < m ∧ W (i + 1) m' H') ∧ ∀ x H', J.yld i H x H' → g x (wipe σ vs) H' fun σ2 H2 => wipe σ2 vs = wipe σ vs ∧ tt σ2 H2 fun b H3 =>
    if b = true then tk σ2 H3 fun y H4 => tv σ2 H4 fun z H5 => ∃ H6, DPut H5 D y z H6 ∧ Nx H6 else Nx H3)
theorem dp1_core {pins : List (Addr × Obj)} {s : Shared} {σ : L2.St} {H : Hp} {Q : VK} {use : Option (Value → Sem Unit)} {Qf : Value → Shared → Prop} {pos' : Pos} {kx vx tg iter : Expr} {ifs : List Expr} {scope : Scope} {own : List (Str × Nat)} {pos : Pos} {o0 : HO} {wi : TI} {g : TG} {tt : TT} {tk tv : TE} (hc : X.calm = true) (hu : X.A.units + 1 < cLine) (hN : X.N.Nodup) (I : Inv X pins σ H s) (hi : PI X tg iter wi) (ok : BlkOk X.N X.env.scope scope own)
    (hg : ∀ (s : Shared) (H : Hp) (C : Addr) (cl : List (Str × Addr)) (fp : List Addr), PG (X.blk s H scope (compEnvC scope cl C X.env) fp) tg g) (ht : ∀ (s : Shared) (H : Hp) (C : Addr) (cl : List (Str × Addr)) (fp : List Addr), PTs (X.blk s H scope (compEnvC scope cl C X.env) fp) ifs tt)
    (hk : ∀ (s : Shared) (H : Hp) (C : Addr) (cl : List (Str × Addr)) (fp : List Addr), PE (X.blk s H scope (compEnvC scope cl C X.env) fp) kx tk) (he : ∀ (s : Shared) (H : Hp) (C : Addr) (cl : List (Str × Addr)) (fp : List Addr), PE (X.blk s H scope (compEnvC scope cl C X.env) fp) vx tv)
    (ho : o0 = .dK [] ∨ o0 = .dT []) (hs : ∀ x, foldedSetIterable iter X.env x = pure x)
    (h : tDp1 o0 wi g tt tk tv (own.map (·.2)) σ H Q)
    (hRR : ∀ D C s' m H', Inv X pins σ H' s' → Q (.ref D) H' → s'.heap.Ns C m → FpOk X pins H' C → compPost (model X.prog X.w) X.A X.xe use Qf (.ref D) C (.ok .next) s') :
    wpAny (model X.prog X.w) X.A (comprehension (.DictComp kx vx [⟨tg, iter, ifs, 0⟩] scope pos) scope X.env pos' newDict false (eval iter X.env) use) Qf X.xe s := by
  have hfree : ∀ y ∈ scope.names, y.2 = .free → ∃ c, X.env.cells.lookup y.1 = some c := fun y hy e => I.ok.has _ (ok.free y hy e)
  refine wpAny_comprehension_free (use := use) rfl hs (closure_ok hfree) ok.kind (fun y hy e => by rw [ok.uniq y hy, e]) (thn (hi.run pins s σ H _ I h) fun xv s1 hx => thn hx fun itv s2 h2 => ?_)
  obtain ⟨it, fp, tn, J, H2, e, I2, T, st2, f2, q⟩ := h2
  subst e
  refine wpAny_newObj_type (newEnv_comp ?_)
  generalize hD : s2.heap.objs.size = D
  obtain ⟨W, ⟨m0, w0⟩, turn⟩ := q D (I2.hok.fresh (Nat.le_of_eq hD))
  generalize hs3 : ({ s2 with heap := s2.heap.push { cls := .type "dict", data := .dict #[] } } : Shared) = s3
  have h3 : s3.heap = s2.heap.push { cls := .type "dict", data := .dict #[] } := by rw [← hs3]
  have I3 : Inv X pins σ (upd H2 D o0) s3 := by
    rw [← hs3]
    refine I2.laid (t' := s2.toks) (fun b o e => Heap.get?_push_of_some _ e) (Nat.le_of_eq hD) ?_
    rw [← hD]
    rcases ho with z | z
    · rw [z]; exact dk_empty s2.heap I2.big
    · rw [z]; exact dt_empty s2.heap I2.big
  have f3 : ∀ b ∈ fp, FpOk X pins (upd H2 D o0) b ∧ b < s3.heap.objs.size := fun b hb => by
    obtain ⟨o, e, _⟩ := T.obj _ _ st2 b hb
    have hlt := Heap.lt_size e
    refine ⟨⟨?_, (f2 b hb).2⟩, by rw [h3, Heap.size_push]; exact Nat.lt_succ_of_lt hlt⟩
    rw [upd_ne (by rw [← hD]; exact Nat.ne_of_lt hlt)]
    exact (f2 b hb).1
  have st3 : tn 0 s3.heap := T.keep _ _ _ st2 fun b _ o e => by rw [h3]; exact Heap.get?_push_of_some _ e
  generalize hH3 : upd H2 D o0 = H3 at I3 f3 w0
  have I4 := block_start I3 ok hN f3
  have pg := hg s3 H3 s3.heap.objs.size (cellsFrom (s3.heap.objs.size + 1) scope.names (cloFrom X.env.cells scope.names [])) fp
  have pt := ht s3 H3 s3.heap.objs.size (cellsFrom (s3.heap.objs.size + 1) scope.names (cloFrom X.env.cells scope.names [])) fp
  have pk := hk s3 H3 s3.heap.objs.size (cellsFrom (s3.heap.objs.size + 1) scope.names (cloFrom X.env.cells scope.names [])) fp
  have pe := he s3 H3 s3.heap.objs.size (cellsFrom (s3.heap.objs.size + 1) scope.names (cloFrom X.env.cells scope.names [])) fp
  have nfp : ∀ b ∈ fp, H3 b = none := fun b hb => (f3 b hb).1.1
  show codeAny _ _ (.compStart (.DictComp kx vx [⟨tg, iter, ifs, 0⟩] scope pos) 0 (.ref it) (.ref D) (compEnvC scope (cellsFrom (s3.heap.objs.size + 1) scope.names (cloFrom X.env.cells scope.names [])) s3.heap.objs.size X.env)) _ { s3 with heap := pushCells (s3.heap.push { cls := .type "dict", data := .dict #[] }) scope.names }
  generalize hce : compEnvC scope (cellsFrom (s3.heap.objs.size + 1) scope.names (cloFrom X.env.cells scope.names [])) s3.heap.objs.size X.env = ce at I4 pg pt pk pe ⊢
  have cL : ce.locals = s3.heap.objs.size := by subst hce; rfl
  generalize hs4 : ({ s3 with heap := pushCells (s3.heap.push { cls := .type "dict", data := .dict #[] }) scope.names } : Shared) = s4 at I4 ⊢
  have st4 : tn 0 s4.heap := T.keep _ _ _ st3 fun b _ o e => by rw [← hs4]; exact pushCells_keeps _ _ _ _ (Heap.get?_push_of_some _ e)
  have stat : ∀ {σ' : L2.St} {H' : Hp} {s' : Shared}, Inv (X.blk s3 H3 scope ce fp) [] σ' H' s' → (∀ b ∈ fp, H' b = none) → ∀ b ∈ fp, FpOk (X.blk s3 H3 scope ce fp) [] H' b := fun {σ' H' s'} I' hn b hb =>
    ⟨hn b hb, (I'.ok.exf b hb).1, I'.ok.exfs b hb, .inl hb, fun x c e => (I'.ok.exf b hb).2 x c e, fun p hp => nomatch (show p ∈ ([] : List (Addr × Obj)) from hp)⟩
  have loop : codeAny (model X.prog X.w) X.A (.compLoop (.DictComp kx vx [⟨tg, iter, ifs, 0⟩] scope pos) 0 (.ref it) (.ref D) ce) (compPost (model X.prog X.w) X.A X.xe use Qf (.ref D) s3.heap.objs.size) s4 := by
    refine compLoop_anyD (fun n s' => ∃ i H', Inv (X.blk s3 H3 scope ce fp) [] (wipe σ (own.map (·.2))) H' s' ∧ tn i s'.heap ∧ (∀ b ∈ fp, H' b = none) ∧ W i n H') ?_ m0 ⟨0, H3, I4, st4, nfp, w0⟩
    rintro n s5 ⟨i, H5, I5, st5, n5, w5⟩
    rcases turn i n H5 w5 with ⟨stop, qq⟩ | ⟨go, Nx, hNx, step⟩
    · refine thnF (T.done (X.blk s3 H3 scope ce fp) rfl rfl rfl hc i [] s5 _ H5 (fun _ _ => False) I5 (stat I5 n5) st5 stop) fun r s6 ⟨hr, I6⟩ => ?_
      subst hr
      have I7 : Inv X pins σ H5 s6 := I3.call' (ch := fp) I6.os I6.base I6.hok I6.bare fun b hb => ⟨(f3 b hb).1.2.2.2.1, (f3 b hb).1.2.1, (f3 b hb).1.2.2.2.2.1, (f3 b hb).1.2.2.2.2.2⟩
      have nC : H5 s3.heap.objs.size = none := by
        have z : H5 ce.locals = none := I6.free
        rw [cL] at z
        exact z
      obtain ⟨m, hn, _⟩ := I6.loc
      have hn : s6.heap.Ns ce.locals m := hn
      rw [cL] at hn
      exact hRR D s3.heap.objs.size s6 m H5 I7 qq hn (I3.fpOk (Nat.le_refl _) nC)
    · refine thnF (T.item (X.blk s3 H3 scope ce fp) rfl rfl rfl hc i [] s5 _ H5 (fun _ _ => False) I5 (stat I5 n5) st5 go) fun r s6 ⟨u, hr, h6⟩ => ?_
      subst hr
      refine thnF h6 fun _ s7 ⟨x, H7, I7, r7, y7, st7, n7⟩ => ?_
      have I7' := I7.pinned (stat I7 n7) (T.obj _ _ st7)
      refine thnF (pg.run _ s7 _ H7 x u _ I7' r7 (step x H7 y7)) fun _ s8 ⟨σ8, H8, I8, hw8, q8⟩ => ?_
      refine thnF (pt.run _ s8 σ8 H8 _ I8 q8) fun b s9 ⟨H9, I9, q9⟩ => ?_
      have fin : ∀ {σ9 : L2.St} {s' : Shared} {H' : Hp}, Inv (X.blk s3 H3 scope ce fp) ([] ++ pinsAt fp s7.heap) σ9 H' s' → (wipe σ (own.map (·.2))).length = σ9.length → (∀ (j : Nat) v, (wipe σ (own.map (·.2)))[j]? = some (some v) → σ9[j]? = some (some v)) → Nx H' →
          ∃ m, m < n ∧ ∃ i H', Inv (X.blk s3 H3 scope ce fp) [] (wipe σ (own.map (·.2))) H' s' ∧ tn i s'.heap ∧ (∀ b ∈ fp, H' b = none) ∧ W i m H' := fun {σ9 s' H'} I' hl hk nx => by
        obtain ⟨m', hm, w'⟩ := hNx H' nx
        have pin' : ∀ b ∈ fp, ∀ o, s7.heap.get? b = some o → s'.heap.get? b = some o ∧ H' b = none := fun b hb o e => by
          have z := I'.pin (b, o) (List.mem_append_right _ (List.mem_append_right _ (mem_pinsAt hb e)))
          exact ⟨z.1, z.2.1⟩
        refine ⟨m', hm, i + 1, H', (I'.unpinned (pins := [])).weak hl hk, T.keep _ _ _ st7 fun b hb o e => (pin' b hb o e).1, fun b hb => ?_, w'⟩
        obtain ⟨o, e, _⟩ := T.obj _ _ st7 b hb
        exact (pin' b hb o e).2
      have hl8 : (wipe σ (own.map (·.2))).length = σ8.length := by rw [← hw8, wipe_length]
      have hk8 : ∀ (j : Nat) v, (wipe σ (own.map (·.2)))[j]? = some (some v) → σ8[j]? = some (some v) := fun j v e => by
        rw [← hw8] at e
        exact (wipe_some e).1
      cases b with
      | false =>
        simp only [Bool.false_eq_true, if_false] at q9 ⊢
        exact fin I9 hl8 hk8 q9
      | true =>
        simp only [if_true] at q9 ⊢
        refine thnF (pk.run _ s9 σ8 H9 _ I9 q9) fun z s10 ⟨yk, H10, I10, r10, q10⟩ => ?_
        refine thnF (pe.run _ s10 σ8 H10 _ I10 q10) fun z2 s11 ⟨yv, H11, I11, r11, H12, put, nx⟩ => ?_
        exact d_setP (X := X.blk s3 H3 scope ce fp) hu I11 put r10 r11 fun s12 I12 => fin I12 hl8 hk8 nx
  exact codeAny_compStart_dict loop (T.self X.A 0 _ _ _ st4 loop)
theorem pe_dp1 {kx vx tg iter : Expr} {ifs : List Expr} {scope : Scope} {own : List (Str × Nat)} {pos : Pos} {o0 : HO} {wi : TI} {g : TG} {tt : TT} {tk tv : TE} (hc : X.calm = true) (hu : X.A.units + 1 < cLine) (hN : X.N.Nodup) (hi : PI X tg iter wi) (ok : BlkOk X.N X.env.scope scope own)
    (hg : ∀ (s : Shared) (H : Hp) (C : Addr) (cl : List (Str × Addr)) (fp : List Addr), PG (X.blk s H scope (compEnvC scope cl C X.env) fp) tg g) (ht : ∀ (s : Shared) (H : Hp) (C : Addr) (cl : List (Str × Addr)) (fp : List Addr), PTs (X.blk s H scope (compEnvC scope cl C X.env) fp) ifs tt)
    (hk : ∀ (s : Shared) (H : Hp) (C : Addr) (cl : List (Str × Addr)) (fp : List Addr), PE (X.blk s H scope (compEnvC scope cl C X.env) fp) kx tk) (he : ∀ (s : Shared) (H : Hp) (C : Addr) (cl : List (Str × Addr)) (fp : List Addr), PE (X.blk s H scope (compEnvC scope cl C X.env) fp) vx tv)
    (ho : o0 = .dK [] ∨ o0 = .dT []) (hs : ∀ x, foldedSetIterable iter X.env x = pure x := by intro _; rfl) :
    PE X (.DictComp kx vx [⟨tg, iter, ifs, 0⟩] scope pos) (tDp1 o0 wi g tt tk tv (own.map (·.2))) := by
  refine ⟨fun pins s σ H Q I h => ?_⟩
  rw [arm_eval_DictComp]
  refine dp1_core hc hu hN I hi ok hg ht hk he ho hs h fun D C s' m H' I' q hn f => ⟨m, hn, fun h'' sb => ?_⟩
  obtain ⟨f0, f1, f2, f3, f4, f5⟩ := f
  exact ⟨.ref D, H', I'.turned (t' := s'.toks) (fun b o hb e => (sb.2 b hb).trans e) f0 f1 f3 f4 f5, rfl, q⟩
theorem ps_setDp1 {i : Nat} {y : Str} {py spos : Pos} {kx vx tg iter : Expr} {ifs : List Expr} {scope : Scope} {own : List (Str × Nat)} {pos : Pos} {o0 : HO} {wi : TI} {g : TG} {tt : TT} {tk tv : TE} (hc : X.calm = true) (hu : X.A.units + 1 < cLine) (hN : X.N.Nodup) (hy : X.N[i]? = some y) (hyl : X.env.scope.names.lookup y = some .local)
    (hsw : swapsWith (.DictComp kx vx [⟨tg, iter, ifs, 0⟩] scope pos) (some (.Name y py)) spos.line X.env = pure true) (hi : PI X tg iter wi) (ok : BlkOk X.N X.env.scope scope own)
    (hg : ∀ (s : Shared) (H : Hp) (C : Addr) (cl : List (Str × Addr)) (fp : List Addr), PG (X.blk s H scope (compEnvC scope cl C X.env) fp) tg g) (ht : ∀ (s : Shared) (H : Hp) (C : Addr) (cl : List (Str × Addr)) (fp : List Addr), PTs (X.blk s H scope (compEnvC scope cl C X.env) fp) ifs tt)
    (hk : ∀ (s : Shared) (H : Hp) (C : Addr) (cl : List (Str × Addr)) (fp : List Addr), PE (X.blk s H scope (compEnvC scope cl C X.env) fp) kx tk) (he : ∀ (s : Shared) (H : Hp) (C : Addr) (cl : List (Str × Addr)) (fp : List Addr), PE (X.blk s H scope (compEnvC scope cl C X.env) fp) vx tv)
    (ho : o0 = .dK [] ∨ o0 = .dT []) (hs : ∀ x, foldedSetIterable iter X.env x = pure x := by intro _; rfl) :
    PS X (.Assign [.Name y py] (.DictComp kx vx [⟨tg, iter, ifs, 0⟩] scope pos) spos) (tAsg (tDp1 o0 wi g tt tk tv (own.map (·.2))) (gName i)) := by
  refine ⟨fun pins s σ H D I h => ?_⟩
  rw [exec_Assign_Name_used _ _ _ _ hsw]
  refine wpAny_bind (wpAny_standAt (wpAny_bind ?_))
  show wpAny _ X.A (do let _ ← comprehension (.DictComp kx vx [⟨tg, iter, ifs, 0⟩] scope pos) scope X.env (firstIterPos [⟨tg, iter, ifs, 0⟩] pos) newDict false (eval iter X.env) (some (assign (.Name y py) X.env))) _ _ s
  have h : tDp1 o0 wi g tt tk tv (own.map (·.2)) σ H (fun x H1 => gName i x σ H1 D.nx) := h
  refine wpAny_bind (thn (dp1_core (Qf := fun _ s' => SP X pins D .next s') hc hu hN I hi ok hg ht hk he ho hs h fun L C s' m H' I' q hn f => ?_) fun _ s' hq => wpAny_pure (wpAny_pure hq))
  show wpAny _ _ (assign (.Name y py) X.env (.ref L)) _ _ _
  refine wpAny_assign_Name (store_ok2 (v := V.ref L) I' hN hy (.inl hyl) rfl (fun s2 I2 ⟨a, sb, ha⟩ => ?_) (.inr hyl))
  obtain ⟨f0, f1, f2, f3, f4, f5⟩ := f
  have haC : C ≠ a := by
    rcases ha with z | z
    · rw [z]; exact f1
    · exact fun e => f4 y a z e.symm
  refine ⟨m, hn.sameBut sb haC, fun h3 sb3 => ?_⟩
  exact ⟨_, H', I2.turned (t' := s2.toks) (fun b o hb e => (sb3.2 b hb).trans e) f0 f1 f3 f4 f5, q⟩
def tDp2 (o0 : HO) (wi : TI) (g : TG) (tt : TT) (wi1 : TI) (g1 : TG) (tt1 : TT) (tk tv : TE) (vs vs1 : List Nat) : TE := fun σ H Q => wi σ H fun J H1 => ∀ D, H1 D = none → ∃ W : Nat → Nat → Hp → Prop, (∃ m, W 0 m (upd H1 D o0)) ∧ ∀ i m H, W i m H →
  (J.stop i H ∧ Q (.ref D) H) ∨ (J.go i H ∧ ∃ Nx : Hp → Prop, (∀ H', Nx H' → ∃ m', m' < m ∧ W (i + 1) m' H') ∧ ∀ x H', J.yld i H x H' → g x (wipe σ vs) H' fun σ2 H2 => wipe σ2 vs = wipe σ vs ∧ tt σ2 H2 fun b H3 =>
    if b = true then wi1 σ2 H3 fun J1 H4 => ∃ W1 : Nat → Nat → Hp → Prop, (∃ m, W1 0 m H4) ∧ ∀ j k H, W1 j k H →
      (J1.stop j H ∧ Nx H) ∨ (J1.go j H ∧ ∃ Nx1 : Hp → Prop, (∀ H', Nx1 H' → ∃ k', k' < k ∧ W1 (j + 1) k' H') ∧ ∀ x H', J1.yld j H x H' → g1 x (wipe σ2 vs1) H' fun σ3 H5 => wipe σ3 vs1 = wipe σ2 vs1 ∧ tt1 σ3 H5 fun b H6 =>
        if b = true then tk σ3 H6 fun y H7 => tv σ3 H7 fun z H8 => ∃ H9, DPut H8 D y z H9 ∧ Nx1 H9 else Nx1 H6)
    else Nx H3)
theorem dp2_core {pins : List (Addr × Obj)} {s : Shared} {σ : L2.St} {H : Hp} {Q : VK} {use : Option (Value → Sem Unit)} {Qf : Value → Shared → Prop} {pos' : Pos} {kx vx tg iter tg1 iter1 : Expr} {ifs ifs1 : List Expr} {scope : Scope} {own : List (Str × Nat)} {vs1 : List Nat} {pos : Pos} {o0 : HO} {wi wi1 : TI} {g g1 : TG} {tt tt1 : TT} {tk tv : TE} (hc : X.calm = true) (hu : X.A.units + 1 < cLine) (hN : X.N.Nodup) (I : Inv X pins σ H s) (hi : PI X tg iter wi) (ok : BlkOk X.N X.env.scope scope own) (hv : ∀ i ∈ vs1, i ∈ own.map (·.2))
    (hg : ∀ (s : Shared) (H : Hp) (C : Addr) (cl : List (Str × Addr)) (fp : List Addr), PG (X.blk s H scope (compEnvC scope cl C X.env) fp) tg g) (ht : ∀ (s : Shared) (H : Hp) (C : Addr) (cl : List (Str × Addr)) (fp : List Addr), PTs (X.blk s H scope (compEnvC scope cl C X.env) fp) ifs tt)
    (hi1 : ∀ (s : Shared) (H : Hp) (C : Addr) (cl : List (Str × Addr)) (fp : List Addr), PI (X.blk s H scope (compEnvC scope cl C X.env) fp) tg1 iter1 wi1) (hg1 : ∀ (s : Shared) (H : Hp) (C : Addr) (cl : List (Str × Addr)) (fp : List Addr), PG (X.blk s H scope (compEnvC scope cl C X.env) fp) tg1 g1) (ht1 : ∀ (s : Shared) (H : Hp) (C : Addr) (cl : List (Str × Addr)) (fp : List Addr), PTs (X.blk s H scope (compEnvC scope cl C X.env) fp) ifs1 tt1)
    (hk : ∀ (s : Shared) (H : Hp) (C : Addr) (cl : List (Str × Addr)) (fp : List Addr), PE (X.blk s H scope (compEnvC scope cl C X.env) fp) kx tk) (he : ∀ (s : Shared) (H : Hp) (C : Addr) (cl : List (Str × Addr)) (fp : List Addr), PE (X.blk s H scope (compEnvC scope cl C X.env) fp) vx tv)
    (ho : o0 = .dK [] ∨ o0 = .dT []) (hs : ∀ x, foldedSetIterable iter X.env x = pure x) (hs1 : ∀ env x, foldedSetIterable iter1 env x = pure x)
    (h : tDp2 o0 wi g tt wi1 g1 tt1 tk tv (own.map (·.2)) vs1 σ H Q)
    (hRR : ∀ D C s' m H', Inv X pins σ H' s' → Q (.ref D) H' → s'.heap.Ns C m → FpOk X pins H' C → compPost (model X.prog X.w) X.A X.xe use Qf (.ref D) C (.ok .next) s') :
    wpAny (model X.prog X.w) X.A (comprehension (.DictComp kx vx [⟨tg, iter, ifs, 0⟩, ⟨tg1, iter1, ifs1, 0⟩] scope pos) scope X.env pos' newDict false (eval iter X.env) use) Qf X.xe s := by
  have hfree : ∀ y ∈ scope.names, y.2 = .free → ∃ c, X.env.cells.lookup y.1 = some c := fun y hy e => I.ok.has _ (ok.free y hy e)
  refine wpAny_comprehension_free (use := use) rfl hs (closure_ok hfree) ok.kind (fun y hy e => by rw [ok.uniq y hy, e]) (thn (hi.run pins s σ H _ I h) fun xv s1 hx => thn hx fun itv s2 h2 => ?_)
  obtain ⟨it, fp, tn, J, H2, e, I2, T, st2, f2, q⟩ := h2
  subst e
  refine wpAny_newObj_type (newEnv_comp ?_)
  generalize hD : s2.heap.objs.size = D
  obtain ⟨W, ⟨m0, w0⟩, turn⟩ := q D (I2.hok.fresh (Nat.le_of_eq hD))
  generalize hs3 : ({ s2 with heap := s2.heap.push { cls := .type "dict", data := .dict #[] } } : Shared) = s3
  have h3 : s3.heap = s2.heap.push { cls := .type "dict", data := .dict #[] } := by rw [← hs3]
  have I3 : Inv X pins σ (upd H2 D o0) s3 := by
    rw [← hs3]
    refine I2.laid (t' := s2.toks) (fun b o e => Heap.get?_push_of_some _ e) (Nat.le_of_eq hD) ?_
    rw [← hD]
    rcases ho with z | z
    · rw [z]; exact dk_empty s2.heap I2.big
    · rw [z]; exact dt_empty s2.heap I2.big
  have f3 : ∀ b ∈ fp, FpOk X pins (upd H2 D o0) b ∧ b < s3.heap.objs.size := fun b hb => by
    obtain ⟨o, e, _⟩ := T.obj _ _ st2 b hb
    have hlt := Heap.lt_size e
    refine ⟨⟨?_, (f2 b hb).2⟩, by rw [h3, Heap.size_push]; exact Nat.lt_succ_of_lt hlt⟩
    rw [upd_ne (by rw [← hD]; exact Nat.ne_of_lt hlt)]
    exact (f2 b hb).1
  have st3 : tn 0 s3.heap := T.keep _ _ _ st2 fun b _ o e => by rw [h3]; exact Heap.get?_push_of_some _ e
  generalize hH3 : upd H2 D o0 = H3 at I3 f3 w0
  have I4 := block_start I3 ok hN f3
  have pg := hg s3 H3 s3.heap.objs.size (cellsFrom (s3.heap.objs.size + 1) scope.names (cloFrom X.env.cells scope.names [])) fp
  have pt := ht s3 H3 s3.heap.objs.size (cellsFrom (s3.heap.objs.size + 1) scope.names (cloFrom X.env.cells scope.names [])) fp
  have pi1 := hi1 s3 H3 s3.heap.objs.size (cellsFrom (s3.heap.objs.size + 1) scope.names (cloFrom X.env.cells scope.names [])) fp
  have pg1 := hg1 s3 H3 s3.heap.objs.size (cellsFrom (s3.heap.objs.size + 1) scope.names (cloFrom X.env.cells scope.names [])) fp
  have pt1 := ht1 s3 H3 s3.heap.objs.size (cellsFrom (s3.heap.objs.size + 1) scope.names (cloFrom X.env.cells scope.names [])) fp
  have pk := hk s3 H3 s3.heap.objs.size (cellsFrom (s3.heap.objs.size + 1) scope.names (cloFrom X.env.cells scope.names [])) fp
  have pe := he s3 H3 s3.heap.objs.size (cellsFrom (s3.heap.objs.size + 1) scope.names (cloFrom X.env.cells scope.names [])) fp
  have nfp : ∀ b ∈ fp, H3 b = none := fun b hb => (f3 b hb).1.1
  show codeAny _ _ (.compStart (.DictComp kx vx [⟨tg, iter, ifs, 0⟩, ⟨tg1, iter1, ifs1, 0⟩] scope pos) 0 (.ref it) (.ref D) (compEnvC scope (cellsFrom (s3.heap.objs.size + 1) scope.names (cloFrom X.env.cells scope.names [])) s3.heap.objs.size X.env)) _ { s3 with heap := pushCells (s3.heap.push { cls := .type "dict", data := .dict #[] }) scope.names }
  generalize hce : compEnvC scope (cellsFrom (s3.heap.objs.size + 1) scope.names (cloFrom X.env.cells scope.names [])) s3.heap.objs.size X.env = ce at I4 pg pt pi1 pg1 pt1 pk pe ⊢
  have cL : ce.locals = s3.heap.objs.size := by subst hce; rfl
  generalize hs4 : ({ s3 with heap := pushCells (s3.heap.push { cls := .type "dict", data := .dict #[] }) scope.names } : Shared) = s4 at I4 ⊢
  have st4 : tn 0 s4.heap := T.keep _ _ _ st3 fun b _ o e => by rw [← hs4]; exact pushCells_keeps _ _ _ _ (Heap.get?_push_of_some _ e)
  have stat : ∀ {σ' : L2.St} {H' : Hp} {s' : Shared}, Inv (X.blk s3 H3 scope ce fp) [] σ' H' s' → (∀ b ∈ fp, H' b = none) → ∀ b ∈ fp, FpOk (X.blk s3 H3 scope ce fp) [] H' b := fun {σ' H' s'} I' hn b hb =>
    ⟨hn b hb, (I'.ok.exf b hb).1, I'.ok.exfs b hb, .inl hb, fun x c e => (I'.ok.exf b hb).2 x c e, fun p hp => nomatch (show p ∈ ([] : List (Addr × Obj)) from hp)⟩
  have loop : codeAny (model X.prog X.w) X.A (.compLoop (.DictComp kx vx [⟨tg, iter, ifs, 0⟩, ⟨tg1, iter1, ifs1, 0⟩] scope pos) 0 (.ref it) (.ref D) ce) (compPost (model X.prog X.w) X.A X.xe use Qf (.ref D) s3.heap.objs.size) s4 := by
    refine loop2_out (hs1 ce) (fun n s' => ∃ i H', Inv (X.blk s3 H3 scope ce fp) [] (wipe σ (own.map (·.2))) H' s' ∧ tn i s'.heap ∧ (∀ b ∈ fp, H' b = none) ∧ W i n H') ?_ m0 ⟨0, H3, I4, st4, nfp, w0⟩
    rintro n s5 ⟨i, H5, I5, st5, n5, w5⟩
    rcases turn i n H5 w5 with ⟨stop, qq⟩ | ⟨go, Nx, hNx, step⟩
    · refine thnF (T.done (X.blk s3 H3 scope ce fp) rfl rfl rfl hc i [] s5 _ H5 (fun _ _ => False) I5 (stat I5 n5) st5 stop) fun r s6 ⟨hr, I6⟩ => ?_
      subst hr
      have I7 : Inv X pins σ H5 s6 := I3.call' (ch := fp) I6.os I6.base I6.hok I6.bare fun b hb => ⟨(f3 b hb).1.2.2.2.1, (f3 b hb).1.2.1, (f3 b hb).1.2.2.2.2.1, (f3 b hb).1.2.2.2.2.2⟩
      have nC : H5 s3.heap.objs.size = none := by
        have z : H5 ce.locals = none := I6.free
        rw [cL] at z
        exact z
      obtain ⟨m, hn, _⟩ := I6.loc
      have hn : s6.heap.Ns ce.locals m := hn
      rw [cL] at hn
      exact hRR D s3.heap.objs.size s6 m H5 I7 qq hn (I3.fpOk (Nat.le_refl _) nC)
    · refine thnF (T.item (X.blk s3 H3 scope ce fp) rfl rfl rfl hc i [] s5 _ H5 (fun _ _ => False) I5 (stat I5 n5) st5 go) fun r s6 ⟨u, hr, h6⟩ => ?_
      subst hr
      refine thnF h6 fun _ s7 ⟨x, H7, I7, r7, y7, st7, n7⟩ => ?_
      have I7' := I7.pinned (stat I7 n7) (T.obj _ _ st7)
      refine thnF (pg.run _ s7 _ H7 x u _ I7' r7 (step x H7 y7)) fun _ s8 ⟨σ8, H8, I8, hw8, q8⟩ => ?_
      refine thnF (pt.run _ s8 σ8 H8 _ I8 q8) fun b s9 ⟨H9, I9, q9⟩ => ?_
      have fin : ∀ {σ9 : L2.St} {s' : Shared} {H' : Hp}, Inv (X.blk s3 H3 scope ce fp) ([] ++ pinsAt fp s7.heap) σ9 H' s' → (wipe σ (own.map (·.2))).length = σ9.length → (∀ (j : Nat) v, (wipe σ (own.map (·.2)))[j]? = some (some v) → σ9[j]? = some (some v)) → Nx H' →
          ∃ m, m < n ∧ ∃ i H', Inv (X.blk s3 H3 scope ce fp) [] (wipe σ (own.map (·.2))) H' s' ∧ tn i s'.heap ∧ (∀ b ∈ fp, H' b = none) ∧ W i m H' := fun {σ9 s' H'} I' hl hk nx => by
        obtain ⟨m', hm, w'⟩ := hNx H' nx
        have pin' : ∀ b ∈ fp, ∀ o, s7.heap.get? b = some o → s'.heap.get? b = some o ∧ H' b = none := fun b hb o e => by
          have z := I'.pin (b, o) (List.mem_append_right _ (List.mem_append_right _ (mem_pinsAt hb e)))
          exact ⟨z.1, z.2.1⟩
        refine ⟨m', hm, i + 1, H', (I'.unpinned (pins := [])).weak hl hk, T.keep _ _ _ st7 fun b hb o e => (pin' b hb o e).1, fun b hb => ?_, w'⟩
        obtain ⟨o, e, _⟩ := T.obj _ _ st7 b hb
        exact (pin' b hb o e).2
      have hl8 : (wipe σ (own.map (·.2))).length = σ8.length := by rw [← hw8, wipe_length]
      have hk8 : ∀ (j : Nat) v, (wipe σ (own.map (·.2)))[j]? = some (some v) → σ8[j]? = some (some v) := fun j v e => by
        rw [← hw8] at e
        exact (wipe_some e).1
      have hk9 : ∀ (j : Nat) v, (wipe σ (own.map (·.2)))[j]? = some (some v) → (wipe σ8 vs1)[j]? = some (some v) := fun j v e => by
        rw [← hw8] at e
        obtain ⟨e1, e2⟩ := wipe_some e
        rw [wipe_out fun z => e2 (hv j z)]
        exact e1
      cases b with
      | false =>
        simp only [Bool.false_eq_true, if_false] at q9 ⊢
        exact fin I9 hl8 hk8 q9
      | true =>
        simp only [if_true] at q9 ⊢
        refine thnF (pi1.run _ s9 σ8 H9 _ I9 q9) fun xv s10 hx => thnF hx fun itv s11 h11 => ?_
        obtain ⟨it1, fp1, tn1, J1, H11, e1, I11, T1, st11, f11, W1, ⟨m1, w1⟩, turn1⟩ := h11
        subst e1
        have stat1 : ∀ {H' : Hp}, (∀ b ∈ fp1, H' b = none) → ∀ b ∈ fp1, FpOk (X.blk s3 H3 scope ce fp) ([] ++ pinsAt fp s7.heap) H' b := fun hn b hb => ⟨hn b hb, (f11 b hb).2⟩
        have loop1 : codeAny (model X.prog X.w) X.A (.compLoop (.DictComp kx vx [⟨tg, iter, ifs, 0⟩, ⟨tg1, iter1, ifs1, 0⟩] scope pos) 1 (.ref it1) (.ref D) ce)
            (fun r s' => match r with
              | .ok _ => ∃ m, m < n ∧ ∃ i H', Inv (X.blk s3 H3 scope ce fp) [] (wipe σ (own.map (·.2))) H' s' ∧ tn i s'.heap ∧ (∀ b ∈ fp, H' b = none) ∧ W i m H'
              | .error _ => False) s11 := by
          refine loop2_in (fun k s' => ∃ j H', Inv (X.blk s3 H3 scope ce fp) ([] ++ pinsAt fp s7.heap) (wipe σ8 vs1) H' s' ∧ tn1 j s'.heap ∧ (∀ b ∈ fp1, H' b = none) ∧ W1 j k H') ?_ m1 ⟨0, H11, I11.weak (wipe_length _ _) (fun j v e => (wipe_some e).1), st11, fun b hb => (f11 b hb).1, w1⟩
          rintro k s12 ⟨j, H12, I12, st12, n12, w12⟩
          rcases turn1 j k H12 w12 with ⟨stop1, nx1⟩ | ⟨go1, Nx1, hNx1, step1⟩
          · refine thnF (T1.done (X.blk s3 H3 scope ce fp) rfl rfl rfl hc j _ s12 (wipe σ8 vs1) H12 (fun _ _ => False) I12 (stat1 n12) st12 stop1) fun r s13 ⟨hr, I13⟩ => ?_
            subst hr
            exact fin I13 (hl8.trans (wipe_length σ8 vs1).symm) hk9 nx1
          · refine thnF (T1.item (X.blk s3 H3 scope ce fp) rfl rfl rfl hc j _ s12 (wipe σ8 vs1) H12 (fun _ _ => False) I12 (stat1 n12) st12 go1) fun r s13 ⟨u1, hr, h13⟩ => ?_
            subst hr
            refine thnF h13 fun _ s14 ⟨x1, H14, I14, r14, y14, st14, n14⟩ => ?_
            have I14' := I14.pinned (stat1 n14) (T1.obj _ _ st14)
            refine thnF (pg1.run _ s14 (wipe σ8 vs1) H14 x1 u1 _ I14' r14 (step1 x1 H14 y14)) fun _ s15 ⟨σ15, H15, I15, hw15, q15⟩ => ?_
            refine thnF (pt1.run _ s15 σ15 H15 _ I15 q15) fun b1 s16 ⟨H16, I16, q16⟩ => ?_
            have fin1 : ∀ {s' : Shared} {H' : Hp}, Inv (X.blk s3 H3 scope ce fp) (([] ++ pinsAt fp s7.heap) ++ pinsAt fp1 s14.heap) σ15 H' s' → Nx1 H' →
                ∃ m, m < k ∧ ∃ j H', Inv (X.blk s3 H3 scope ce fp) ([] ++ pinsAt fp s7.heap) (wipe σ8 vs1) H' s' ∧ tn1 j s'.heap ∧ (∀ b ∈ fp1, H' b = none) ∧ W1 j m H' := fun {s' H'} I' nx => by
              obtain ⟨m', hm, w'⟩ := hNx1 H' nx
              have pin' : ∀ b ∈ fp1, ∀ o, s14.heap.get? b = some o → s'.heap.get? b = some o ∧ H' b = none := fun b hb o e => by
                have z := I'.pin (b, o) (List.mem_append_right _ (List.mem_append_right _ (mem_pinsAt hb e)))
                exact ⟨z.1, z.2.1⟩
              refine ⟨m', hm, j + 1, H', I'.unpinned.weak (by rw [← hw15, wipe_length]) (fun j v e => by rw [← hw15] at e; exact (wipe_some e).1), T1.keep _ _ _ st14 fun b hb o e => (pin' b hb o e).1, fun b hb => ?_, w'⟩
              obtain ⟨o, e, _⟩ := T1.obj _ _ st14 b hb
              exact (pin' b hb o e).2
            cases b1 with
            | false =>
              simp only [Bool.false_eq_true, if_false] at q16 ⊢
              exact fin1 I16 q16
            | true =>
              simp only [if_true] at q16 ⊢
              refine thnF (pk.run _ s16 σ15 H16 _ I16 q16) fun z s17 ⟨yk, H17, I17, r17, q17⟩ => ?_
              refine thnF (pe.run _ s17 σ15 H17 _ I17 q17) fun z2 s18 ⟨yv, H18, I18, r18, H19, put, nx⟩ => ?_
              exact d_setP (X := X.blk s3 H3 scope ce fp) hu I18 put r17 r18 fun s19 I19 => fin1 I19 nx
        exact start2 loop1 (T1.self X.A 0 _ _ _ st11 loop1)
  exact codeAny_compStart_dict loop (T.self X.A 0 _ _ _ st4 loop)
theorem pe_dp2 {kx vx tg iter tg1 iter1 : Expr} {ifs ifs1 : List Expr} {scope : Scope} {own : List (Str × Nat)} {vs1 : List Nat} {pos : Pos} {o0 : HO} {wi wi1 : TI} {g g1 : TG} {tt tt1 : TT} {tk tv : TE} (hc : X.calm = true) (hu : X.A.units + 1 < cLine) (hN : X.N.Nodup) (hi : PI X tg iter wi) (ok : BlkOk X.N X.env.scope scope own) (hv : ∀ i ∈ vs1, i ∈ own.map (·.2))
    (hg : ∀ (s : Shared) (H : Hp) (C : Addr) (cl : List (Str × Addr)) (fp : List Addr), PG (X.blk s H scope (compEnvC scope cl C X.env) fp) tg g) (ht : ∀ (s : Shared) (H : Hp) (C : Addr) (cl : List (Str × Addr)) (fp : List Addr), PTs (X.blk s H scope (compEnvC scope cl C X.env) fp) ifs tt)
    (hi1 : ∀ (s : Shared) (H : Hp) (C : Addr) (cl : List (Str × Addr)) (fp : List Addr), PI (X.blk s H scope (compEnvC scope cl C X.env) fp) tg1 iter1 wi1) (hg1 : ∀ (s : Shared) (H : Hp) (C : Addr) (cl : List (Str × Addr)) (fp : List Addr), PG (X.blk s H scope (compEnvC scope cl C X.env) fp) tg1 g1) (ht1 : ∀ (s : Shared) (H : Hp) (C : Addr) (cl : List (Str × Addr)) (fp : List Addr), PTs (X.blk s H scope (compEnvC scope cl C X.env) fp) ifs1 tt1)
    (hk : ∀ (s : Shared) (H : Hp) (C : Addr) (cl : List (Str × Addr)) (fp : List Addr), PE (X.blk s H scope (compEnvC scope cl C X.env) fp) kx tk) (he : ∀ (s : Shared) (H : Hp) (C : Addr) (cl : List (Str × Addr)) (fp : List Addr), PE (X.blk s H scope (compEnvC scope cl C X.env) fp) vx tv)
    (ho : o0 = .dK [] ∨ o0 = .dT []) (hs : ∀ x, foldedSetIterable iter X.env x = pure x := by intro _; rfl) (hs1 : ∀ env x, foldedSetIterable iter1 env x = pure x := by intro _ _; rfl) :
    PE X (.DictComp kx vx [⟨tg, iter, ifs, 0⟩, ⟨tg1, iter1, ifs1, 0⟩] scope pos) (tDp2 o0 wi g tt wi1 g1 tt1 tk tv (own.map (·.2)) vs1) := by
  refine ⟨fun pins s σ H Q I h => ?_⟩
  rw [arm_eval_DictComp]
  refine dp2_core hc hu hN I hi ok hv hg ht hi1 hg1 ht1 hk he ho hs hs1 h fun D C s' m H' I' q hn f => ⟨m, hn, fun h'' sb => ?_⟩
  obtain ⟨f0, f1, f2, f3, f4, f5⟩ := f
  exact ⟨.ref D, H', I'.turned (t' := s'.toks) (fun b o hb e => (sb.2 b hb).trans e) f0 f1 f3 f4 f5, rfl, q⟩
theorem ps_setDp2 {i : Nat} {y : Str} {py spos : Pos} {kx vx tg iter tg1 iter1 : Expr} {ifs ifs1 : List Expr} {scope : Scope} {own : List (Str × Nat)} {vs1 : List Nat} {pos : Pos} {o0 : HO} {wi wi1 : TI} {g g1 : TG} {tt tt1 : TT} {tk tv : TE} (hc : X.calm = true) (hu : X.A.units + 1 < cLine) (hN : X.N.Nodup) (hy : X.N[i]? = some y) (hyl : X.env.scope.names.lookup y = some .local)
    (hsw : swapsWith (.DictComp kx vx [⟨tg, iter, ifs, 0⟩, ⟨tg1, iter1, ifs1, 0⟩] scope pos) (some (.Name y py)) spos.line X.env = pure true) (hi : PI X tg iter wi) (ok : BlkOk X.N X.env.scope scope own) (hv : ∀ i ∈ vs1, i ∈ own.map (·.2))
    (hg : ∀ (s : Shared) (H : Hp) (C : Addr) (cl : List (Str × Addr)) (fp : List Addr), PG (X.blk s H scope (compEnvC scope cl C X.env) fp) tg g) (ht : ∀ (s : Shared) (H : Hp) (C : Addr) (cl : List (Str × Addr)) (fp : List Addr), PTs (X.blk s H scope (compEnvC scope cl C X.env) fp) ifs tt)
    (hi1 : ∀ (s : Shared) (H : Hp) (C : Addr) (cl : List (Str × Addr)) (fp : List Addr), PI (X.blk s H scope (compEnvC scope cl C X.env) fp) tg1 iter1 wi1) (hg1 : ∀ (s : Shared) (H : Hp) (C : Addr) (cl : List (Str × Addr)) (fp : List Addr), PG (X.blk s H scope (compEnvC scope cl C X.env) fp) tg1 g1) (ht1 : ∀ (s : Shared) (H : Hp) (C : Addr) (cl : List (Str × Addr)) (fp : List Addr), PTs (X.blk s H scope (compEnvC scope cl C X.env) fp) ifs1 tt1)
    (hk : ∀ (s : Shared) (H : Hp) (C : Addr) (cl : List (Str × Addr)) (fp : List Addr), PE (X.blk s H scope (compEnvC scope cl C X.env) fp) kx tk) (he : ∀ (s : Shared) (H : Hp) (C : Addr) (cl : List (Str × Addr)) (fp : List Addr), PE (X.blk s H scope (compEnvC scope cl C X.env) fp) vx tv)
    (ho : o0 = .dK [] ∨ o0 = .dT []) (hs : ∀ x, foldedSetIterable iter X.env x = pure x := by intro _; rfl) (hs1 : ∀ env x, foldedSetIterable iter1 env x = pure x := by intro _ _; rfl) :
    PS X (.Assign [.Name y py] (.DictComp kx vx [⟨tg, iter, ifs, 0⟩, ⟨tg1, iter1, ifs1, 0⟩] scope pos) spos) (tAsg (tDp2 o0 wi g tt wi1 g1 tt1 tk tv (own.map (·.2)) vs1) (gName i)) := by
  refine ⟨fun pins s σ H D I h => ?_⟩
  rw [exec_Assign_Name_used _ _ _ _ hsw]
  refine wpAny_bind (wpAny_standAt (wpAny_bind ?_))
  show wpAny _ X.A (do let _ ← comprehension (.DictComp kx vx [⟨tg, iter, ifs, 0⟩, ⟨tg1, iter1, ifs1, 0⟩] scope pos) scope X.env (firstIterPos [⟨tg, iter, ifs, 0⟩, ⟨tg1, iter1, ifs1, 0⟩] pos) newDict false (eval iter X.env) (some (assign (.Name y py) X.env))) _ _ s
  have h : tDp2 o0 wi g tt wi1 g1 tt1 tk tv (own.map (·.2)) vs1 σ H (fun x H1 => gName i x σ H1 D.nx) := h
  refine wpAny_bind (thn (dp2_core (Qf := fun _ s' => SP X pins D .next s') hc hu hN I hi ok hv hg ht hi1 hg1 ht1 hk he ho hs hs1 h fun L C s' m H' I' q hn f => ?_) fun _ s' hq => wpAny_pure (wpAny_pure hq))
  show wpAny _ _ (assign (.Name y py) X.env (.ref L)) _ _ _
  refine wpAny_assign_Name (store_ok2 (v := V.ref L) I' hN hy (.inl hyl) rfl (fun s2 I2 ⟨a, sb, ha⟩ => ?_) (.inr hyl))
  obtain ⟨f0, f1, f2, f3, f4, f5⟩ := f
  have haC : C ≠ a := by
    rcases ha with z | z
    · rw [z]; exact f1
    · exact fun e => f4 y a z e.symm
  refine ⟨m, hn.sameBut sb haC, fun h3 sb3 => ?_⟩
  exact ⟨_, H', I2.turned (t' := s2.toks) (fun b o hb e => (sb3.2 b hb).trans e) f0 f1 f3 f4 f5, q⟩
theorem swD_true {kx vx : Expr} {gs : List Comprehension} {scope : Scope} {pos py : Pos} {y : Str} {l : Nat} {env : Env} (hk : env.scope.kind = .function) (hy : env.scope.names.lookup y = some .local) (hl : (py.line == pos.line) = true)
    (ha : (scope.names.any fun (n, k) => n == y && (k == .local || k == .cell)) = false) : swapsWith (.DictComp kx vx gs scope pos) (some (.Name y py)) l env = pure true := by
  have ky : env.kindOf y = some .local := hy
  have hb : env.blockKind = .function := by unfold Env.blockKind; rw [hk]; rfl
  unfold swapsWith
  simp only [hb, ky, ha, Expr.pos, hl]
  rfl
end
end MN
/-! lists and tuples of texts and truths as data -/
namespace MN
open PySem PySem.Spec PyProof.Rows L2
section
variable {K : PySem.W.Frag} {H : Hp}
theorem dp_strs : ∀ zs : List Str, DpAll K H (zs.map V.str) (zs.map PyData.str)
  | [] => .nil
  | z :: zs => .cons (.str z) (dp_strs zs)
theorem dp_bls : ∀ bs : List Bool, DpAll K H (bs.map V.bl) (bs.map PyData.bool)
  | [] => .nil
  | b :: bs => .cons (.bl b) (dp_bls bs)
theorem dpT {t : Addr} {zs : List Str} (h : SqT K H t (zs.map V.str)) : Dp K H (.ref t) (.tuple (zs.map PyData.str)) := .tup h (dp_strs zs)
theorem dpL {t : Addr} {zs : List Str} (h : SqL K H t (zs.map V.str)) : Dp K H (.ref t) (.list (zs.map PyData.str)) := .lst h (dp_strs zs)
theorem dpB {t : Addr} {bs : List Bool} (h : SqL K H t (bs.map V.bl)) : Dp K H (.ref t) (.list (bs.map PyData.bool)) := .lst h (dp_bls bs)
theorem layAll (zs : List PyData) (h : ∀ d ∈ zs, d.canLay0 = true) : PyData.canLayAll0 zs = true := by
  induction zs with
  | nil => rfl
  | cons z zs ih =>
    rw [PyData.canLayAll0, h z List.mem_cons_self, ih fun d hd => h d (List.mem_cons_of_mem _ hd)]
    rfl
theorem depthAll0 (zs : List PyData) {n : Nat} (h : ∀ d ∈ zs, d.depth ≤ n) : PyData.depthAll zs ≤ n := by
  induction zs with
  | nil => simp [PyData.depthAll]
  | cons z zs ih =>
    rw [PyData.depthAll]
    have h1 := h z List.mem_cons_self
    have h2 := ih fun d hd => h d (List.mem_cons_of_mem _ hd)
    omega
theorem shapedT {zs : List PyData} (h : ∀ d ∈ zs, d.canLay0 = true ∧ d.depth ≤ 60) : SeqAt.shaped (.tuple zs) = true := by
  unfold SeqAt.shaped
  rw [PyData.canLay0, layAll zs fun d hd => (h d hd).1, PyData.depth]
  have := depthAll0 zs (n := 60) fun d hd => (h d hd).2
  simp only [Bool.true_and, decide_eq_true_eq]
  omega
theorem shapedL {zs : List PyData} (h : ∀ d ∈ zs, d.canLay0 = true ∧ d.depth ≤ 60) : SeqAt.shaped (.list zs) = true := by
  unfold SeqAt.shaped
  rw [PyData.canLay0, layAll zs fun d hd => (h d hd).1, PyData.depth]
  have := depthAll0 zs (n := 60) fun d hd => (h d hd).2
  simp only [Bool.true_and, decide_eq_true_eq]
  omega
theorem eqv_self {d : PyData} (h : SeqAt.shaped d = true) : PyData.eqv d d = true := SeqAt.eqv_refl d (SeqAt.canLay_of_shaped h)
end
end MN
/-! the head's facts: defs at any address, one more Bool -/
namespace MN
open PySem PySem.Spec PyProof.Rows L2
def obsX (ex : PySem.W.Frag → Bool) (fn : List He5.DefA) (K : PySem.W.Frag) : He.AlD := (ex K && fn.all fun d => d.ok K, fn.map fun d => He5.fnA K (d.at_ K))
def SaysX (ex : PySem.W.Frag → Bool) (fn : List He5.DefA) (K : PySem.W.Frag) : Prop := obsX ex fn K = He5.valA fn
def obsXG (n : Nat) (ex : PySem.W.Frag → Bool) (fn : List He5.DefA) (g : Addr → Option Obj) : He.AlD := obsX ex fn (He.frG g (He5.asA g n))
def hookX (n : Nat) (ex : PySem.W.Frag → Bool) (fn : List He5.DefA) : PySem.W.Hook where
  α := He.AlD
  obs := fun s => obsXG n ex fn s.heap.get?
  val := fun _ => He5.valA fn
  says := fun _ h => ∃ K : PySem.W.Frag, K.In h ∧ SaysX ex fn K
  of := fun _ _ e => ⟨_, He.frG_in, e⟩
  keeps := fun _ _ _ ⟨K, hK, c⟩ k => ⟨K, PySem.W.Frag.In.keeps hK k, c⟩
theorem obsXG_eq {n : Nat} {ex : PySem.W.Frag → Bool} {fn : List He5.DefA} {g : Addr → Option Obj} {s : Shared} (h : ∀ a, g a = s.heap.get? a) : obsXG n ex fn g = (hookX n ex fn).obs s := by
  have e : g = s.heap.get? := funext h
  rw [e] <;> rfl
section
variable {ex : PySem.W.Frag → Bool} {fn : List He5.DefA} {K : PySem.W.Frag}
theorem SaysX.all (c : SaysX ex fn K) : ex K = true := (He.ba (show (ex K && fn.all fun d => d.ok K) = true from congrArg (fun z : He.AlD => z.1) c)).1
theorem SaysX.def_ (c : SaysX ex fn K) (i : Nat) {d : He5.DefA} (h : fn[i]? = some d := by rfl) : ∃ fd, L2.FunD K d.name d.qual d.params d.body d.scope (d.dvs K) (d.kws K) (d.at_ K) fd := by
  have c2 := (He.ba (show (ex K && fn.all fun d => d.ok K) = true from congrArg (fun z : He.AlD => z.1) c)).2
  have e : fn.map (fun d => He5.fnA K (d.at_ K)) = fn.map He5.DefA.val := congrArg (fun z : He.AlD => z.2) c
  have e2 : (fn.map fun d => He5.fnA K (d.at_ K))[i]? = (fn.map He5.DefA.val)[i]? := by rw [e]
  rw [List.getElem?_map, List.getElem?_map, h] at e2
  exact He5.DefA.funD (Option.some.inj e2) (List.all_eq_true.mp c2 d (List.mem_of_getElem? h))
end
/-- a def of the top -/
def gDef (x : Str) (st : Stmt) : He5.DefA := { at_ := fun K => He.ga K x, name := x, qual := x, params := defArgs st, body := defBody st, scope := defScope st }
/-! ### a class with slots -/
def scB (K : PySem.W.Frag) (C : Addr) : Bool := PySem.W.plainGet K C Str.empty && (PySem.W.isClsIn K C && (PySem.W.plainOver K C && He.eqO (PySem.W.findIn K (.ref C) "__setattr__") (some (some (.builtin "object.__setattr__")))))
theorem scB_ok {K : PySem.W.Frag} {C : Addr} (h : scB K C = true) : SlX.SCls K C := by
  obtain ⟨h1, h⟩ := He.ba h
  obtain ⟨h2, h⟩ := He.ba h
  obtain ⟨h3, h4⟩ := He.ba h
  exact ⟨h1, h2, h3, He.eqO_ok h4⟩
def siB (K : PySem.W.Frag) (C : Addr) : Bool := He.eqO (PySem.W.findIn K (.ref C) "__class__") (some (some (.builtin "object.__class__"))) && (He.eqO (PySem.W.specialIn K (.builtin "object.__class__") "__get__") (some (some (.builtin "getset_descriptor.__get__"))) &&
  (decide (PySem.W.takesIn K (.builtin "object.__class__") = some true) && decide (PySem.W.mroIn K C (.type "object") = some true)))
theorem siB_ok {K : PySem.W.Frag} {C : Addr} (h : siB K C = true) : SlX.SIsi K C := by
  obtain ⟨h1, h⟩ := He.ba h
  obtain ⟨h2, h⟩ := He.ba h
  obtain ⟨h3, h4⟩ := He.ba h
  exact ⟨He.eqO_ok h1, He.eqO_ok h2, of_decide_eq_true h3, of_decide_eq_true h4⟩
def slB (K : PySem.W.Frag) (C : Addr) (f : Str) : Bool := He.eqO (PySem.W.findIn K (.ref C) f) (some (some (.ref (He.ma K C f)))) && (He.eqO (PySem.W.specialIn K (.ref (He.ma K C f)) "__get__") (some (some (.builtin "member_descriptor.__get__"))) &&
  (decide (PySem.W.takesIn K (.ref (He.ma K C f)) = some true) && (decide (PySem.W.typeIn K (.ref (He.ma K C f)) = some (.type "member_descriptor")) && (match PySem.W.slotIn K (He.ma K C f) C with
    | some i => decide (i < 1000)
    | none => false))))
theorem slB_ok {K : PySem.W.Frag} {C : Addr} {f : Str} (h : slB K C f = true) : ∃ p i, SlX.Slot1 K C f p i := by
  obtain ⟨h1, h⟩ := He.ba h
  obtain ⟨h2, h⟩ := He.ba h
  obtain ⟨h3, h⟩ := He.ba h
  obtain ⟨h4, h5⟩ := He.ba h
  cases e : PySem.W.slotIn K (He.ma K C f) C with
  | none =>
    rw [e] at h5
    cases h5
  | some i =>
    rw [e] at h5
    exact ⟨_, i, He.eqO_ok h1, He.eqO_ok h2, of_decide_eq_true h3, of_decide_eq_true h4, e, of_decide_eq_true h5⟩
/-- attributes and classmethods read off the class -/
def rdB (K : PySem.W.Frag) (C : Addr) : Bool := PySem.W.readsIn K C (.type "type") && He.eqO (PySem.W.specialIn K (.ref C) "__getattribute__") (some (some (.builtin "type.__getattribute__")))
theorem rdB_ok {K : PySem.W.Frag} {C : Addr} (h : rdB K C = true) : ClX.CRead K C (.type "type") := by
  obtain ⟨h1, h2⟩ := He.ba h
  exact ⟨h1, He.eqO_ok h2⟩
def cmB (K : PySem.W.Frag) (C : Addr) (m : Str) : Bool := He5.wrapB K C "classmethod" "classmethod.__get__" m && PySem.W.fnIn K (He5.wf K C "classmethod" m)
theorem cmB_ok {K : PySem.W.Frag} {C : Addr} {m : Str} (h : cmB K C m = true) : ClX.CMet K C (.type "type") m (He.ma K C m) (He5.wf K C "classmethod" m) := by
  obtain ⟨h1, h2⟩ := He.ba h
  exact He5.cmet_of h1 h2
/-! ### names -/
def freeAll (K : PySem.W.Frag) (xs : List Str) : Bool := xs.all fun x => (He.Fa.free x).ok K
def gloAll (K : PySem.W.Frag) (xs : List Str) : Bool := xs.all fun x => (He.Fa.glo x).ok K
section
variable {K : PySem.W.Frag} {h : Heap} {mg : Str → Option Value}
theorem freeAll_ok (X : K.In h) (G : h.Ns mainGlobals mg) {xs : List Str} (c : freeAll K xs = true) : ∀ x ∈ xs, mg x = none := fun x hx => He.free_ok X G (List.all_eq_true.mp c x hx)
theorem gloAll_ok (X : K.In h) (G : h.Ns mainGlobals mg) {xs : List Str} (c : gloAll K xs = true) {x : Str} (hx : x ∈ xs) : mg x = some (.ref (He.ga K x)) := He.glo_ok X G (List.all_eq_true.mp c x hx)
theorem intC_ok (X : K.In h) (G : h.Ns mainGlobals mg) {x : Str} {i : Int} (c : (He.Fa.int x i).ok K = true) : ∃ u, mg x = some u ∧ RelV (.int i) u := by
  obtain ⟨t, e⟩ := He.int_ok X G c
  exact ⟨_, e, t, rfl⟩
theorem strC_ok (X : K.In h) (G : h.Ns mainGlobals mg) {x z : Str} (c : (He.Fa.str x z).ok K = true) : ∃ u, mg x = some u ∧ RelV (.str z) u := by
  obtain ⟨t, e⟩ := He.str_ok X G c
  exact ⟨_, e, t, rfl⟩
end
end MN
/-! the head's facts in several runs (each a kernel run of its own: the memory of one alone would not do) -/
namespace MN
open PySem PySem.Spec PyProof.Rows L2
/-- one look: a Bool of the fragment, and defs -/
abbrev Look : Type := (PySem.W.Frag → Bool) × List He5.DefA
/-- the fragment is all of the heap below n: to gather what the names reach costs far more memory -/
def obsXR (n : Nat) (ex : PySem.W.Frag → Bool) (fn : List He5.DefA) (g : Addr → Option Obj) : He.AlD := obsX ex fn (He.frG g (List.range n))
def obsL (n : Nat) (ps : List Look) (g : Addr → Option Obj) : List He.AlD := ps.map fun p => obsXR n p.1 p.2 g
def hookL (n : Nat) (ps : List Look) : PySem.W.Hook where
  α := List He.AlD
  obs := fun s => obsL n ps s.heap.get?
  val := fun _ => ps.map fun p => He5.valA p.2
  says := fun _ h => ∃ K : PySem.W.Frag, K.In h ∧ ∀ p ∈ ps, SaysX p.1 p.2 K
  of := fun w s e => ⟨_, He.frG_in, fun p hp => by
    have e' : ps.map (fun p => obsXR n p.1 p.2 s.heap.get?) = ps.map fun p => He5.valA p.2 := e
    exact List.map_inj_left.mp e' p hp⟩
  keeps := fun _ _ _ ⟨K, hK, c⟩ k => ⟨K, PySem.W.Frag.In.keeps hK k, c⟩
def obL (n : Nat) (ps : List Look) (s : PySem.W.SharedT) : List He.AlD := obsL n ps (HandSHeadRun.getT s)
theorem obL_eq (n : Nat) (ps : List Look) (s : PySem.W.SharedT) : obL n ps s = (hookL n ps).obs s.abs := by
  have e : HandSHeadRun.getT s = s.abs.heap.get? := funext (HandSHeadRun.getT_eq s)
  show obsL n ps (HandSHeadRun.getT s) = obsL n ps s.abs.heap.get?
  rw [e]
section
variable (r : PySem.W.OpenRow) (M : Nat)
/-- the top's end -/
noncomputable abbrev endQ (w : World) (os : OsState) : Option PySem.W.SharedT := HandSHeadRun.endF (HandSHeadRun.stepQ (HandSHeadRun.denQ HandSHeadRun.tabQ) r.prog w) M r.prog w os
def RunL : Prop := ∀ w os, (endQ r M w os).map (fun s => HandSHeadRun.looksF r.prog (PySem.W.boot_heap w.params) s.abs) = some true
def RunN (q : Program) (loose : List Str) : Prop := ∀ w os, (endQ r M w os).map (fun s => HandSHeadRun.seenQ q loose (importedModules r.prog.main.body) (fun s => PySem.W.xlAt q [] s && PySem.W.recOk r.toRowW.records s) s.abs) = some (PySem.W.openGood q loose)
def RunP (n : Nat) (p : Look) : Prop := ∀ w os, (endQ r M w os).map (fun s => obsXR n p.1 p.2 (HandSHeadRun.getT s)) = some (He5.valA p.2)
theorem run_of {q : Program} {loose : List Str} {n : Nat} {ps : List Look} (h1 : RunL r M) (h2 : RunN r M q loose) (h3 : ∀ p ∈ ps, RunP r M n p) (w : World) : HandSHeadRun.RunEq r q (hookL n ps) (obL n ps) M loose w := by
  intro os
  obtain ⟨s, hs, l1⟩ := Option.map_eq_some_iff.mp (h1 w os)
  have l2 := h2 w os
  rw [hs] at l2
  have l3 : obL n ps s = ps.map fun p => He5.valA p.2 := by
    refine List.map_congr_left fun p hp => ?_
    have l := h3 p hp w os
    rw [hs] at l
    exact Option.some.inj l
  have l2' := Option.some.inj l2
  show (endQ r M w os).map _ = _
  rw [hs]
  exact congrArg some (Prod.ext l1 (Prod.ext l2' l3))
end
end MN
/-! the law's draws: whatever is drawn lies in its bounds -/
namespace MN
open PySem PySem.Spec PyProof.Rows L2
abbrev potO (a b c : Int) : HO := .lst [.int a, .int b, .int c]
def Pot (H : Hp) (p : Addr) : Prop := ∃ a b c, H p = some (potO a b c)
/-- all but the pot is as it was; the pot is one still -/
structure Ex (p : Addr) (H H' : Hp) : Prop where
  keep : ∀ b o, b ≠ p → H b = some o → H' b = some o
  pot : Pot H' p
theorem Pot.upd {H : Hp} {p : Addr} {a b c : Int} : Pot (L2.upd H p (potO a b c)) p := ⟨a, b, c, upd_same⟩
theorem Ex.turn {H : Hp} {p : Addr} {a b c : Int} : Ex p H (L2.upd H p (potO a b c)) := ⟨fun b o hb e => by rw [upd_ne hb]; exact e, .upd⟩
theorem Ex.trans {p : Addr} {H H1 H2 : Hp} (a : Ex p H H1) (b : Ex p H1 H2) : Ex p H H2 := ⟨fun x o hx e => b.keep x o hx (a.keep x o hx e), b.pot⟩
theorem Ex.new {p q : Addr} {H H1 : Hp} {o : HO} (a : Ex p H H1) (hq : H1 q = none) : Ex p H (L2.upd H1 q o) := by
  obtain ⟨x, y, z, hp⟩ := a.pot
  exact ⟨fun b u hb e => by rw [upd_ne (ne_of_none (a.keep b u hb e) hq)]; exact a.keep b u hb e, x, y, z, by rw [upd_ne (ne_of_none hp hq)]; exact hp⟩
theorem Ex.same {p : Addr} {H H1 H2 : Hp} (a : Ex p H H1) (s : Same H1 H2) : Ex p H H2 := by
  obtain ⟨x, y, z, hp⟩ := a.pot
  exact ⟨fun b u hb e => s _ _ (a.keep b u hb e), x, y, z, s _ _ hp⟩
theorem Ex.refl {p : Addr} {H : Hp} (h : Pot H p) : Ex p H H := ⟨fun _ _ _ e => e, h⟩
theorem Ex.free {p q : Addr} {H H1 : Hp} (a : Ex p H H1) (hp : Pot H p) (hq : H1 q = none) : H q = none := by
  cases e : H q with
  | none => rfl
  | some o =>
    by_cases z : q = p
    · subst z
      obtain ⟨x, y, w, h⟩ := a.pot
      rw [h] at hq; cases hq
    · rw [a.keep q o z e] at hq; cases hq
/-- an object that stands, or a new one, may be changed -/
theorem Ex.put {p q : Addr} {H H1 : Hp} {o : HO} (a : Ex p H H1) (hq : H q = none) (hne : q ≠ p) : Ex p H (L2.upd H1 q o) := by
  obtain ⟨x, y, z, hp⟩ := a.pot
  exact ⟨fun b u hb e => by rw [upd_ne (ne_of_none e hq)]; exact a.keep b u hb e, x, y, z, by rw [upd_ne (Ne.symm hne)]; exact hp⟩
theorem Ex.seqL {K : PySem.W.Frag} {p : Addr} {H H' : Hp} {a : Addr} {xs : List V} (e : Ex p H H') (h : SqL K H a xs) (hne : a ≠ p) : SqL K H' a xs := by
  rcases h with (h | ⟨o, h⟩) | h
  · exact .inl (.inl (e.keep _ _ hne h))
  · exact .inl (.inr ⟨o, e.keep _ _ hne h⟩)
  · exact .inr h
theorem Ex.seqT {K : PySem.W.Frag} {p : Addr} {H H' : Hp} {a : Addr} {xs : List V} (e : Ex p H H') (h : SqT K H a xs) (hne : a ≠ p) : SqT K H' a xs := by
  rcases h with (h | ⟨o, h⟩) | h
  · exact .inl (.inl (e.keep _ _ hne h))
  · exact .inl (.inr ⟨o, e.keep _ _ hne h⟩)
  · exact .inr h
theorem atI_int {ns : List Int} {i : Int} (h0 : 0 ≤ i) (h : i < (ns.map V.int).length) : ∃ x : Int, atI (ns.map V.int) i = some (.int x) := by
  obtain ⟨j, rfl⟩ : ∃ j : Nat, i = j := ⟨i.toNat, by omega⟩
  rw [List.length_map] at h
  have hj : j < ns.length := by omega
  exact ⟨ns[j], atI_nat (by rw [List.getElem?_map, List.getElem?_eq_getElem hj]; rfl)⟩
theorem atI_some {α : Type} {xs : List α} {r : Int} (h0 : 0 ≤ r) (h1 : r < (xs.length : Int)) : ∃ v, v ∈ xs ∧ xs[r.toNat]? = some v ∧ atI xs r = some v := by
  obtain ⟨j, rfl⟩ : ∃ j : Nat, r = j := ⟨r.toNat, by omega⟩
  have hj : j < xs.length := by omega
  exact ⟨xs[j], List.getElem_mem hj, by simp [hj], atI_nat (List.getElem?_eq_getElem hj)⟩
theorem perm_erase {α : Type} : ∀ {xs : List α} {k : Nat} {y : α}, xs[k]? = some y → (y :: xs.eraseIdx k).Perm xs
  | x :: xs, 0, y, h => by
    cases (show some x = some y from h)
    exact List.Perm.refl _
  | x :: xs, k + 1, y, h => by
    have ih := perm_erase (xs := xs) (k := k) (y := y) (by simpa using h)
    exact (List.Perm.swap x y _).trans (ih.cons x)
theorem seqIx {r : Int} {n : Nat} (h0 : 0 ≤ r) (h1 : r < n) : seqIndex? r n = some r.toNat := by
  unfold seqIndex?
  simp [show ¬ r < 0 by omega, h0, h1]
theorem join_signs (cs : List Nat) : (Txt.join "" (cs.map fun c => (⟨#[c]⟩ : Str))).cps.toList = cs := by
  rw [TL.join_eq]
  show TL.tl (Str.join "" (cs.map fun c => (⟨#[c]⟩ : Str))) = cs
  rw [TL.tl_join, List.map_map]
  have h : ∀ cs : List Nat, TL.joinL [] (cs.map (TL.tl ∘ fun c => (⟨#[c]⟩ : Str))) = cs := by
    intro cs
    induction cs with
    | nil => rfl
    | cons c cs ih =>
      cases cs with
      | nil => rfl
      | cons d r =>
        show [c] ++ ([] ++ TL.joinL [] ((d :: r).map (TL.tl ∘ fun c => (⟨#[c]⟩ : Str)))) = c :: d :: r
        rw [ih]; rfl
  exact h cs
/-! ### _law_word -/
def spDip : Sp := fun vs H Q _ => ∃ p n a b c, vs = [.ref p, .int n] ∧ H p = some (potO a b c) ∧ 0 < n ∧ n < 1000000 ∧ ∀ r a' b' c', 0 ≤ r → r < n → Q (.int r) (upd H p (potO a' b' c'))
def spFilled (K : PySem.W.Frag) : Sp := fun vs H Q _ => ∃ (a : Addr) (i : Int) (ns : List Int), vs = [.ref a, .int i] ∧ SqL K H a (ns.map V.int) ∧ 0 ≤ i ∧ i < 1000 ∧ ∀ q H', H q = none → Same H H' → Pot H' q → Q (.ref q) H'
def spChoose (K : PySem.W.Frag) : Sp := fun vs H Q _ => ∃ p x, vs = [.ref p, x] ∧ Pot H p ∧ ((∃ z : Str, x = .str z ∧ 0 < z.length ∧ z.length < 100000 ∧ ∀ c a' b' c', c ∈ z.cps.toList → Q (.str ⟨#[c]⟩) (upd H p (potO a' b' c'))) ∨
  (∃ l xs, x = .ref l ∧ l ≠ p ∧ SqL K H l xs ∧ 0 < xs.length ∧ xs.length < 100000 ∧ ∀ v a' b' c', v ∈ xs → Q v (upd H p (potO a' b' c'))))
end MN
/-! the draws of the laws k25 .. k34, k86, k87 -/
namespace MN
open PySem PySem.Spec PyProof.Rows L2
section
variable {P : Program} {w : World} {K : PySem.W.Frag} {mg : Str → Option Value} {base : Heap}
abbrev N_law_pull : List Str := ["_law_urn_here", "_law_total", "_law_found", "_law_one", "_law_two"]
theorem sc_law_pull : FnScope N_law_pull ["_law_urn_here", "_law_total"] (defScope (top 83)) := ⟨rfl, rfl, rfl, by decide +kernel, rfl, by decide +kernel, by decide +kernel⟩
theorem c_law_pull (A : At K mg "_law_pull" (top 83)) (B : Blt mg) : Cal P w K mg base 1 "_law_pull" spDip := by
  refine cal_of A sc_law_pull (fun _ _ _ _ _ _ us hl => match us, hl with | [_, _], _ => rfl) (fun vs H Q E h => ?_) (fun _ cdv A outer s H vs Q E hr h => ?_)
  · obtain ⟨_, _, _, _, _, rfl, _⟩ := h; rfl
  · obtain ⟨p, n, a, b, c, rfl, hp, h0, h1, hQ⟩ := h
    refine ⟨_, (pss_cons (ps_if (pt_cmpR op_gt (pe_ix ix_list (pv 0) pe_int (fun _ _ => rfl)) pe_int (nomark _))
      (pss_cons (ps_set (i := 2) sc_law_pull.nd rfl (Or.inl rfl) (pe_op op_mod (pe_callTy call_int1 (by rfl) B.int (by decide +kernel) (pa_cons (pe_ix ix_list (pv 0) pe_int (fun _ _ => rfl)) pa_nil)) (pv 1)))
      (pss_cons (ps_asg (pe_op op_fdiv (pe_ix ix_list (pv 0) pe_int (fun _ _ => rfl)) (pv 1)) (pg_sub (pv 0) pe_int set_list))
      (pss_one (ps_ret (pv 2)))))
      pss_nil)
      (pss_cons (ps_asg (pe_op op_add (pe_ix ix_list (pv 0) pe_int (fun _ _ => rfl)) pe_int) (pg_sub (pv 0) pe_int set_list))
      (pss_cons (ps_set (i := 3) sc_law_pull.nd rfl (Or.inl rfl) (pe_op op_mod (pe_callTy call_int1 (by rfl) B.int (by decide +kernel) (pa_cons (pe_op op_add (pe_ix ix_list (pv 0) pe_int (fun _ _ => rfl)) (pe_op op_mul pe_int (pe_ix ix_list (pv 0) pe_int (fun _ _ => rfl)))) pa_nil)) pe_int))
      (pss_cons (ps_set (i := 4) sc_law_pull.nd rfl (Or.inl rfl) (pe_op op_add (pe_op op_mul (pe_op op_mod (pe_callTy call_int1 (by rfl) B.int (by decide +kernel) (pa_cons (pe_op op_mul (pv 3) (pv 3)) pa_nil)) pe_int) (pv 3)) (pe_op op_mul pe_int (pe_ix ix_list (pv 0) pe_int (fun _ _ => rfl)))))
      (pss_one (ps_ret (pe_op op_mod (pe_callTy call_int1 (by rfl) B.int (by decide +kernel) (pa_cons (pe_op op_fdiv (pe_op op_mod (pe_callTy call_int1 (by rfl) B.int (by decide +kernel) (pa_cons (pv 4) pa_nil)) pe_int) pe_int) pa_nil)) (pv 1)))))))), ?_⟩
    refine ⟨_, rfl, p, _, _, _, rfl, rfl, SqL.of hp, rfl, _, _, rfl, rfl, _, rfl, ?_⟩
    refine ite2 (fun _ => ?_) (fun _ => ?_)
    · refine ⟨_, rfl, p, _, _, _, rfl, rfl, SqL.of hp, rfl, .inl ⟨_, rfl, _, rfl, _, _, rfl, rfl, h0, ?_⟩⟩
      refine ⟨_, rfl, p, _, _, _, rfl, rfl, SqL.of hp, rfl, _, rfl, _, _, rfl, rfl, ⟨h0, by omega⟩, _, rfl, p, _, _, 0, rfl, rfl, hp, rfl, ?_⟩
      exact ⟨_, rfl, hQ _ _ _ _ (Int.emod_nonneg _ (by omega)) (Int.emod_lt_of_pos _ h0)⟩
    · refine ⟨_, rfl, p, _, _, _, rfl, rfl, SqL.of hp, rfl, _, _, rfl, rfl, _, rfl, p, _, _, 2, rfl, rfl, hp, rfl, ?_⟩
      have hp1 : upd H p (.lst (List.set [V.int a, V.int b, V.int c] 2 (.int (c + 1)))) p = some (potO a b (c + 1)) := upd_same
      refine ⟨_, rfl, p, _, _, _, rfl, rfl, SqL.of hp1, rfl, _, rfl, p, _, _, _, rfl, rfl, SqL.of hp1, rfl, _, _, rfl, rfl, .inl ⟨by decide, by decide⟩, _, _, rfl, rfl, .inl ⟨_, rfl, _, _, rfl, rfl, (show (0 : Int) < 2305843009213693951 by decide), ?_⟩⟩
      have hb : ∀ x : Int, -(2 ^ 64) < x % 2305843009213693951 ∧ x % 2305843009213693951 < 2 ^ 64 := fun x => by omega
      refine ⟨_, rfl, _, rfl, _, _, rfl, rfl, .inl (hb _), .inl ⟨_, rfl, _, _, rfl, rfl, (show (0 : Int) < 2305843009213693907 by decide), _, rfl, _, _, rfl, rfl, .inr (hb _), _, rfl, p, _, _, _, rfl, rfl, SqL.of hp1, rfl, _, _, rfl, rfl, .inl ⟨by decide, by decide⟩, _, _, rfl, rfl, ?_⟩⟩
      refine ⟨_, rfl, .inl ⟨_, rfl, _, _, rfl, rfl, (show (0 : Int) < 2305843009213693921 by decide), _, _, rfl, rfl, ⟨by decide, by decide⟩, .inl ⟨_, rfl, _, rfl, _, _, rfl, rfl, h0, ?_⟩⟩⟩
      exact hQ _ a b (c + 1) (Int.emod_nonneg _ (by omega)) (Int.emod_lt_of_pos _ h0)
abbrev N_law_urn : List Str := ["_law_script", "_law_at", "_law_cell", "_law_great", "_law_mixed"]
theorem sc_law_urn : FnScope N_law_urn ["_law_script", "_law_at"] (defScope (top 82)) := ⟨rfl, rfl, rfl, by decide +kernel, rfl, by decide +kernel, by decide +kernel⟩
theorem c_law_urn (A : At K mg "_law_urn" (top 82)) (B : Blt mg) : Cal P w K mg base 1 "_law_urn" (spFilled K) := by
  refine cal_of A sc_law_urn (fun _ _ _ _ _ _ us hl => match us, hl with | [_, _], _ => rfl) (fun vs H Q E h => ?_) (fun _ cdv A outer s H vs Q E hr h => ?_)
  · obtain ⟨_, _, _, rfl, _⟩ := h; rfl
  · obtain ⟨a, i, ns, rfl, ha, h0, h1, hQ⟩ := h
    refine ⟨_, (pss_cons (ps_set (i := 2) sc_law_urn.nd rfl (Or.inl rfl) (pe_ifExp (pt_cmpR op_lt (pv 1) (pe_callB call_len_seq (by rfl) B.len (by decide +kernel) (pa_cons (pv 0) pa_nil)) (nomark _)) (pe_ix ix_list (pv 0) (pv 1) (fun _ _ => rfl)) (pe_op op_add (pe_op op_mul pe_int (pv 1)) pe_int)))
      (pss_cons (ps_set (i := 3) sc_law_urn.nd rfl (Or.inl rfl) (pe_op op_mod (pe_callTy call_int1 (by rfl) B.int (by decide +kernel) (pa_cons (pe_callB call_abs (by rfl) B.abs (by decide +kernel) (pa_cons (pv 2) pa_nil)) pa_nil)) (pe_op op_powB (pe_op op_powB pe_int pe_int) pe_int)))
      (pss_cons (ps_set (i := 4) sc_law_urn.nd rfl (Or.inl rfl) (pe_op op_add (pe_op op_mul (pe_op op_mod (pe_callTy call_int1 (by rfl) B.int (by decide +kernel) (pa_cons (pv 3) pa_nil)) pe_int) pe_int) (pe_callTy call_int1 (by rfl) B.int (by decide +kernel) (pa_cons (pe_cmpR op_lt (pv 2) pe_int (nomark _)) pa_nil))))
      (pss_one (ps_ret (pe_lst (pa_cons (pe_callB (call_max2 rfl) (by rfl) B.max (by decide +kernel) (pa_cons pe_int (pa_cons (pe_op op_sub (pv 3) (pe_op op_powB pe_int pe_int)) pa_nil))) (pa_cons (pe_op op_mod (pe_callTy call_int1 (by rfl) B.int (by decide +kernel) (pa_cons (pe_op op_add (pe_op op_add (pe_op op_mul (pv 4) pe_int) (pe_op op_mul pe_int (pv 1))) pe_int) pa_nil)) pe_int) (pa_cons pe_int pa_nil))))))))), ?_⟩
    refine ⟨_, rfl, _, rfl, a, _, rfl, .inl ha, _, _, rfl, rfl, _, rfl, ?_⟩
    refine ite2 (fun hc => ?_) (fun hc => ?_)
    · obtain ⟨x, hx⟩ := atI_int h0 (of_decide_eq_true hc)
      refine ⟨_, rfl, _, rfl, a, _, _, _, rfl, rfl, ha, hx, ?_⟩
      refine ⟨_, rfl, _, rfl, .inl ⟨_, rfl, _, _, rfl, rfl, ⟨by decide, by decide +kernel⟩, _, _, rfl, rfl, ⟨by decide, by decide +kernel⟩, _, _, rfl, rfl, ?_, ?_⟩⟩
      · show (0 : Int) < (10 ^ 60) ^ 8
        decide
      refine ⟨_, rfl, .inl ⟨_, rfl, _, _, rfl, rfl, (show (0 : Int) < 2305843009213693907 by decide), _, _, rfl, rfl, .inr ⟨by decide, by decide⟩, _, rfl, _, _, rfl, rfl, .inr ⟨_, rfl, _, _, rfl, rfl, ?_⟩⟩⟩
      refine ⟨_, rfl, _, _, rfl, rfl, ⟨by decide, by decide +kernel⟩, _, _, rfl, rfl, _, _, rfl, _, rfl, _, _, rfl, rfl, .inr ⟨by decide, by decide⟩, _, rfl, _, _, rfl, rfl, .inl ⟨by decide, by decide⟩, _, _, rfl, rfl, _, _, rfl, rfl, .inl ⟨_, rfl, _, _, rfl, rfl, (show (0 : Int) < 2305843009213693951 by decide), (by show 3 ≤ sizeLine; decide), fun q hq => ?_⟩⟩
      exact hQ q _ hq (same_new hq) ⟨_, _, _, upd_same⟩
    · refine ⟨_, rfl, _, _, rfl, rfl, .inl ⟨by decide, by decide⟩, _, _, rfl, rfl, ?_⟩
      refine ⟨_, rfl, _, rfl, .inl ⟨_, rfl, _, _, rfl, rfl, ⟨by decide, by decide +kernel⟩, _, _, rfl, rfl, ⟨by decide, by decide +kernel⟩, _, _, rfl, rfl, ?_, ?_⟩⟩
      · show (0 : Int) < (10 ^ 60) ^ 8
        decide
      refine ⟨_, rfl, .inl ⟨_, rfl, _, _, rfl, rfl, (show (0 : Int) < 2305843009213693907 by decide), _, _, rfl, rfl, .inr ⟨by decide, by decide⟩, _, rfl, _, _, rfl, rfl, .inr ⟨_, rfl, _, _, rfl, rfl, ?_⟩⟩⟩
      refine ⟨_, rfl, _, _, rfl, rfl, ⟨by decide, by decide +kernel⟩, _, _, rfl, rfl, _, _, rfl, _, rfl, _, _, rfl, rfl, .inr ⟨by decide, by decide⟩, _, rfl, _, _, rfl, rfl, .inl ⟨by decide, by decide⟩, _, _, rfl, rfl, _, _, rfl, rfl, .inl ⟨_, rfl, _, _, rfl, rfl, (show (0 : Int) < 2305843009213693951 by decide), (by show 3 ≤ sizeLine; decide), fun q hq => ?_⟩⟩
      exact hQ q _ hq (same_new hq) ⟨_, _, _, upd_same⟩
/-- one of a list's items -/
def spFrom (K : PySem.W.Frag) : Sp := fun vs H Q _ => ∃ p l xs, vs = [.ref p, .ref l] ∧ Pot H p ∧ l ≠ p ∧ SqL K H l xs ∧ 0 < xs.length ∧ xs.length < 100000 ∧ ∀ v a' b' c', v ∈ xs → Q v (upd H p (potO a' b' c'))
abbrev N_law_from : List Str := ["_law_urn_here", "_law_items"]
theorem sc_law_from : FnScope N_law_from ["_law_urn_here", "_law_items"] (defScope (top 84)) := ⟨rfl, rfl, rfl, by decide +kernel, rfl, by decide +kernel, by decide +kernel⟩
theorem c_law_from (A : At K mg "_law_from" (top 84)) (B : Blt mg) (c_law_pull : Cal P w K mg base 1 "_law_pull" spDip) : Cal P w K mg base 2 "_law_from" (spFrom K) := by
  refine cal_of A sc_law_from (fun _ _ _ _ _ _ us hl => match us, hl with | [_, _], _ => rfl) (fun vs H Q E h => ?_) (fun _ cdv A outer s H vs Q E hr h => ?_)
  · obtain ⟨_, _, _, rfl, _⟩ := h; rfl
  · obtain ⟨p, l, xs, rfl, ⟨a, b, c, hp⟩, hlp, hl, h0, h1, hQ⟩ := h
    refine ⟨_, (pss_one (ps_ret (pe_ix ix_list (pv 1) (pe_c c_law_pull hr (by decide) (by rfl) (pa_cons (pv 0) (pa_cons (pe_callB call_len_seq (by rfl) B.len (by decide +kernel) (pa_cons (pv 1) pa_nil)) pa_nil))) (fun _ _ => rfl)))), ?_⟩
    refine ⟨_, rfl, _, rfl, _, rfl, l, xs, rfl, .inl hl, p, _, a, b, c, rfl, hp, by omega, by omega, fun r a' b' c' r0 r1 => ?_⟩
    obtain ⟨v, hv, -, ha⟩ := atI_some (xs := xs) r0 r1
    exact ⟨l, _, _, v, rfl, rfl, Ex.turn.seqL hl hlp, ha, hQ v a' b' c' hv⟩
end
end MN
/-! sorted(set(xs)), sum of truths, len of an instance with slots -/
namespace MN
open PySem PySem.Spec PyProof.Rows L2
section
variable {P : Program} {w : World} {A : Around} {E : Value → Shared → Prop} {s : Shared}
set_option maxRecDepth 100000 in
set_option maxHeartbeats 3200000 in
theorem set_of_list {l : Addr} {items : Array Value} (ns : List Int) {Q : Value → Shared → Prop} (hh : A.handled = none) (hl : s.heap.IsList l items) (hit : IntsAre items.toList ns) (hb : ns.length + 1 < scanBound)
    (h : ∀ (h' : Heap) (tk c : Nat), SetR w h' s.heap.objs.size (fun j => decide (j ∈ ns)) c → c ≤ ns.length → (∀ b o, s.heap.get? b = some o → h'.get? b = some o) → Q (.ref s.heap.objs.size) { s with heap := h', toks := tk }) :
    wpAny (model P w) A (call (.type "set") [.ref l]) Q E s := by
  have hisz : items.size = ns.length := by
    have q := IntsAre.length hit
    rw [Array.length_toList] at q
    exact q
  obtain ⟨c, tl, hmro⟩ := F.called_set.mro
  have hmade := F.called_set.made
  have hsub := F.called_set.sub
  refine wpAny_call (codeAny_of_tree ?_)
  show wpAny _ _ (callAny (.type "set") _) _ _ _
  refine wpAny_pure ⟨Code.quiet_builtin _ (by decide +kernel), codeAny_builtin F.entry_type_call ?_⟩
  rw [Around.under_plain (weight_type_call_type "set" [.ref l] []) rfl]
  have h1 := F.called_set.notType
  have h2 := F.called_set.canCreate
  have hct := F.typeCall_set_1 (.ref l)
  repeat (any_goals (first | assumption | wp_step))

  refine codeAny_mono (code_set_led1 (.ref l) (E := E) (Q₁ := fun obj s₁ => obj = .ref s.heap.objs.size ∧ s₁ = { s with heap := s.heap.push { cls := .type "set", dict := none, data := .set #[] 0 (.fresh 0 0 (!w.params.followText "set-order")) } }) ⟨rfl, rfl⟩) fun r s₁ hr => ?_
  cases r with
  | error e => exact hr
  | ok fl =>
    cases fl with
    | ret obj =>
      obtain ⟨rfl, rfl⟩ := hr
      have hS : (s.heap.push { cls := .type "set", dict := none, data := .set #[] 0 (.fresh 0 0 (!w.params.followText "set-order")) }).get? s.heap.objs.size = some { cls := .type "set", dict := none, data := .set #[] 0 (.fresh 0 0 (!w.params.followText "set-order")) } := Heap.get?_push_size _ rfl
      have hT : Shared.TypeIs { s with heap := s.heap.push { cls := .type "set", dict := none, data := .set #[] 0 (.fresh 0 0 (!w.params.followText "set-order")) } } (.ref s.heap.objs.size) "set" := ⟨_, hS, rfl⟩
      have hli := F.called_set.init.lookup
      have hbi := F.called_set.init.bind (.ref s.heap.objs.size)
      repeat (any_goals (first | assumption | wp_step))

      refine codeAny_mono (codeAny_call_builtin (R := wants (fun r s₂ => r = .none ∧ ∃ h' tk c, s₂ = { s with heap := h', toks := tk } ∧ SetR w h' s.heap.objs.size (fun j => decide (j ∈ ns)) c ∧ c ≤ ns.length ∧
          (∀ b o, s.heap.get? b = some o → h'.get? b = some o)) E) F.called_set.init.plain F.entry_set_init (check_set_init_1 hT ?_)) fun r₂ s₂ hr₂ => ?_
      · obtain ⟨ol, hol, hcl, nl, hdl⟩ := hl
        obtain ⟨ocls, odict, odata, oslots⟩ := ol
        simp only at hcl hdl
        subst hcl; subst hdl
        have hol' : (s.heap.push { cls := .type "set", dict := none, data := .set #[] 0 (.fresh 0 0 (!w.params.followText "set-order")) }).get? l = some { cls := .type "list", dict := odict, data := .seq items nl, slots := oslots } := Heap.get?_push_of_some _ hol
        have hsls := F.sub_list_set
        have hslf := F.sub_list_frozenset
        have hne : (Value.type "list" == Value.type "dict") = false := by decide
        have hl1 : (s.heap.push { cls := .type "set", dict := none, data := .set #[] 0 (.fresh 0 0 (!w.params.followText "set-order")) }).IsList l items := ⟨_, hol', rfl, nl, rfl⟩
        unfold Builtin.«set.__init__» noKeywords Builtin.Frozenset.updateFrom
        generalize hPI : pyIter = PI
        wp_walk
        subst hPI

        refine wpAny_pyIter_list hl1 ?_
        refine wpAny_bind (wpAny_runValue ?_)
        have hlS : l < s.heap.objs.size := Heap.lt_size hol
        have hh3 : A.in1.in1.in1.handled = none := by simp [hh]
        have hz1 : (s.heap.push { cls := .type "set", dict := none, data := .set #[] 0 (.fresh 0 0 (!w.params.followText "set-order")) }).objs.size = s.heap.objs.size + 1 := Heap.size_push ..
        have hneI : l ≠ (s.heap.push { cls := .type "set", dict := none, data := .set #[] 0 (.fresh 0 0 (!w.params.followText "set-order")) }).objs.size := by
          rw [Heap.size_push]; exact Nat.ne_of_lt (Nat.lt_succ_of_lt hlS)
        have hSf : s.heap.objs.size ∉ [(s.heap.push { cls := .type "set", dict := none, data := .set #[] 0 (.fresh 0 0 (!w.params.followText "set-order")) }).objs.size, l] := by
          rw [Heap.size_push]; simp only [List.mem_cons, List.mem_singleton, List.not_mem_nil, or_false, not_or]
          exact ⟨Nat.ne_of_lt (Nat.lt_succ_self _), Nat.ne_of_gt hlS⟩
        have hval : ∀ (i : Nat) (v : Value), items[i]? = some v → ∃ k t, ns[i]? = some k ∧ v = .int k t := fun i v hv => by
          have hi : i < ns.length := by rw [← hisz]; exact (Array.getElem?_eq_some_iff.mp hv).1
          obtain ⟨t, e⟩ := PyProof.Rows.IntsAre.int_at hit i v (by rw [Array.getElem?_toList]; exact hv)
          refine ⟨ns[i], t, List.getElem?_eq_getElem hi, ?_⟩
          rw [e, List.getD_eq_getElem?_getD, List.getElem?_eq_getElem hi] <;> rfl
        refine set_update_ints ((Walks.list hh3 _ l hneI items).toS) s.heap.objs.size
          hSf ns hisz hb hval (items.size - 0) 0 _ (by omega) (Nat.zero_le _)
          ⟨⟨_, Heap.get?_push_size _ rfl, rfl, rfl⟩, (hl1.push _)⟩ ?hS0 ?hR
        case hS0 =>
          have hget : ((s.heap.push { cls := .type "set", dict := none, data := .set #[] 0 (.fresh 0 0 (!w.params.followText "set-order")) }).push { cls := .type "list_iterator", data := .fields #[.ref l, .int 0 0] }).get? s.heap.objs.size
              = some { cls := .type "set", dict := none, data := .set #[] 0 (.fresh 0 0 (!w.params.followText "set-order")) } := Heap.get?_push_of_some _ hS
          exact ⟨0, Nat.le_refl 0, setR_new_at hget⟩
        case hR =>
          intro s' c' hm hc' hS'
          obtain ⟨h', g2, d', tk', os'⟩ := s'
          have eg : g2 = s.gens := hm.gens
          have ed : d' = s.drawn := hm.drawn
          have eo : os' = s.os := hm.os
          subst eg; subst ed; subst eo
          show wpAny _ _ _ _ _ _
          refine wpAny_pure ?_
          show wpAny _ _ (ret Value.none) _ _ _
          rw [hisz] at hc'
          refine wpAny_pure ⟨rfl, h', tk', c', rfl, hS', hc', fun b o e => ?_⟩
          have hb0 : b < s.heap.objs.size := Heap.lt_size e
          have hb1 : b ≠ s.heap.objs.size := Nat.ne_of_lt hb0
          have hb2 : b ≠ (s.heap.push { cls := .type "set", dict := none, data := .set #[] 0 (.fresh 0 0 (!w.params.followText "set-order")) }).objs.size := by
            rw [Heap.size_push]; exact Nat.ne_of_lt (Nat.lt_succ_of_lt hb0)
          exact hm.heap b o (by simp only [List.mem_cons, List.mem_singleton, List.not_mem_nil, or_false, not_or]; exact ⟨hb1, hb2⟩) (Heap.get?_push_of_some _ (Heap.get?_push_of_some _ e))

      · cases r₂ with
        | error e => exact hr₂
        | ok fl₂ =>
          cases fl₂ with
          | ret r =>
            obtain ⟨rfl, h', tk, c', rfl, hS', hc', hk'⟩ := hr₂
            repeat (any_goals (first | assumption | wp_step))
            exact h _ _ _ hS' hc' hk'
          | _ => exact hr₂.elim
    | _ => exact hr.elim

end
section
variable {prog : Program} {w : World} {A : Around} {R : Result → Shared → Prop} {I : Addr} {fp wr : List Addr} {n : Nat} {P : Nat → Value → Prop} {St : Nat → Heap → Prop}
theorem preSum_le (val : Nat → Int) (hb : ∀ i, 0 ≤ val i ∧ val i ≤ 1) : ∀ i, 0 ≤ preSum val i ∧ preSum val i ≤ i
  | 0 => ⟨Int.le_refl _, Int.le_refl _⟩
  | i + 1 => by
    have h1 := preSum_le val hb i
    have h2 := hb i
    have e : preSum val (i + 1) = preSum val i + val i := rfl
    rw [e]
    omega
theorem sum_loopB (W : Walks prog w A.in1 I fp wr n P St) (val : Nat → Int) (hn : n ≤ 1000000) (hval : ∀ i v, P i v → ∃ b : Bool, v = .bool b ∧ val i = if b = true then 1 else 0) (hb : ∀ i, 0 ≤ val i ∧ val i ≤ 1) (S : Addr) (hSf : S ∉ fp) :
    ∀ (k i : Nat) (s : Shared) (tA : Tok) (c : Nat), n - i = k → i ≤ n → St i s.heap → s.heap.get? S = some { cls := .type "list", dict := none, data := .seq #[.int (preSum val i) tA] c, slots := #[] } →
    (∀ h' tk t', (∀ b o, b ∉ wr → b ≠ S → s.heap.get? b = some o → h'.get? b = some o) → R (.ok (.ret (.int (preSum val n) t'))) { s with heap := h', toks := tk }) →
    codeAny (model prog w) A (.builtin "sum.loop" ⟨[.ref I, .ref S, rawInt 0, rawInt 0], []⟩) R s := by
  have hSw : S ∉ wr := fun h => hSf (W.sub _ h)
  intro k
  induction k with
  | zero =>
    intro i s tA c hk hi hst hS hR
    have hin : i = n := by omega
    subst hin
    refine codeAny_builtin F.entry_sum_loop ?_
    rw [Around.under_plainId F.plain_sum_loop _]
    show wpAny _ A.in1 (seqItems? (.ref S) >>= _) _ _ s
    refine wpAny_bind (wpAny_seqItems hS rfl ?_)
    show wpAny _ A.in1 (tryCatch (pyNext (.ref I)) _ >>= _) _ _ s
    refine wpAny_bind (wpAny_tryCatch (W.done s _ _ hst fun h' tk hk' => ?_))
    exact wpAny_pure (hR h' tk tA fun b o hbw _ e => hk' b o hbw e)
  | succ k ih =>
    intro i s tA c hk hi hst hS hR
    have hlt : i < n := by omega
    refine codeAny_builtin F.entry_sum_loop ?_
    rw [Around.under_plainId F.plain_sum_loop _]
    show wpAny _ A.in1 (seqItems? (.ref S) >>= _) _ _ s
    refine wpAny_bind (wpAny_seqItems hS rfl ?_)
    show wpAny _ A.in1 (tryCatch (pyNext (.ref I)) _ >>= _) _ _ s
    refine wpAny_bind (wpAny_tryCatch (W.item i s _ _ hlt hst fun v h' tk hP hst' hk' => ?_))
    obtain ⟨b, rfl, hvb⟩ := hval i v hP
    have hS' := hk' S _ hSw hS
    have p1 := preSum_le val hb i
    have p2 := hb i
    show wpAny _ A.in1 (if (_ : Bool) = true then (mkInt (preSum val i + (if b = true then 1 else 0)) >>= _) else _) _ _ _
    rw [← hvb]
    split
    case isFalse hf =>
      refine absurd ?_ hf
      show ((decide (-(2 ^ 63) ≤ val i) && decide (val i < 2 ^ 63)) && (decide (-(2 ^ 63) ≤ preSum val i + val i) && decide (preSum val i + val i < 2 ^ 63))) = true
      simp only [Bool.and_eq_true, decide_eq_true_eq]
      omega
    refine wpAny_bind (wpAny_mkInt ?_)
    show wpAny _ A.in1 (updateSeq S (fun _ => #[.int (preSum val i + val i) tk]) >>= _) _ _ _
    refine wpAny_bind ?_
    refine wpAny_updateSeq hS' rfl (wpAny_pure ⟨plainId_quiet F.plain_sum_loop _, ih (i + 1) _ tk _ (by omega) hlt (W.frame _ _ _ hst' fun b hb o e => ?_) (Heap.get?_update_self _ hS' rfl) fun h'' tk'' t'' hk'' => ?_⟩)
    · exact (Heap.get?_update_other _ _ (fun h : S = b => hSf (by rw [h]; exact hb))).trans e
    · exact hR h'' tk'' t'' fun b o hbw hbS e => hk'' b o hbw hbS ((Heap.get?_update_other _ _ (Ne.symm hbS)).trans (hk' b o hbw e))
end
section
variable {prog : Program} {w : World} {A : Around} {E : Value → Shared → Prop} {s : Shared}
theorem call_sum_truths {x : Value} {Q : Value → Shared → Prop}
    (h : wpAny (model prog w) A.in1 (pyIter x) (fun it s₂ => ∃ I fp wr n P St val, it = .ref I ∧ Walks prog w A.in1 I fp wr n P St ∧ St 0 s₂.heap ∧ (∀ b ∈ fp, b < s₂.heap.objs.size) ∧
      n ≤ 1000000 ∧ (∀ i v, P i v → ∃ b : Bool, v = .bool b ∧ val i = if b = true then 1 else 0) ∧ (∀ i, 0 ≤ val i ∧ val i ≤ 1) ∧
      ∀ h' tk t', (∀ b o, b ∉ wr → s₂.heap.get? b = some o → h'.get? b = some o) → Q (.int (preSum val n) t') { s₂ with heap := h', toks := tk }) E s) :
    wpAny (model prog w) A (call (.builtin "sum") [x]) Q E s := by
  refine call_function_tree F.kind_sum F.plain_sum F.entry_sum (F.args_sum1 _) ?_
  unfold Builtin.«sum»
  simp only [List.length_cons, List.length_nil]
  rw [if_neg (by decide)]
  refine wpAny_bind (wpAny_of_eq (show Builtin.Builtins.bindParams "sum" ["start"] 0 { } = pure [none] from rfl) ?_)
  refine wpAny_bind (wpAny_mono h (fun it s₂ h₂ => ?_) fun _ _ e => e)
  obtain ⟨I, fp, wr, n, P, St, val, rfl, W, hst, hfp, hn, hval, hb, hQ⟩ := h₂
  refine wpAny_bind (wpAny_mkInt ?_)
  refine wpAny_bind (wpAny_pure ?_)
  simp only [List.forIn_cons, List.forIn_nil]
  refine wpAny_bind (wpAny_bind (wpAny_bind (wpAny_isInstance (T := "int") (b := false) (typeIs_int _ _ _) PySem.sub_int_str ?_)))
  simp only [Bool.false_eq_true, if_false]
  refine wpAny_pure (wpAny_bind (wpAny_bind (wpAny_isInstance (T := "int") (b := false) (typeIs_int _ _ _) PySem.sub_int_bytes ?_)))
  simp only [Bool.false_eq_true, if_false]
  refine wpAny_pure (wpAny_bind (wpAny_bind (wpAny_isInstance (T := "int") (b := false) (typeIs_int _ _ _) PySem.sub_int_bytearray ?_)))
  simp only [Bool.false_eq_true, if_false]
  refine wpAny_pure (wpAny_pure ?_)
  refine wpAny_bind (wpAny_newObj_type ?_)
  have hSf : s₂.heap.objs.size ∉ fp := fun hm => Nat.lt_irrefl _ (hfp _ hm)
  refine wpAny_pure ⟨plainId_quiet F.plain_sum_loop _, sum_loopB W val hn hval hb s₂.heap.objs.size hSf n 0 _ s₂.toks 0 rfl (Nat.zero_le _)
    (W.frame _ _ _ hst fun b _ o e => Heap.get?_push_of_some _ e) (Heap.get?_push_size _ rfl) fun h' tk t' hk => ?_⟩
  exact hQ h' tk t' fun b o hbw e => hk b o hbw (Nat.ne_of_lt (Heap.lt_size e)) (Heap.get?_push_of_some _ e)
end
section
variable {X : Cx}
theorem nodup_sub {α : Type} [DecidableEq α] : ∀ {l l' : List α}, l.Nodup → (∀ x ∈ l, x ∈ l') → l.length ≤ l'.length
  | [], _, _, _ => Nat.zero_le _
  | a :: l, l', h, hs => by
    have h' := List.nodup_cons.mp h
    have ha := hs a List.mem_cons_self
    have ih := nodup_sub (l := l) (l' := l'.erase a) h'.2 fun x hx => by
      have n : x ≠ a := fun z => h'.1 (z ▸ hx)
      exact (List.mem_erase_of_ne n).mpr (hs x (List.mem_cons_of_mem _ hx))
    have hp := List.length_pos_of_mem ha
    rw [List.length_erase_of_mem ha] at ih
    rw [List.length_cons]
    omega
/-- set(xs) of a list of ints -/
def rSetL (K : PySem.W.Frag) (w : World) : List V → Hp → VK → Prop := fun xs H Q => ∃ (l : Addr) (ns : List Int), xs = [V.ref l] ∧ SqL K H l (ns.map V.int) ∧ ns.length ≤ 1000 ∧ ∀ p c, H p = none → c ≤ ns.length → (∀ B : Nat, (∀ n ∈ ns, 0 ≤ n ∧ n < B) → c ≤ B) → Q (.ref p) (upd H p (SetO w p (fun j => decide (j ∈ ns)) c))
theorem setR_le {w : World} {h : Heap} {a : Addr} {ns : List Int} {c : Nat} (R : SetR w h a (fun j => decide (j ∈ ns)) c) {B : Nat} (hb : ∀ n ∈ ns, 0 ≤ n ∧ n < B) : c ≤ B := by
  obtain ⟨o, es, ep, t, ho, hx, hd, g, nd, hm, _, hf, hn, _⟩ := R
  have q := nodup_sub (l' := (List.range B).map fun (i : Nat) => (i : Int)) nd fun x hx => by
    have hx' : x ∈ ns := of_decide_eq_true ((hm x).mpr hx)
    have := hb x hx'
    exact List.mem_map.mpr ⟨x.toNat, List.mem_range.mpr (by omega), by omega⟩
  rw [List.length_map, List.length_map, List.length_range, Array.length_toList, hn] at q
  exact q
theorem cr_setL (hc : X.calm = true) : CallR X (.type "set") (rSetL X.K X.w) := by
  intro pins s σ H xs us Q I r h
  obtain ⟨l, ns, rfl, hs, hl, q⟩ := h
  obtain ⟨its, rv, pl, _⟩ := I.list hs
  rw [Vals.ref1 r]
  refine set_of_list ns (I.ok.hd hc) pl.isList (by simpa using rv.ints) (by unfold scanBound; omega) fun h' tk c R hcl hk => ?_
  exact ⟨.ref _, _, I.laid hk (Nat.le_refl _) (setO_new R), rfl, q _ c (I.hok.fresh (Nat.le_refl _)) hcl fun B hb => setR_le R hb⟩
/-- len(x) of an instance with slots whose class has an own __len__ -/
def rLenOwn (C : Addr) (sp : Sp) (E : XK) : List V → Hp → VK → Prop := fun xs H Q => ∃ a dx vs, xs = [V.ref a] ∧ SlX.Slt H a C dx vs ∧ sp [.ref a] H (fun z H' => ∃ n : Int, z = .int n ∧ 0 ≤ n ∧ n < 2 ^ 63 ∧ Q (.int n) H') E
end
section
variable {prog : Program} {w : World} {A : Around} {E : Value → Shared → Prop} {s : Shared} {K : PySem.W.Frag} {x C f : Addr} {ox : Obj} {od : Option Obj}
theorem len_own1 {Q : Value → Shared → Prop} (X : K.In s.heap) (I : PySem.W.InstAt s.heap x ox C od) (hs : PySem.W.findIn K (.ref C) "__len__" = some (some (.ref f))) (hf : PySem.W.isFn K (.ref f) = true)
    (h : wpAny (model prog w) A.in1 (call (.ref f) [.ref x]) (PySem.W.LenBack Q) E s) : wpAny (model prog w) A (call (.builtin "len") [.ref x]) Q E s := by
  refine Calls.call_function_entry kind_len plain_len entry_len (args_len1 _) ?_
  unfold Builtin.«len»
  refine wpAny_bind (m := oneArg "len" _) (wpAny_pure ?_)
  refine wpAny_bind (m := callSpecial? (.ref x) (Str.ofString "__len__")) (PySem.W.special_fn X I hs (beq_iff_eq.mp hf) (wpAny_mono h (fun r s' hr => ?_) fun _ _ y => y))
  cases r <;> first | exact hr.elim | skip
  rename_i n u
  obtain ⟨⟨h0, h1⟩, hq⟩ := hr
  refine wpAny_bind (wpAny_holding (wpAny_pure ?_))
  refine wpAny_bind (wpAny_letGo ?_)
  show wpAny _ _ (if n < 0 then _ else _) _ _ _
  rw [if_neg (by omega)]
  show wpAny _ _ (if n ≥ 2 ^ 63 then _ else _) _ _ _
  rw [if_neg (by omega)]
  exact wpAny_bind (wpAny_mkInt (wpAny_pure ⟨_, rfl, hq⟩))
end
section
variable {X : Cx}
def countT (bs : List Bool) : Int := (bs.map fun b => if b = true then (1 : Int) else 0).sum
theorem preSum_list (vs : List Int) : ∀ n, n ≤ vs.length → preSum (fun i => vs.getD i 0) n = (vs.take n).sum
  | 0, _ => by rw [List.take_zero]; rfl
  | n + 1, h => by
    have e : preSum (fun i => vs.getD i 0) (n + 1) = preSum (fun i => vs.getD i 0) n + vs.getD n 0 := rfl
    rw [e, preSum_list vs n (by omega), List.take_add_one, List.sum_append]
    have hn : n < vs.length := by omega
    simp [List.getD_eq_getElem?_getD, hn]
/-- sum(xs) of truths -/
def rSumB (K : PySem.W.Frag) : List V → Hp → VK → Prop := fun vs H Q => ∃ (a : Addr) (bs : List Bool), vs = [V.ref a] ∧ SqL K H a (bs.map V.bl) ∧ bs.length ≤ 1000000 ∧ Q (.int (countT bs)) H
theorem vals_bl : ∀ {bs : List Bool} {us : List Value}, Vals (bs.map V.bl) us → us = bs.map Value.bool
  | [], _, h => by cases h; rfl
  | b :: bs, _, h => by
    cases h with
    | cons r t =>
      cases (show _ = Value.bool b from r)
      rw [vals_bl t]
      rfl
theorem cr_sumB (hc : X.calm = true) : CallR X (.builtin "sum") (rSumB X.K) := by
  intro pins s σ H vs us Q I r h
  obtain ⟨a, bs, rfl, hs, hz, q⟩ := h
  obtain ⟨its, rv, hl, _⟩ := I.list hs
  rw [Vals.ref1 r]
  have hb := vals_bl rv
  have hlt : a < s.heap.objs.size := by obtain ⟨_, e, _⟩ := hl.isList; exact Heap.lt_size e
  refine call_sum_truths (wpAny_pyIter_list hl.isList ?_)
  refine ⟨_, _, _, _, _, _, fun i => (bs.map fun b => if b = true then (1 : Int) else 0).getD i 0, rfl, Walks.list (A := X.A.in1) (I.ok.hd hc) _ a (Nat.ne_of_lt hlt) its.toArray, ⟨⟨_, Heap.get?_push_size _ rfl, rfl, rfl⟩, hl.isList.push _⟩, fun b hb' => ?_, ?_, fun i v hv => ?_, fun i => ?_, fun h' tk t' hk => ?_⟩
  · rw [Heap.size_push]
    rcases List.mem_cons.mp hb' with rfl | hb'
    · exact Nat.lt_succ_self _
    · rcases List.mem_cons.mp hb' with rfl | hb'
      · exact Nat.lt_succ_of_lt hlt
      · cases hb'
  · rw [hb]; simpa using hz
  · have hv' : its[i]? = some v := by simpa using hv
    rw [hb, List.getElem?_map] at hv'
    obtain ⟨b, h1, rfl⟩ := Option.map_eq_some_iff.mp hv'
    exact ⟨b, rfl, by simp [List.getD_eq_getElem?_getD, h1]⟩
  · show 0 ≤ (bs.map fun b => if b = true then (1 : Int) else 0).getD i 0 ∧ (bs.map fun b => if b = true then (1 : Int) else 0).getD i 0 ≤ 1
    rw [List.getD_eq_getElem?_getD, List.getElem?_map]
    cases bs[i]? with
    | none => exact ⟨by decide, by decide⟩
    | some b => cases b <;> exact ⟨by decide, by decide⟩
  · have e : preSum (fun i => (bs.map fun b => if b = true then (1 : Int) else 0).getD i 0) its.toArray.size = countT bs := by
      have hsz : its.toArray.size = (bs.map fun b => if b = true then (1 : Int) else 0).length := by rw [hb]; simp
      rw [hsz, preSum_list _ _ (Nat.le_refl _), List.take_length]
      rfl
    rw [e]
    refine ⟨.int _, H, I.kept fun b o eo => hk b o (fun hmem => ?_) (Heap.get?_push_of_some _ eo), ⟨_, rfl⟩, q⟩
    rcases List.mem_cons.mp hmem with e1 | hmem
    · exact absurd (e1 ▸ Heap.lt_size eo) (Nat.lt_irrefl _)
    · cases hmem
theorem call_lenOwn {CX : CXT} {n : Nat} {C g : Addr} {sp : Sp} {E : XK} (hs : PySem.W.findIn X.K (.ref C) "__len__" = some (some (.ref g))) (hf : PySem.W.isFn X.K (.ref g) = true) (F : FnR X.prog X.w X.K X.mg X.base CX n g sp) (hr : Room (n + 1) X.A) (hx : Passes CX X E) : CallR X (.builtin "len") (rLenOwn C sp E) := by
  intro pins s σ H xs us Q I r h
  obtain ⟨a, dx, vs, rfl, hsl, q⟩ := h
  obtain ⟨u, rfl, ru⟩ := r.one
  cases (show u = Value.ref a from ru)
  obtain ⟨sl, od, _, J, _⟩ := SlX.slt_inst I hsl
  refine len_own1 I.kIn J hs hf (wpAny_mono (wpAny_call (SlX.run_at (us := [.ref a]) (ws := [.ref a]) F (Room.in1 hr) I.env0.in1 hx I (.cons rfl .nil) q)) (fun w s' z => ?_) fun _ _ x => x)
  obtain ⟨z', H', I', rz, i, ei, h0, h1, qz⟩ := z
  subst ei
  obtain ⟨t, e⟩ := (show ∃ t, w = Value.int i t from rz)
  cases e
  exact ⟨⟨h0, h1⟩, .int i, H', I'.tok _, ⟨_, rfl⟩, qz⟩
end
end MN
/-! moves of states: dicts from signs to numbers of states, in a list; useful states -/
namespace MN
open PySem PySem.Spec PyProof.Rows L2
abbrev Mv : Type := List (Str × Nat)
def mvK (m : Mv) : List (Key × V) := m.map fun q => (.inr q.1, .int (q.2 : Int))
def DctsAt (H : Hp) (ds : List Addr) (ms : List Mv) : Prop := ds.length = ms.length ∧ ∀ (i : Nat) d m, ds[i]? = some d → ms[i]? = some m → H d = some (.dK (mvK m))
def MovesAt (K : PySem.W.Frag) (H : Hp) (M : Addr) (ds : List Addr) (ms : List Mv) : Prop := SqL K H M (ds.map V.ref) ∧ DctsAt H ds ms
theorem DctsAt.same {H H' : Hp} {ds : List Addr} {ms : List Mv} (h : DctsAt H ds ms) (e : Same H H') : DctsAt H' ds ms := ⟨h.1, fun i d m h1 h2 => e _ _ (h.2 i d m h1 h2)⟩
theorem MovesAt.same {K : PySem.W.Frag} {H H' : Hp} {M : Addr} {ds : List Addr} {ms : List Mv} (h : MovesAt K H M ds ms) (e : Same H H') : MovesAt K H' M ds ms := ⟨Same.seq e h.1, h.2.same e⟩
/-! ### plain: one round, rounds -/
def stepU (ms : List Mv) (fs : List Bool) : List Bool := (fs.zip ms).map fun p => p.1 || p.2.any fun q => fs.getD q.2 false
def stepN (ms : List Mv) : Nat → List Bool → List Bool
  | 0, fs => fs
  | n + 1, fs => stepU ms (stepN ms n fs)
theorem stepU_length {ms : List Mv} {fs : List Bool} (h : fs.length = ms.length) : (stepU ms fs).length = fs.length := by
  simp [stepU, h]
theorem stepN_length {ms : List Mv} {fs : List Bool} (h : fs.length = ms.length) : ∀ n, (stepN ms n fs).length = fs.length
  | 0 => rfl
  | n + 1 => by rw [stepN, stepU_length ((stepN_length h n).trans h), stepN_length h n]
/-- no truth lost -/
def leB (fs gs : List Bool) : Prop := ∀ i : Nat, fs[i]? = some true → gs[i]? = some true
theorem stepU_le {ms : List Mv} {fs : List Bool} (h : fs.length = ms.length) : leB fs (stepU ms fs) := fun i hi => by
  have hi' : i < fs.length := (List.getElem?_eq_some_iff.mp hi).1
  have hm : i < ms.length := by omega
  have e : (fs.zip ms)[i]? = some (true, ms[i]) := by
    rw [List.getElem?_zip_eq_some]
    exact ⟨hi, List.getElem?_eq_getElem hm⟩
  simp [stepU, e]
theorem countT_cons (b : Bool) (bs : List Bool) : countT (b :: bs) = (if b = true then 1 else 0) + countT bs := by
  simp [countT]
theorem countT_nonneg : ∀ bs : List Bool, 0 ≤ countT bs ∧ countT bs ≤ bs.length
  | [] => ⟨Int.le_refl _, Int.le_refl _⟩
  | b :: bs => by
    have := countT_nonneg bs
    rw [countT_cons, List.length_cons]
    cases b <;> simp <;> omega
theorem leB_count : ∀ {fs gs : List Bool}, fs.length = gs.length → leB fs gs → countT fs ≤ countT gs ∧ (countT gs ≤ countT fs → fs = gs)
  | [], [], _, _ => ⟨Int.le_refl _, fun _ => rfl⟩
  | [], _ :: _, h, _ => by cases h
  | _ :: _, [], h, _ => by cases h
  | f :: fs, g :: gs, h, hl => by
    have ih := leB_count (fs := fs) (gs := gs) (by simpa using h) fun i hi => by simpa using hl (i + 1) (by simpa using hi)
    have h0 : f = true → g = true := fun hf => by simpa using hl 0 (by simp [hf])
    rw [countT_cons, countT_cons]
    cases f with
    | false =>
      cases g with
      | false => refine ⟨by simp; omega, fun h => ?_⟩; rw [ih.2 (by simpa using h)]
      | true => refine ⟨by simp; omega, fun h => ?_⟩; simp at h; omega
    | true =>
      have hg := h0 rfl
      subst hg
      refine ⟨by simp; omega, fun h => ?_⟩
      rw [ih.2 (by simp at h; omega)]
def atB (fs : List Bool) : V → V
  | .int t => .bl (fs.getD t.toNat false)
  | _ => .bl false
theorem countT_zero : ∀ {bs : List Bool}, countT bs ≤ 0 → ∀ b ∈ bs, b = false
  | [], _, b, hb => nomatch hb
  | c :: bs, h, b, hb => by
    rw [countT_cons] at h
    have := countT_nonneg bs
    cases c with
    | true => simp at h; omega
    | false =>
      rcases List.mem_cons.mp hb with rfl | hb
      · rfl
      · exact countT_zero (by simpa using h) b hb
theorem getD_false {fs : List Bool} (h : ∀ b ∈ fs, b = false) (i : Nat) : fs.getD i false = false := by
  rw [List.getD_eq_getElem?_getD]
  cases e : fs[i]? with
  | none => rfl
  | some b => rw [h b (List.mem_of_getElem? e)]; rfl
theorem stepU_none {ms : List Mv} {fs : List Bool} (hl : fs.length = ms.length) (h : ∀ b ∈ fs, b = false) : stepU ms fs = fs := by
  apply List.ext_getElem (stepU_length hl)
  intro i h1 h2
  have e : fs[i] = false := h _ (List.getElem_mem h2)
  simp [stepU, e]
  intro a b _
  rw [← List.getD_eq_getElem?_getD]
  exact getD_false h b
section
variable {j : Nat} {tt : TT} {te : TE} {vs : List Nat} {σ : L2.St} {H1 : Hp} {D d : Addr} {o : Obj} {Qd : Hp → Prop}
theorem lc_vals {kvs : List (Key × V)} (hs : H1 d = some (.frz o (.dK kvs))) (hD : H1 D = none) (hz : kvs.length ≤ 1000000) (f : V → Bool) (v : V → V) (hw : ∀ x ∈ kvs.map (·.2), wipe ((wipe σ vs).set j (some x)) vs = wipe σ vs)
    (ht : ∀ x ∈ kvs.map (·.2), ∀ (acc : List V) (Q : Bool → Hp → Prop), Q (f x) (upd H1 D (.lst acc)) → tt ((wipe σ vs).set j (some x)) (upd H1 D (.lst acc)) Q)
    (he : ∀ x ∈ kvs.map (·.2), f x = true → ∀ (acc : List V) (Q : VK), Q (v x) (upd H1 D (.lst acc)) → te ((wipe σ vs).set j (some x)) (upd H1 D (.lst acc)) Q)
    (hd : Qd (upd H1 D (.lst (((kvs.map (·.2)).filter f).map v)))) : LcGoal (Itd d o kvs) (gName j) tt te vs σ H1 D Qd := by
  refine lc_pure walk_values (kvs.map (·.2)) (by simp) hz (fun i H x H' hi y => ?_) f v (fun _ => by rw [upd_ne (ne_of_none hs hD)]; exact hs) hw ht he hd
  obtain ⟨e, k, h1⟩ := y
  exact ⟨e, by simp [h1]⟩
theorem lc_valsL {kvs : List (Key × V)} (h : H1 d = some (.dK kvs)) (hD : (upd H1 d (.frz o (.dK kvs))) D = none) (hz : kvs.length ≤ 1000000) (f : V → Bool) (v : V → V) (hw : ∀ x ∈ kvs.map (·.2), wipe ((wipe σ vs).set j (some x)) vs = wipe σ vs)
    (ht : ∀ x ∈ kvs.map (·.2), ∀ H2, H2 d = some (.frz o (.dK kvs)) → (∀ b o, b ≠ d → H1 b = some o → H2 b = some o) → ∀ (Q : Bool → Hp → Prop), Q (f x) H2 → tt ((wipe σ vs).set j (some x)) H2 Q)
    (he : ∀ x ∈ kvs.map (·.2), f x = true → ∀ H2, H2 d = some (.frz o (.dK kvs)) → (∀ b o, b ≠ d → H1 b = some o → H2 b = some o) → ∀ (Q : VK), Q (v x) H2 → te ((wipe σ vs).set j (some x)) H2 Q)
    (hd : ∀ H', H' d = some (.frz o (.dK kvs)) → Same H1 (upd H' d (.dK kvs)) → upd H' d (.dK kvs) D = some (.lst (((kvs.map (·.2)).filter f).map v)) → Qd H') :
    LcGoal (Itd d o kvs) (gName j) tt te vs σ (upd H1 d (.frz o (.dK kvs))) D Qd := by
  have n : D ≠ d := fun z => by rw [z, upd_same] at hD; cases hD
  have k1 : ∀ acc, upd (upd H1 d (.frz o (.dK kvs))) D (.lst acc) d = some (.frz o (.dK kvs)) := fun acc => by rw [upd_ne n.symm, upd_same]
  have k2 : ∀ acc b o', b ≠ d → H1 b = some o' → upd (upd H1 d (.frz o (.dK kvs))) D (.lst acc) b = some o' := fun acc b o' nb e => by
    have n2 : b ≠ D := fun q => by rw [upd_ne n] at hD; rw [q, hD] at e; cases e
    rw [upd_ne n2, upd_ne nb]; exact e
  refine lc_vals upd_same hD hz f v hw (fun x hx acc Q q => ht x hx _ (k1 _) (k2 _) Q q) (fun x hx hf acc Q q => he x hx hf _ (k1 _) (k2 _) Q q) ?_
  obtain ⟨s, sD, _⟩ := same_lock (x := .lst (((kvs.map (·.2)).filter f).map v)) h hD
  exact hd _ (k1 _) s sD
end
theorem anyK {X : Cx} {K : PySem.W.Frag} (hK : X.K = K) (hc : X.calm = true) : CallR X (.builtin "any") (rAny K) := hK ▸ cr_any hc
section
variable {P : Program} {w : World} {K : PySem.W.Frag} {mg : Str → Option Value} {base : Heap}
def spUseful (K : PySem.W.Frag) : Sp := fun vs H Q _ => ∃ M L ds ms ls, vs = [.ref M, .ref L] ∧ MovesAt K H M ds ms ∧ SqL K H L (ls.map V.bl) ∧ ls.length = ms.length ∧ ls.length ≤ 1000 ∧ (∀ m ∈ ms, m.length ≤ 1000 ∧ ∀ q ∈ m, q.2 < ms.length) ∧
  ∀ p k H', H p = none → Same H H' → stepU ms (stepN ms k ls) = stepN ms k ls → H' p = some (.lst ((stepN ms k ls).map V.bl)) → Q (.ref p) H'
abbrev N_useful_states : List Str := ["moves", "lasts", "found", "many", "to", "last", "row"]
theorem sc_useful_states : FnScope N_useful_states ["moves", "lasts"] (defScope (top 31)) := ⟨rfl, rfl, rfl, by decide +kernel, rfl, by decide +kernel, by decide +kernel⟩
abbrev scU : Scope := { kind := .function, names := [(".0", .local), ("last", .local), ("row", .local), ("any", .globalImplicit), ("found", .cell)], isGenerator := false, isCoroutine := false }
theorem c_useful_states (A : At K mg "useful_states" (top 31)) (B : Blt mg) : Cal P w K mg base 1 "useful_states" (spUseful K) := by
  refine cal_of A sc_useful_states (fun _ _ _ _ _ _ us hl => match us, hl with | [_, _], _ => rfl) (fun vs H Q E h => ?_) (fun _ cdv A outer s H vs Q E hr h => ?_)
  · obtain ⟨_, _, _, _, _, rfl, _⟩ := h; rfl
  · obtain ⟨M, L, ds, ms, ls, rfl, hM, hL, hlen, hz, hms, hQ⟩ := h
    refine ⟨_, (pss_cons (ps_asg (pe_tup (pa_cons (pe_callTy call_list_of (by rfl) B.list (by decide +kernel) (pa_cons (pv 1) pa_nil)) (pa_cons pe_int pa_nil))) (pg_tup rfl (pgs_cons (pg_name (i := 2) sc_useful_states.nd rfl (Or.inr rfl)) (pgs_cons (pg_name (i := 3) sc_useful_states.nd rfl (Or.inl rfl)) pgs_nil))))
      (pss_cons (ps_while PassesOwn.never (pt_cmpR op_lt (pv 3) (pe_callB (cr_sumB rfl) (by rfl) B.sum (by decide +kernel) (pa_cons (pv 2) pa_nil)) (nomark _))
        (pss_cons (ps_set (i := 3) sc_useful_states.nd rfl (Or.inl rfl) (pe_callB (cr_sumB rfl) (by rfl) B.sum (by decide +kernel) (pa_cons (pv 2) pa_nil)))
        (pss_one (ps_set (i := 2) sc_useful_states.nd rfl (Or.inr rfl) (pe_lc (own := [("last", 5), ("row", 6)]) (tt := tYes) (by rfl) sc_useful_states.nd (pi_zip (by rfl) B.zip (pa_cons (pv 2) (pa_cons (pv 0) pa_nil))) (blkOk_by (own := [("last", 5), ("row", 6)]) (N := N_useful_states) (sc := defScope (top 31)) (by decide +kernel)) (fun _ _ _ _ _ => (pg_tupK (K := K) (n := 2) rfl rfl (pgs_cons (pg_name (i := 5) sc_useful_states.nd rfl (Or.inl rfl)) (pgs_cons (pg_name (i := 6) sc_useful_states.nd rfl (Or.inl rfl)) pgs_nil)))) (fun _ _ _ _ _ => pts_nil)
          (fun _ _ _ _ _ => (pe_or (pv 5) (pe_one (pe_callB (anyK (K := K) rfl rfl) (by rfl) B.any (by decide +kernel) (pa_cons (pe_lock (pe_lc (own := [("to", 4)]) (g := gName 4) (tt := tYes) (by rfl) sc_useful_states.nd (pi_values (pv 6)) (blkOk_by (own := [("to", 4)]) (N := N_useful_states) (sc := scU) (by decide +kernel)) (fun _ _ _ _ _ => (pg_name (i := 4) sc_useful_states.nd rfl (Or.inl rfl))) (fun _ _ _ _ _ => pts_nil) (fun _ _ _ _ _ => (pe_ix (ixLK (K := K) rfl) (pv 2) (pv 4) (fun _ _ => rfl))))) pa_nil))))))))))
      (pss_one (ps_ret (pv 2))))), ?_⟩
    have hz' : ∀ k, (stepN ms k ls).length = ls.length := stepN_length hlen
    have big : 100000 < sizeLine := by decide
    refine ⟨_, rfl, L, _, rfl, .inl hL, fun p0 hp0 => ⟨(show 2 ≤ sizeLine by decide), fun T0 hT0 => ?_⟩⟩
    have s0 := (same_new (o := .lst (ls.map V.bl)) hp0).trans (same_new (o := .tup [.ref p0, .int 0]) hT0)
    have u0 : upd (upd H p0 (.lst (ls.map V.bl))) T0 (.tup [.ref p0, .int 0]) p0 = some (.lst (ls.map V.bl)) := by rw [upd_ne (ne_of_none upd_same hT0), upd_same]
    refine ⟨T0, _, rfl, .inl (.inl upd_same), rfl, _, _, rfl, _, _, rfl, rfl, ?_⟩
    generalize upd (upd H p0 (.lst (ls.map V.bl))) T0 (.tup [.ref p0, .int 0]) = H0 at s0 u0 ⊢
    refine ⟨fun m σ H' => ∃ (k : Nat) (p : Addr) (many : Int) (o4 o5 o6 : Option V), σ = [some (.ref M), some (.ref L), some (.ref p), some (.int many), o4, o5, o6] ∧ m = ((ls.length : Int) - many).toNat ∧ Same H H' ∧ H p = none ∧ H' p = some (.lst ((stepN ms k ls).map V.bl)) ∧
      ((k = 0 ∧ many = 0) ∨ ∃ k', k = k' + 1 ∧ many = countT (stepN ms k' ls)), ⟨_, 0, p0, 0, _, _, _, rfl, rfl, s0, hp0, u0, .inl ⟨rfl, rfl⟩⟩, fun m σ H1 w => ?_⟩
    obtain ⟨k, p, many, o4, o5, o6, rfl, rfl, s1, hp, u1, hk⟩ := w
    have cn := countT_nonneg (stepN ms k ls)
    rw [hz'] at cn
    refine ⟨_, rfl, _, rfl, p, _, rfl, SqL.of u1, by rw [hz']; omega, _, _, rfl, rfl, _, rfl, ?_⟩
    have hmany : many ≤ ls.length := by
      rcases hk with ⟨_, rfl⟩ | ⟨k', _, rfl⟩
      · omega
      · have := countT_nonneg (stepN ms k' ls)
        rw [hz'] at this
        omega
    refine ite2 (fun hlt => ?_) (fun hlt => ?_)
    · have hlt : many < countT (stepN ms k ls) := of_decide_eq_true hlt
      generalize hfs : stepN ms k ls = fs at *
      have hfl : fs.length = ls.length := by rw [← hfs]; exact hz' k
      refine ⟨fun σ' H' => ∃ (p : Addr) (o4 o5 o6 : Option V), σ' = [some (.ref M), some (.ref L), some (.ref p), some (.int (countT fs)), o4, o5, o6] ∧ Same H H' ∧ H p = none ∧ H' p = some (.lst ((stepU ms fs).map V.bl)), fun σ' H' n => ?_, ?_⟩
      · obtain ⟨p', o4, o5, o6, rfl, s', hp', u'⟩ := n
        refine ⟨_, ?_, k + 1, p', countT fs, o4, o5, o6, rfl, rfl, s', hp', by rw [stepN, hfs]; exact u', .inr ⟨k, rfl, by rw [hfs]⟩⟩
        omega
      · refine ⟨_, rfl, p, fs, rfl, SqL.of u1, by omega, ?_⟩
        have hM1 := hM.same s1
        refine ⟨_, rfl, _, rfl, p, M, _, _, rfl, SqL.of u1, hM1.1, fun D hD => ?_⟩
        have hn : ms.length = min (fs.map V.bl).length (ds.map V.ref).length := by rw [List.length_map, List.length_map, hM.2.1]; omega
        refine lc_it (walk_zip hn) (fun i H' => Same H1 H' ∧ H' D = some (.lst (((stepU ms fs).take i).map V.bl))) ⟨same_new hD, by rw [List.take_zero]; exact upd_same⟩ (fun i H' _ e => ⟨Same.seq e.1 (SqL.of u1), Same.seq e.1 hM1.1⟩) (fun i x H2 H2' hi e y => ?_) (fun H2 e => ?_)
        · obtain ⟨T, x1, y1, rfl, hT, rfl, hx, hy⟩ := y
          simp only [List.getElem?_map] at hx hy
          obtain ⟨b, hb, rfl⟩ := Option.map_eq_some_iff.mp hx
          obtain ⟨d, hd, rfl⟩ := Option.map_eq_some_iff.mp hy
          have hmi : ms[i]? = some ms[i] := List.getElem?_eq_getElem hi
          have hmm := hms ms[i] (List.getElem_mem hi)
          have hdd : H2 d = some (.dK (mvK ms[i])) := e.1 _ _ (hM1.2.2 i d _ hd hmi)
          have nD : D ≠ T := ne_of_none e.2 hT
          have sT := same_new (o := .tup [.bl b, .ref d]) hT
          have step : (stepU ms fs)[i]? = some (b || (ms[i]).any fun q => fs.getD q.2 false) := by
            have ez : (fs.zip ms)[i]? = some (b, ms[i]) := by
              rw [List.getElem?_zip_eq_some]
              exact ⟨hb, hmi⟩
            simp [stepU, ez]
          have done : ∀ H', Same (upd H2 T (.tup [.bl b, .ref d])) H' → ∃ acc, H' D = some (.lst acc) ∧ acc.length < sizeLine ∧ Same H1 (upd H' D (.lst (acc ++ [.bl (b || (ms[i]).any fun q => fs.getD q.2 false)]))) ∧ upd H' D (.lst (acc ++ [.bl (b || (ms[i]).any fun q => fs.getD q.2 false)])) D = some (.lst (((stepU ms fs).take (i + 1)).map V.bl)) := fun H' s' => by
            refine ⟨_, s' _ _ (sT _ _ e.2), ?_, fun b' o' q => ?_, ?_⟩
            · rw [List.length_map]
              refine Nat.lt_of_le_of_lt (List.length_take_le _ _) ?_
              omega
            · rw [upd_ne (ne_of_none q hD)]
              exact s' _ _ (sT _ _ (e.1 _ _ q))
            · rw [upd_same, List.take_add_one, step]
              simp
          refine ⟨T, _, rfl, .inl (.inl upd_same), rfl, _, _, rfl, _, _, rfl, rfl, ?_⟩
          refine ⟨rfl, yes_q (iteT ⟨_, rfl, _, rfl, ?_⟩)⟩
          cases b with
          | true => exact iteT (done _ (Same.refl _))
          | false =>
            refine iteF ?_
            rw [Bool.false_or] at done
            have hdT := sT _ _ hdd
            have pT : SqL K (upd H2 T (.tup [.bl false, .ref d])) p (fs.map V.bl) := SqL.of (sT _ _ (e.1 _ _ u1))
            refine ⟨d, _, hdT, trivial, fun od => ⟨_, rfl, d, od, _, rfl, upd_same, fun D2 hD2 => ?_⟩⟩
            refine lc_valsL hdT hD2 (by simp [mvK]; omega) (fun _ => true) (atB fs) (fun x _ => rfl) (fun x _ H3 _ _ Q q => q) (fun x hx _ H3 f3 k3 Q q => ?_) (fun H3 f3 s3 h3 => ⟨f3, ?_⟩)
            · obtain ⟨kv, hkv, rfl⟩ := List.mem_map.mp hx
              obtain ⟨q0, hq0, rfl⟩ := List.mem_map.mp hkv
              have hlt' : q0.2 < fs.length := by have := hmm.2 q0 hq0; omega
              have np : p ≠ d := fun z => by
                have := sT _ _ (e.1 _ _ u1)
                rw [z, hdT] at this
                cases this
              refine ⟨_, rfl, _, rfl, p, _, _, .bl (fs.getD q0.2 false), rfl, rfl, SqL.of (k3 _ _ np (sT _ _ (e.1 _ _ u1))), atI_nat ?_, q⟩
              rw [List.getElem?_map, List.getElem?_eq_getElem hlt', List.getD_eq_getElem?_getD, List.getElem?_eq_getElem hlt']
              rfl
            · refine ⟨D2, (ms[i]).map (fun q => fs.getD q.2 false), rfl, .inl (.inl ?_), ?_⟩
              · rw [h3, filter_all]
                simp [mvK, atB, Function.comp_def]
              · rw [List.any_map]
                exact done _ s3
        · refine ⟨D, _, _, _, rfl, s1.trans e.1, s1.free hD, ?_⟩
          rw [e.2, List.take_of_length_le (by rw [stepU_length (by omega)]; omega)]
    · have hge : countT (stepN ms k ls) ≤ many := by
        have : ¬ many < countT (stepN ms k ls) := fun q => hlt (decide_eq_true q)
        omega
      refine ⟨_, rfl, hQ p k H1 hp s1 ?_ u1⟩
      rcases hk with ⟨rfl, rfl⟩ | ⟨k', rfl, rfl⟩
      · exact stepU_none hlen (countT_zero hge)
      · have le := leB_count (fs := stepN ms k' ls) (gs := stepN ms (k' + 1) ls) (by rw [hz', hz']) (stepU_le (by rw [hz']; exact hlen))
        have e := le.2 hge
        rw [← e]
        exact e.symm
end
end MN
/-! several things locked at once, however many -/
namespace MN
open PySem PySem.Spec PyProof.Rows L2
abbrev Lk : Type := Addr × HO × Obj
def lockS (t : TS) : Nat → TS
  | 0 => t
  | n + 1 => tLock (lockS t n)
theorem ps_lockS {X : Cx} {st : Stmt} {t : TS} (h : PS X st t) : ∀ n, PS X st (lockS t n)
  | 0 => h
  | n + 1 => ps_lock (ps_lockS h n)
/-- the reading says how many -/
def tLocks (t : TS) : TS := fun D σ H => ∃ n, lockS t n D σ H
theorem ps_locks {X : Cx} {st : Stmt} {t : TS} (h : PS X st t) : PS X st (tLocks t) := ⟨fun pins s σ H D I ⟨n, q⟩ => (ps_lockS h n).run pins s σ H D I q⟩
def lkD : List Lk → Ends → Ends
  | [], D => D
  | (d, u, o) :: r, D => lkD r ⟨fun σ' H' => H' d = some (.frz o u) ∧ D.nx σ' (upd H' d u), fun v H' => H' d = some (.frz o u) ∧ D.rt v (upd H' d u), fun σ' H' => H' d = some (.frz o u) ∧ D.bk σ' (upd H' d u), fun σ' H' => H' d = some (.frz o u) ∧ D.ct σ' (upd H' d u)⟩
def fzH : List Lk → Hp → Hp
  | [], H => H
  | (d, u, o) :: r, H => fzH r (upd H d (.frz o u))
def thaw : List Lk → Hp → Hp
  | [], H => H
  | (d, u, _) :: r, H => upd (thaw r H) d u
theorem lockS_of {t : TS} {σ : L2.St} : ∀ (l : List (Addr × HO)) (D : Ends) (H : Hp), (∀ p ∈ l, H p.1 = some p.2 ∧ Mut (some p.2)) → (l.map (·.1)).Nodup →
    (∀ ks : List Lk, ks.map (fun k => (k.1, k.2.1)) = l → t (lkD ks D) σ (fzH ks H)) → lockS t l.length D σ H
  | [], D, H, _, _, h => h [] rfl
  | p0 :: r, D, H, h1, hn, h => by
    have hn' := List.nodup_cons.mp hn
    have q0 := h1 p0 List.mem_cons_self
    show tLock (lockS t r.length) D σ H
    refine ⟨p0.1, p0.2, q0.1, q0.2, fun od => ?_⟩
    have h1' : ∀ p ∈ r, (upd H p0.1 (.frz od p0.2)) p.1 = some p.2 ∧ Mut (some p.2) := fun p hp => by
      have q := h1 p (List.mem_cons_of_mem _ hp)
      have ne : p.1 ≠ p0.1 := fun z => hn'.1 (List.mem_map.mpr ⟨p, hp, z⟩)
      rw [upd_ne ne]
      exact q
    exact lockS_of r _ (upd H p0.1 (.frz od p0.2)) h1' hn'.2 fun ks hks => h ((p0.1, p0.2, od) :: ks) (by rw [List.map_cons, hks])
theorem fzH_off {b : Addr} : ∀ (ks : List Lk) (H : Hp), b ∉ ks.map (·.1) → fzH ks H b = H b
  | [], _, _ => rfl
  | (d, u, o) :: r, H, h => by
    show fzH r (upd H d (.frz o u)) b = H b
    have h' : b ≠ d ∧ b ∉ r.map (·.1) := by simpa using h
    rw [fzH_off r _ h'.2, upd_ne h'.1]
theorem fzH_at : ∀ (ks : List Lk) (H : Hp), (ks.map (·.1)).Nodup → ∀ k ∈ ks, fzH ks H k.1 = some (.frz k.2.2 k.2.1)
  | [], _, _, _, hk => nomatch hk
  | (d, u, o) :: r, H, hn, k, hk => by
    have hn' := List.nodup_cons.mp hn
    show fzH r (upd H d (.frz o u)) k.1 = _
    rcases List.mem_cons.mp hk with rfl | hk
    · rw [fzH_off r _ hn'.1, upd_same]
    · exact fzH_at r _ hn'.2 k hk
theorem thaw_off {b : Addr} : ∀ (ks : List Lk) (H : Hp), b ∉ ks.map (·.1) → thaw ks H b = H b
  | [], _, _ => rfl
  | (d, u, o) :: r, H, h => by
    have h' : b ≠ d ∧ b ∉ r.map (·.1) := by simpa using h
    show upd (thaw r H) d u b = H b
    rw [upd_ne h'.1, thaw_off r H h'.2]
theorem thaw_at : ∀ (ks : List Lk) (H : Hp), (ks.map (·.1)).Nodup → ∀ k ∈ ks, thaw ks H k.1 = some k.2.1
  | [], _, _, _, hk => nomatch hk
  | (d, u, o) :: r, H, hn, k, hk => by
    have hn' := List.nodup_cons.mp hn
    show upd (thaw r H) d u k.1 = _
    rcases List.mem_cons.mp hk with rfl | hk
    · rw [upd_same]
    · have : k.1 ≠ d := fun z => hn'.1 (List.mem_map.mpr ⟨k, hk, z⟩)
      rw [upd_ne this]
      exact thaw_at r H hn'.2 k hk
theorem lkD_nx : ∀ (ks : List Lk) (D : Ends) (σ : L2.St) (H : Hp), (ks.map (·.1)).Nodup → (∀ k ∈ ks, H k.1 = some (.frz k.2.2 k.2.1)) → D.nx σ (thaw ks H) → (lkD ks D).nx σ H
  | [], _, _, _, _, _, q => q
  | (d, u, o) :: r, D, σ, H, hn, h, q => by
    have hn' := List.nodup_cons.mp hn
    refine lkD_nx r _ σ H hn'.2 (fun k hk => h k (List.mem_cons_of_mem _ hk)) ⟨?_, q⟩
    rw [thaw_off r H hn'.1]
    exact h _ List.mem_cons_self
/-- what was there stays, what is new stays -/
theorem thaw_same {H Hf H' : Hp} {ks : List Lk} (hn : (ks.map (·.1)).Nodup) (h0 : ∀ k ∈ ks, H k.1 = some k.2.1) (hf : Hf = fzH ks H) (e : Same Hf H') : Same H (thaw ks H') ∧ ∀ k ∈ ks, H' k.1 = some (.frz k.2.2 k.2.1) := by
  subst hf
  have at_ : ∀ k ∈ ks, H' k.1 = some (.frz k.2.2 k.2.1) := fun k hk => e _ _ (fzH_at ks H hn k hk)
  refine ⟨fun b o q => ?_, at_⟩
  by_cases hb : b ∈ ks.map (·.1)
  · obtain ⟨k, hk, rfl⟩ := List.mem_map.mp hb
    rw [thaw_at ks H' hn k hk]
    rw [h0 k hk] at q
    exact q
  · rw [thaw_off ks H' hb]
    exact e _ _ (by rw [fzH_off ks H hb]; exact q)
end MN
/-! comprehensions with two for-clauses: the outer walk, the inner walk -/
namespace MN
open PySem PySem.Spec PyProof.Rows L2
section
variable {vs vs1 : List Nat} {σ σ2 : L2.St} {H1 : Hp} {D : Addr} {Qd : Hp → Prop} {g g1 : TG} {tt tt1 : TT} {te : TE} {wi1 : TI}
theorem lc2_out {J : It} {n : Nat} {G : Hp → Prop} {Y : Nat → Hp → V → Hp → Prop} (w : Walk J n G Y) (Pv : Nat → Hp → Prop) (h0 : Pv 0 (upd H1 D (.lst []))) (hG : ∀ i H, i ≤ n → Pv i H → G H)
    (hs : ∀ i x H H', i < n → Pv i H → Y i H x H' → g x (wipe σ vs) H' fun σ2 H2 => wipe σ2 vs = wipe σ vs ∧ tt σ2 H2 fun b H3 =>
      if b = true then wi1 σ2 H3 fun J1 H4 => ∃ W1 : Nat → Nat → Hp → Prop, (∃ m, W1 0 m H4) ∧ ∀ j k H, W1 j k H →
        (J1.stop j H ∧ Pv (i + 1) H) ∨ (J1.go j H ∧ ∃ Nx1 : Hp → Prop, (∀ H', Nx1 H' → ∃ k', k' < k ∧ W1 (j + 1) k' H') ∧ ∀ x H', J1.yld j H x H' → g1 x (wipe σ2 vs1) H' fun σ3 H5 => wipe σ3 vs1 = wipe σ2 vs1 ∧ tt1 σ3 H5 fun b H6 =>
          if b = true then te σ3 H6 fun y H7 => ∃ acc, H7 D = some (.lst acc) ∧ acc.length < sizeLine ∧ Nx1 (upd H7 D (.lst (acc ++ [y]))) else Nx1 H6)
      else Pv (i + 1) H3) (hd : ∀ H, Pv n H → Qd H) :
    ∃ W : Nat → Nat → Hp → Prop, (∃ m, W 0 m (upd H1 D (.lst []))) ∧ ∀ i m H, W i m H →
      (J.stop i H ∧ Qd H) ∨ (J.go i H ∧ ∃ Nx : Hp → Prop, (∀ H', Nx H' → ∃ m', m' < m ∧ W (i + 1) m' H') ∧ ∀ x H', J.yld i H x H' → g x (wipe σ vs) H' fun σ2 H2 => wipe σ2 vs = wipe σ vs ∧ tt σ2 H2 fun b H3 =>
        if b = true then wi1 σ2 H3 fun J1 H4 => ∃ W1 : Nat → Nat → Hp → Prop, (∃ m, W1 0 m H4) ∧ ∀ j k H, W1 j k H →
          (J1.stop j H ∧ Nx H) ∨ (J1.go j H ∧ ∃ Nx1 : Hp → Prop, (∀ H', Nx1 H' → ∃ k', k' < k ∧ W1 (j + 1) k' H') ∧ ∀ x H', J1.yld j H x H' → g1 x (wipe σ2 vs1) H' fun σ3 H5 => wipe σ3 vs1 = wipe σ2 vs1 ∧ tt1 σ3 H5 fun b H6 =>
            if b = true then te σ3 H6 fun y H7 => ∃ acc, H7 D = some (.lst acc) ∧ acc.length < sizeLine ∧ Nx1 (upd H7 D (.lst (acc ++ [y]))) else Nx1 H6)
        else Nx H3) := by
  refine ⟨fun i m H => m = n - i ∧ i ≤ n ∧ Pv i H, ⟨n, by simp, Nat.zero_le _, h0⟩, ?_⟩
  rintro i m H ⟨rfl, hi, p⟩
  have q := hG i H hi p
  by_cases hlt : i < n
  · exact .inr ⟨w.goes i H hlt q, Pv (i + 1), fun H' p' => ⟨n - (i + 1), by omega, rfl, hlt, p'⟩, fun x H' y => hs i x H H' hlt p (w.yields i H x H' hlt q y)⟩
  · obtain rfl : i = n := by omega
    exact .inl ⟨w.stops H q, hd H p⟩
theorem lc2_in {J1 : It} {n : Nat} {G : Hp → Prop} {Y : Nat → Hp → V → Hp → Prop} {H4 : Hp} {R : Hp → Prop} (w : Walk J1 n G Y) (Pv : Nat → Hp → Prop) (h0 : Pv 0 H4) (hG : ∀ i H, i ≤ n → Pv i H → G H)
    (hs : ∀ j x H H', j < n → Pv j H → Y j H x H' → g1 x (wipe σ2 vs1) H' fun σ3 H5 => wipe σ3 vs1 = wipe σ2 vs1 ∧ tt1 σ3 H5 fun b H6 =>
      if b = true then te σ3 H6 fun y H7 => ∃ acc, H7 D = some (.lst acc) ∧ acc.length < sizeLine ∧ Pv (j + 1) (upd H7 D (.lst (acc ++ [y]))) else Pv (j + 1) H6) (hd : ∀ H, Pv n H → R H) :
    ∃ W1 : Nat → Nat → Hp → Prop, (∃ m, W1 0 m H4) ∧ ∀ j k H, W1 j k H →
      (J1.stop j H ∧ R H) ∨ (J1.go j H ∧ ∃ Nx1 : Hp → Prop, (∀ H', Nx1 H' → ∃ k', k' < k ∧ W1 (j + 1) k' H') ∧ ∀ x H', J1.yld j H x H' → g1 x (wipe σ2 vs1) H' fun σ3 H5 => wipe σ3 vs1 = wipe σ2 vs1 ∧ tt1 σ3 H5 fun b H6 =>
        if b = true then te σ3 H6 fun y H7 => ∃ acc, H7 D = some (.lst acc) ∧ acc.length < sizeLine ∧ Nx1 (upd H7 D (.lst (acc ++ [y]))) else Nx1 H6) := by
  refine ⟨fun i m H => m = n - i ∧ i ≤ n ∧ Pv i H, ⟨n, by simp, Nat.zero_le _, h0⟩, ?_⟩
  rintro i m H ⟨rfl, hi, p⟩
  have q := hG i H hi p
  by_cases hlt : i < n
  · exact .inr ⟨w.goes i H hlt q, Pv (i + 1), fun H' p' => ⟨n - (i + 1), by omega, rfl, hlt, p'⟩, fun x H' y => hs i x H H' hlt p (w.yields i H x H' hlt q y)⟩
  · obtain rfl : i = n := by omega
    exact .inl ⟨w.stops H q, hd H p⟩
end
end MN
/-! all words in order: plain -/
namespace MN
open PySem
def e0 : Str := Str.ofString ""
def kids (zs : List Str) (w : Str) : List Str := zs.map fun z => w ++ z
def lvl (zs : List Str) : Nat → List Str
  | 0 => [e0]
  | n + 1 => (lvl zs n).flatMap (kids zs)
def allW (zs : List Str) : Nat → List Str
  | 0 => [e0]
  | n + 1 => allW zs n ++ lvl zs (n + 1)
def tot (m : Nat) : Nat → Nat
  | 0 => 1
  | n + 1 => tot m n + m ^ (n + 1)
theorem allW_succ (zs : List Str) (n : Nat) : allW zs (n + 1) = e0 :: (allW zs n).flatMap (kids zs) := by
  induction n with
  | zero => rfl
  | succ n ih =>
    show allW zs (n + 1) ++ lvl zs (n + 2) = _
    rw [show lvl zs (n + 2) = (lvl zs (n + 1)).flatMap (kids zs) from rfl]
    conv => lhs; rw [ih]
    rw [List.cons_append, ← List.flatMap_append]
    rfl
theorem lvl_length (zs : List Str) (n : Nat) : (lvl zs n).length = zs.length ^ n := by
  induction n with
  | zero => rfl
  | succ n ih =>
    show ((lvl zs n).flatMap (kids zs)).length = _
    rw [List.length_flatMap]
    have : ((lvl zs n).map fun a => (kids zs a).length) = (lvl zs n).map fun _ => zs.length := by
      apply List.map_congr_left
      intro a _
      simp [kids]
    have s : ∀ l : List Str, (l.map fun _ => zs.length).sum = l.length * zs.length := by
      intro l
      induction l with
      | nil => simp
      | cons a l ih2 => rw [List.map_cons, List.sum_cons, ih2, List.length_cons, Nat.succ_mul]; omega
    rw [this, s, ih, Nat.pow_succ]
theorem allW_length (zs : List Str) (n : Nat) : (allW zs n).length = tot zs.length n := by
  induction n with
  | zero => rfl
  | succ n ih =>
    show (allW zs n ++ lvl zs (n + 1)).length = tot zs.length n + zs.length ^ (n + 1)
    rw [List.length_append, ih, lvl_length]
theorem flat_get {α β : Type} (f : α → Str → β) (zs : List Str) (hm : 0 < zs.length) : ∀ (l : List α) (i : Nat), (l.flatMap fun w => zs.map (f w))[i]? = (l[i / zs.length]?).bind fun w => (zs[i % zs.length]?).map (f w) := by
  intro l
  induction l with
  | nil => intro i; simp
  | cons a l ih =>
    intro i
    rw [List.flatMap_cons]
    by_cases h : i < zs.length
    · rw [List.getElem?_append_left (by simpa using h), Nat.div_eq_of_lt h, Nat.mod_eq_of_lt h]
      simp
    · have h' : zs.length ≤ i := Nat.le_of_not_lt h
      rw [List.getElem?_append_right (by simpa using h'), List.length_map, ih]
      have e1 : i / zs.length = (i - zs.length) / zs.length + 1 := by
        rw [Nat.div_eq i zs.length, if_pos ⟨hm, h'⟩]
      have e2 : (i - zs.length) % zs.length = i % zs.length := (Nat.mod_eq_sub_mod h').symm
      rw [e1, e2, List.getElem?_cons_succ]
theorem allW_next {zs : List Str} (hm : 0 < zs.length) {n i : Nat} : (allW zs (n + 1))[i + 1]? = ((allW zs n)[i / zs.length]?).bind fun w => (zs[i % zs.length]?).map fun z => w ++ z := by
  rw [allW_succ, List.getElem?_cons_succ]
  exact flat_get (fun w z => w ++ z) zs hm _ _
theorem allW_zero (zs : List Str) (n : Nat) : (allW zs n)[0]? = some e0 := by
  cases n with
  | zero => rfl
  | succ n => rw [allW_succ]; rfl
/-- the law's own number: k rounds -/
def numW (zs : List Str) : Nat → Nat → Str → Str
  | 0, _, acc => acc
  | k + 1, i, acc => if 0 < i then numW zs k ((i - 1) / zs.length) ((zs[(i - 1) % zs.length]?).getD e0 ++ acc) else numW zs k i acc
theorem numW_zero (zs : List Str) (k : Nat) (acc : Str) : numW zs k 0 acc = acc := by
  induction k with
  | zero => rfl
  | succ k ih => show (if 0 < 0 then _ else _) = _; rw [if_neg (Nat.lt_irrefl 0)]; exact ih
theorem numW_ok {zs : List Str} (hm : 0 < zs.length) : ∀ (n k i : Nat) (w acc : Str), n ≤ k → (allW zs n)[i]? = some w → numW zs k i acc = w ++ acc := by
  intro n
  induction n with
  | zero =>
    intro k i w acc _ h
    match i, h with
    | 0, h =>
      have : w = e0 := (Option.some.inj h).symm
      rw [numW_zero, this]
      exact (Str.empty_append acc).symm
  | succ n ih =>
    intro k i w acc hk h
    match k, hk with
    | k + 1, hk =>
      match i, h with
      | 0, h =>
        rw [allW_zero] at h
        have : w = e0 := (Option.some.inj h).symm
        rw [numW_zero, this]
        exact (Str.empty_append acc).symm
      | i + 1, h =>
        rw [allW_next hm] at h
        obtain ⟨v, h1, h2⟩ := Option.bind_eq_some_iff.mp h
        obtain ⟨z, h3, h4⟩ := Option.map_eq_some_iff.mp h2
        show (if 0 < i + 1 then numW zs k ((i + 1 - 1) / zs.length) ((zs[(i + 1 - 1) % zs.length]?).getD e0 ++ acc) else _) = _
        rw [if_pos (Nat.succ_pos i), Nat.add_sub_cancel, h3, ih k _ v _ (by omega) h1, ← h4]
        exact (Str.append_assoc v z acc).symm
theorem allW_take (zs : List Str) (n : Nat) : (allW zs (n + 1)).take (tot zs.length n) = allW zs n := by
  show (allW zs n ++ lvl zs (n + 1)).take _ = _
  rw [← allW_length zs n]
  exact List.take_left' rfl
/-- ascending signs -/
structure SgnOk (zs : List Str) : Prop where
  asc : zs.Pairwise fun a b => a.cps.toList < b.cps.toList
  one : ∀ z ∈ zs, ∃ c ∈ ("abcde" : Str).cps.toList, z = ⟨#[c]⟩
  pos : 0 < zs.length
  le : zs.length ≤ 5
theorem cpsL_append (a b : Str) : (a ++ b).cps.toList = a.cps.toList ++ b.cps.toList := by
  show (a.cps ++ b.cps).toList = _
  simp
theorem strLen_app (a b : Str) : (a ++ b).length = a.length + b.length := Str.length_append a b
theorem lex_same (a : List Nat) {s t : List Nat} (h : s < t) : a ++ s < a ++ t := by
  induction a with
  | nil => exact h
  | cons x a ih => exact List.cons_lt_cons_iff.mpr (.inr ⟨rfl, ih⟩)
theorem lex_app : ∀ {a b : List Nat} {s t : List Nat}, a.length = b.length → a < b → a ++ s < b ++ t
  | [], [], _, _, _, h => absurd h (List.lt_irrefl _)
  | x :: a, y :: b, s, t, hl, h => by
    rcases List.cons_lt_cons_iff.mp h with h | ⟨h1, h2⟩
    · exact List.cons_lt_cons_iff.mpr (.inl h)
    · exact List.cons_lt_cons_iff.mpr (.inr ⟨h1, lex_app (by simpa using hl) h2⟩)
theorem one_len {zs : List Str} (h : SgnOk zs) {z : Str} (hz : z ∈ zs) : z.length = 1 := by
  obtain ⟨c, _, rfl⟩ := h.one z hz
  rfl
theorem lvl_len {zs : List Str} (h : SgnOk zs) : ∀ (n : Nat) (w : Str), w ∈ lvl zs n → w.length = n := by
  intro n
  induction n with
  | zero => intro w hw; rw [List.mem_singleton.mp hw]; rfl
  | succ n ih =>
    intro w hw
    obtain ⟨v, hv, hw⟩ := List.mem_flatMap.mp hw
    obtain ⟨z, hz, rfl⟩ := List.mem_map.mp hw
    rw [strLen_app, ih v hv, one_len h hz]
theorem lvl_asc {zs : List Str} (h : SgnOk zs) (n : Nat) : (lvl zs n).Pairwise fun a b => a.cps.toList < b.cps.toList := by
  induction n with
  | zero => exact List.pairwise_singleton _ _
  | succ n ih =>
    show ((lvl zs n).flatMap (kids zs)).Pairwise _
    refine List.pairwise_flatMap.mpr ⟨fun a ha => ?_, ?_⟩
    · refine List.pairwise_map.mpr (h.asc.imp fun {s t} hst => ?_)
      rw [cpsL_append, cpsL_append]
      exact lex_same _ hst
    · refine ih.imp_of_mem fun {a b} ha hb hab x hx y hy => ?_
      obtain ⟨s, hs, rfl⟩ := List.mem_map.mp hx
      obtain ⟨t, ht, rfl⟩ := List.mem_map.mp hy
      rw [cpsL_append, cpsL_append]
      refine lex_app ?_ hab
      have h1 := lvl_len h n a ha
      have h2 := lvl_len h n b hb
      have e1 : a.cps.toList.length = a.length := by simp [Str.length]
      have e2 : b.cps.toList.length = b.length := by simp [Str.length]
      omega
theorem allW_len {zs : List Str} (h : SgnOk zs) : ∀ (n : Nat) (w : Str), w ∈ allW zs n → w.length ≤ n := by
  intro n
  induction n with
  | zero => intro w hw; rw [List.mem_singleton.mp hw]; exact Nat.le_refl _
  | succ n ih =>
    intro w hw
    rcases List.mem_append.mp hw with hw | hw
    · have := ih w hw; omega
    · have := lvl_len h _ w hw; omega
theorem allW_asc {zs : List Str} (h : SgnOk zs) (n : Nat) : (allW zs n).Pairwise ahead := by
  induction n with
  | zero => exact List.pairwise_singleton _ _
  | succ n ih =>
    refine List.pairwise_append.mpr ⟨ih, (lvl_asc h (n + 1)).imp_of_mem fun {a b} ha hb hab => .inr ⟨?_, hab⟩, fun a ha b hb => .inl ?_⟩
    · rw [lvl_len h _ a ha, lvl_len h _ b hb]
    · have h1 := allW_len h n a ha
      have h2 := lvl_len h _ b hb
      omega
theorem lvl_word {zs : List Str} (h : SgnOk zs) : ∀ (n : Nat) (w : Str), w ∈ lvl zs n → isWordS w = true := by
  intro n
  induction n with
  | zero => intro w hw; rw [List.mem_singleton.mp hw]; rfl
  | succ n ih =>
    intro w hw
    obtain ⟨v, hv, hw⟩ := List.mem_flatMap.mp hw
    obtain ⟨z, hz, rfl⟩ := List.mem_map.mp hw
    obtain ⟨c, hc, rfl⟩ := h.one z hz
    unfold isWordS
    rw [cpsL_append, List.all_append, Bool.and_eq_true]
    refine ⟨ih v hv, ?_⟩
    simp [sgn, hc]
theorem allW_word {zs : List Str} (h : SgnOk zs) : ∀ (n : Nat) (w : Str), w ∈ allW zs n → isWordS w = true := by
  intro n
  induction n with
  | zero => intro w hw; rw [List.mem_singleton.mp hw]; rfl
  | succ n ih =>
    intro w hw
    rcases List.mem_append.mp hw with hw | hw
    · exact ih w hw
    · exact lvl_word h _ w hw
theorem ord_allW {zs ws : List Str} (h : SgnOk zs) {n : Nat} (hp : ws.Perm (allW zs n)) : ord ws = allW zs n :=
  sorted_one (ord_sorted ws) (allW_asc h n) fun x => mem_ord.trans hp.mem_iff
theorem tot_le {m n : Nat} (hm : m ≤ 5) (hn : n ≤ 8) : tot m n ≤ 488281 := by
  have mono : ∀ n, tot m n ≤ tot 5 n := by
    intro n
    induction n with
    | zero => exact Nat.le_refl _
    | succ n ih => exact Nat.add_le_add ih (Nat.pow_le_pow_left hm _)
  have up : ∀ k, tot 5 n ≤ tot 5 (n + k) := by
    intro k
    induction k with
    | zero => exact Nat.le_refl _
    | succ k ih => exact Nat.le_trans ih (Nat.le_add_right _ _)
  have := up (8 - n)
  rw [show n + (8 - n) = 8 by omega] at this
  exact Nat.le_trans (mono n) (Nat.le_trans this (by decide))
abbrev strsV (zs : List Str) : List L2.V := zs.map L2.V.str
end MN
/-! the drawn signs; slices: plain -/
namespace MN
open PySem PySem.Spec PyProof.Rows L2
def one (c : Nat) : Str := ⟨#[c]⟩
theorem signsOf_one (z : Str) : signsOf z = (z.cps.toList.map one).map V.str := by
  unfold signsOf
  rw [List.map_map]; rfl
def strOf : V → Str
  | .str z => z
  | _ => e0
theorem perm_strsP {ys : List V} {zs : List Str} (h : ys.Perm (strsV zs)) : ∃ ws : List Str, ys = strsV ws ∧ ws.Perm zs := by
  refine ⟨ys.map strOf, ?_, ?_⟩
  · show ys = (ys.map strOf).map V.str
    rw [List.map_map]
    have : ys.map (V.str ∘ strOf) = ys.map id := by
      apply List.map_congr_left
      intro y hy
      obtain ⟨z, _, rfl⟩ := List.mem_map.mp (h.mem_iff.mp hy)
      rfl
    rw [this, List.map_id]
  · have := h.map strOf
    rw [List.map_map] at this
    have e : zs.map (strOf ∘ V.str) = zs.map id := List.map_congr_left fun _ _ => rfl
    rw [e, List.map_id] at this
    exact this
theorem ltCps_one (c d : Nat) : ltCps (one c).cps.toList (one d).cps.toList = decide (c < d) := by
  show (decide (c < d) || (c == d && false)) = _
  simp
theorem rising1 : ∀ (cs : List Nat) (p : Nat), risingS (one p) (cs.map one) = true → (∀ c ∈ cs, p ≤ c) ∧ cs.Pairwise (· ≤ ·)
  | [], _, _ => ⟨fun _ h => (by cases h), List.Pairwise.nil⟩
  | c :: cs, p, h => by
    have h' : (!ltCps (one c).cps.toList (one p).cps.toList && risingS (one c) (cs.map one)) = true := h
    rw [Bool.and_eq_true, ltCps_one] at h'
    obtain ⟨h1, h2⟩ := h'
    have hpc : p ≤ c := by simpa using h1
    obtain ⟨h3, h4⟩ := rising1 cs c h2
    refine ⟨fun d hd => ?_, .cons h3 h4⟩
    rcases List.mem_cons.mp hd with rfl | hd
    · exact hpc
    · exact Nat.le_trans hpc (h3 d hd)
theorem sorted1 : ∀ (cs : List Nat), sortedS (cs.map one) = true → cs.Pairwise (· ≤ ·)
  | [], _ => .nil
  | c :: cs, h => by
    obtain ⟨h1, h2⟩ := rising1 cs c h
    exact .cons h1 h2
/-- some of the five signs, sorted -/
theorem sgn_drawn {ws zs : List Str} {k : Nat} (hw : ws.Perm (("abcde" : Str).cps.toList.map one)) (hk : 0 < k) (hz : zs.Perm (ws.take k)) (hs : sortedS zs = true) : SgnOk zs := by
  have hnd : (("abcde" : Str).cps.toList.map one).Nodup := by decide +kernel
  have hws : ws.Nodup := hw.nodup_iff.mpr hnd
  have hzs : zs.Nodup := hz.nodup_iff.mpr (hws.sublist (List.take_sublist _ _))
  have hmem : ∀ z ∈ zs, ∃ c ∈ ("abcde" : Str).cps.toList, z = one c := fun z hz' => by
    have h1 := List.mem_of_mem_take (hz.mem_iff.mp hz')
    obtain ⟨c, hc, rfl⟩ := List.mem_map.mp (hw.mem_iff.mp h1)
    exact ⟨c, hc, rfl⟩
  have hl5 : ws.length = 5 := hw.length_eq
  have hzl : zs.length = min k 5 := by rw [hz.length_eq, List.length_take, hl5]
  obtain ⟨cs, rfl⟩ : ∃ cs : List Nat, zs = cs.map one := by
    refine ⟨zs.map fun z => z.cps.toList.headD 0, ?_⟩
    rw [List.map_map]
    have : zs.map (one ∘ fun z => z.cps.toList.headD 0) = zs.map id := by
      apply List.map_congr_left
      intro z hz'
      obtain ⟨c, _, rfl⟩ := hmem z hz'
      rfl
    rw [this, List.map_id]
  refine ⟨?_, hmem, by omega, by omega⟩
  have h1 := sorted1 cs hs
  have h2 : cs.Pairwise (· ≠ ·) := by
    have h3 : (cs.map one).Pairwise (· ≠ ·) := hzs
    rw [List.pairwise_map] at h3
    exact h3.imp fun {a b} h e => h (by rw [e])
  rw [List.pairwise_map]
  refine List.Pairwise.imp₂ (fun a b h h' => ?_) h1 h2
  show [a] < [b]
  exact List.cons_lt_cons_iff.mpr (.inl (Nat.lt_of_le_of_ne h h'))
theorem sgn_casesP {c : Nat} (h : sgn c = true) : c = 97 ∨ c = 98 ∨ c = 99 ∨ c = 100 ∨ c = 101 := by
  have h1 : c ∈ ("abcde" : Str).cps.toList := of_decide_eq_true h
  have h2 : ("abcde" : Str).cps.toList = [97, 98, 99, 100, 101] := by decide +kernel
  rw [h2] at h1
  simpa using h1
theorem word_okP {z : Str} (h : isWordS z = true) : PyData.strOk z = true := by
  unfold PyData.strOk
  rw [Array.all_eq_true_iff_forall_mem]
  intro c hc
  have := List.all_eq_true.mp h c (by simpa using hc)
  rcases sgn_casesP this with q | q | q | q | q <;> subst q <;> decide
theorem words_shapeP {zs : List Str} (h : ∀ z ∈ zs, isWordS z = true) : ∀ d ∈ zs.map PyData.str, d.canLay0 = true ∧ d.depth ≤ 60 := fun d hd => by
  obtain ⟨z, hz, rfl⟩ := List.mem_map.mp hd
  exact ⟨by rw [PyData.canLay0]; exact word_okP (h z hz), by rw [PyData.depth]; omega⟩
theorem cut_to (zs : List Str) {k : Int} (hk : 0 ≤ k) : cutV (strsV zs) none (some k) = strsV (zs.take k.toNat) := by
  have e : HT.sIx (strsV zs).length (strsV zs).length (some k) = min k.toNat zs.length := by
    show (if k < 0 then (k + ((strsV zs).length : Int)).toNat else min k.toNat (strsV zs).length) = _
    rw [if_neg (by omega), List.length_map]
  unfold cutV
  rw [e]
  show ((strsV zs).drop 0).take (min k.toNat zs.length - 0) = _
  rw [List.drop_zero, Nat.sub_zero, ← List.map_take]
  congr 1
  by_cases h : k.toNat ≤ zs.length
  · rw [Nat.min_eq_left h]
  · rw [Nat.min_eq_right (by omega), List.take_length, List.take_of_length_le (by omega)]
theorem cut_parts (zs : List Str) : ∃ m, cutV (strsV zs) (some (-30)) none = strsV (zs.drop m) ∧ cutV (strsV zs) none (some (-30)) = strsV (zs.take m) := by
  have e : ∀ d, HT.sIx (strsV zs).length d (some (-30)) = zs.length - 30 := fun d => by
    show (if (-30 : Int) < 0 then ((-30) + ((strsV zs).length : Int)).toNat else min (-30 : Int).toNat (strsV zs).length) = _
    rw [if_pos (by decide), List.length_map]
    omega
  refine ⟨zs.length - 30, ?_, ?_⟩
  · unfold cutV
    rw [e]
    show ((strsV zs).drop (zs.length - 30)).take ((strsV zs).length - (zs.length - 30)) = _
    rw [← List.map_drop, List.take_of_length_le]
    rw [List.length_map, List.length_drop, List.length_map]
    omega
  · unfold cutV
    rw [e]
    show ((strsV zs).drop 0).take (zs.length - 30 - 0) = _
    rw [List.drop_zero, Nat.sub_zero, ← List.map_take]
theorem shW {zs : List Str} (h : ∀ z ∈ zs, isWordS z = true) : SeqAt.shaped (.list (zs.map PyData.str)) = true := shapedL (words_shapeP h)
theorem shWT {zs : List Str} (h : ∀ z ∈ zs, isWordS z = true) : SeqAt.shaped (.tuple (zs.map PyData.str)) = true := shapedT (words_shapeP h)
theorem greatest_at {m : Nat} (h1 : 0 < m) (h5 : m ≤ 5) : ∃ g : Nat, atI [V.int 9, .int 9, .int 6, .int 5, .int 5] ((m : Int) - 1) = some (.int (g : Nat)) ∧ 0 < g ∧ g ≤ 9 ∧ ∀ n, n < g → tot m n ≤ 1000 := by
  have hm : m = 1 ∨ m = 2 ∨ m = 3 ∨ m = 4 ∨ m = 5 := by omega
  rcases hm with rfl | rfl | rfl | rfl | rfl
  · exact ⟨9, rfl, by decide, by decide, by decide⟩
  · exact ⟨9, rfl, by decide, by decide, by decide⟩
  · exact ⟨6, rfl, by decide, by decide, by decide⟩
  · exact ⟨5, rfl, by decide, by decide, by decide⟩
  · exact ⟨5, rfl, by decide, by decide, by decide⟩
end MN
/-! dicts whose keys are tuples: list(d.items()), dict(pairs), the walk over d.items() -/
namespace MN
open PySem PySem.Spec PyProof.Rows L2
/-- things laid over a tracked heap -/
def overH (H : Hp) (l : List (Addr × HO)) : Hp := fun b => match l.lookup b with | some o => some o | none => H b
theorem over_in {H : Hp} {l : List (Addr × HO)} {b : Addr} {o : HO} (h : l.lookup b = some o) : overH H l b = some o := by unfold overH; rw [h]
theorem over_out {H : Hp} {l : List (Addr × HO)} {b : Addr} (h : l.lookup b = none) : overH H l b = H b := by unfold overH; rw [h]
theorem lookup_zip {as : List Addr} {os : List HO} (nd : as.Nodup) {i : Nat} {a : Addr} {o : HO} (h1 : as[i]? = some a) (h2 : os[i]? = some o) : (as.zip os).lookup a = some o := by
  induction as generalizing os i with
  | nil => cases h1
  | cons x as ih =>
    obtain ⟨hx, nd'⟩ := List.nodup_cons.mp nd
    cases os with
    | nil => cases h2
    | cons y os =>
      cases i with
      | zero =>
        have e1 : x = a := Option.some.inj h1
        have e2 : y = o := Option.some.inj h2
        subst e1 e2
        rw [List.zip_cons_cons, List.lookup_cons_self]
      | succ i =>
        have h1' : as[i]? = some a := h1
        have hne : (a == x) = false := beq_eq_false_iff_ne.mpr fun e => hx (by rw [← e]; exact List.mem_of_getElem? h1')
        rw [List.zip_cons_cons, List.lookup_cons, hne]
        exact ih nd' h1' h2
theorem lookup_mem {α β : Type} [BEq α] [LawfulBEq α] : ∀ {l : List (α × β)} {a : α} {b : β}, l.lookup a = some b → (a, b) ∈ l
  | (x, y) :: l, a, b, h => by
    rw [List.lookup_cons] at h
    by_cases e : a = x
    · subst e
      rw [beq_self_eq_true] at h
      cases h
      exact List.mem_cons_self
    · rw [beq_eq_false_iff_ne.mpr e] at h
      exact List.mem_cons_of_mem _ (lookup_mem h)
theorem zip_of {as : List Addr} {os : List HO} {a : Addr} {o : HO} (h : (as.zip os).lookup a = some o) : ∃ i : Nat, as[i]? = some a ∧ os[i]? = some o := by
  have hm := lookup_mem h
  obtain ⟨i, hi⟩ := List.mem_iff_getElem?.mp hm
  obtain ⟨h1, h2⟩ := List.getElem?_zip_eq_some.mp hi
  exact ⟨i, h1, h2⟩
section
variable {X : Cx} {pins : List (Addr × Obj)} {σ : L2.St} {H : Hp} {s : Shared}
theorem Inv_over {l : List (Addr × HO)} {h' : Heap} {tk : Nat} (I : L2.Inv X pins σ H s) (hk : ∀ b o, s.heap.get? b = some o → h'.get? b = some o) (fresh : ∀ b o, l.lookup b = some o → s.heap.objs.size ≤ b)
    (ok : ∀ b o, l.lookup b = some o → ObjOk X.prog X.w (overH H l) h' b o) : L2.Inv X pins σ (overH H l) { s with heap := h', toks := tk } := by
  have up : ∀ b u, H b = some u → overH H l b = some u := fun b u e => by
    cases q : l.lookup b with
    | none => rw [over_out q]; exact e
    | some o => rw [I.hok.fresh (fresh b o q)] at e; cases e
  refine I.call' (ch := []) rfl ⟨fun b o q _ _ _ => hk b o q, fun b o q _ _ _ => ⟨o.slots, hk b o q⟩, fun b o q n _ => ?_, fun b o q _ => ⟨o, hk b o q⟩, fun b xs q => up b _ q, fun b o u q => up b _ q, fun b ps q => ⟨#[], by rw [up b _ q]; simp⟩⟩ (fun b u q => ?_) I.bare fun b z => by simp at z
  · cases z : l.lookup b with
    | none => rw [over_out z]; exact n
    | some u => exact absurd (Nat.lt_of_lt_of_le (Heap.lt_size q) (fresh b u z)) (Nat.lt_irrefl _)
  · cases z : l.lookup b with
    | none =>
      rw [over_out z] at q
      exact (I.hok b u q).stay (fun d v _ y => hk d v y) (fun d y => up d _ y) fun d xs y => up d _ y
    | some o =>
      rw [over_in z] at q
      cases q
      exact ok b _ z
end
/-- each t is the tuple of a key and its value -/
def PairsT (H : Hp) : List Addr → List (List Key × V) → Prop := Paired fun t kv => ∃ q, H t = some (.tup [.ref q, kv.2]) ∧ H q = some (.tup (kv.1.map kV))
/-! ### list(d.items()) -/
section
variable {prog : Program} {w : World} {A : Around} {E : Value → Shared → Prop} {s : Shared} {r d : Addr} {es : Array DictEntry} {ep : Nat}
theorem list_items_raw {Q : Value → Shared → Prop} (hh : A.handled = none) (hv : s.heap.IsItemsView r d) (hm : DT.Raw s.heap d es ep) (hn : es.size ≤ sizeLine)
    (hQ : ∀ h' tk acc c as, (∀ b o, s.heap.get? b = some o → h'.get? b = some o) → h'.get? s.heap.objs.size = some { cls := .type "list", dict := none, data := .seq acc c, slots := #[] } → as.length = es.size → DT.Made es s.heap.objs.size h' as →
      acc.toList = as.map Value.ref → Q (.ref s.heap.objs.size) { s with heap := h', toks := tk }) :
    wpAny (model prog w) A (call (.type "list") [.ref r]) Q E s := by
  refine callType_codes (Q₁ := fun obj s₁ => obj = .ref s.heap.objs.size ∧ s₁ = { s with heap := s.heap.push { cls := .type "list", data := .seq #[] } }) PySem.F.called_list (PySem.F.typeCall_list_1 _) PySem.F.entry_list_init
    (code_list_new _ ⟨rfl, rfl⟩) fun obj s₁ h₁ => ?_
  obtain ⟨rfl, rfl⟩ := h₁
  have hS : (s.heap.push { cls := .type "list", data := .seq #[] }).get? s.heap.objs.size = some { cls := .type "list", data := .seq #[] } := Heap.get?_push_size _ rfl
  have hr : r < s.heap.objs.size := let ⟨_, ho, _⟩ := hv; Heap.lt_size ho
  have hd : d < s.heap.objs.size := hm.lt
  refine ⟨⟨_, hS, rfl⟩, PySem.F.args_list_init_2 _ _, ?_⟩
  show wpAny _ A.in1.in1 (do let old ← Builtin.List.listItems (.ref s.heap.objs.size); Builtin.List.listUpdate (.ref s.heap.objs.size) (fun _ => #[]); letGo old.toList.reverse; Builtin.List.listExtendWith (.ref s.heap.objs.size) (.ref r) .none) _ _ _
  refine wpAny_bind ?_
  unfold Builtin.List.listItems
  refine wpAny_bind (wpAny_seqItems hS rfl (wpAny_pure ?_))
  show wpAny _ _ (updateSeq s.heap.objs.size (fun _ => #[]) >>= fun _ => letGo (#[] : Array Value).toList.reverse >>= fun _ => Builtin.List.listExtendWith (.ref s.heap.objs.size) (.ref r) .none) _ _ _
  refine wpAny_bind (wpAny_updateSeq hS rfl ?_)
  have hS₂ := Heap.get?_update_self (Obj.mapSeq (fun _ => (#[] : Array Value))) hS rfl
  have oth : ∀ b o, b ≠ s.heap.objs.size → (s.heap.push { cls := .type "list", data := .seq #[] }).get? b = some o → ((s.heap.push { cls := .type "list", data := .seq #[] }).update s.heap.objs.size (Obj.mapSeq (fun _ => (#[] : Array Value)))).get? b = some o :=
    fun b o hb e => (Heap.get?_update_other _ _ (Ne.symm hb)).trans e
  have up : ∀ b o, s.heap.get? b = some o → ((s.heap.push { cls := .type "list", data := .seq #[] }).update s.heap.objs.size (Obj.mapSeq (fun _ => (#[] : Array Value)))).get? b = some o := fun b o e => oth b o (Nat.ne_of_lt (Heap.lt_size e)) (Heap.get?_push_of_some _ e)
  refine wpAny_bind (wpAny_letGo ?_)
  refine DT.extI (A := A.in1) (es := es) (ep := ep) hh (let ⟨o, ho, x⟩ := hv; ⟨o, up r o ho, x⟩) (hm.at' fun o e => up d o e) _ (Nat.ne_of_gt hr) (Nat.ne_of_lt hd) .none _ hS₂ (fun h' tk acc c as hk hS' hl hG hacc => ?_) hn
  exact ⟨rfl, hQ h' tk acc c as (fun b o e => hk b o (Nat.ne_of_lt (Heap.lt_size e)) (up b o e)) hS' hl (hG.low (Nat.le_of_lt (Heap.lt_size hS₂))) hacc⟩
end
def rItemsLT : V → Hp → VK → Prop := fun x H Q => ∃ (d : Addr) (kvs : List (List Key × V)), x = .ref d ∧ H d = some (.dT kvs) ∧
  ∀ (H' : Hp) (p : Addr) (ts : List Addr), Same H H' → H p = none → H' p = some (.lst (ts.map V.ref)) → PairsT H' ts kvs → Q (.ref p) H'
def tListItemsT (te : TE) : TE := fun σ H Q => te σ H fun x H1 => rItemsLT x H1 Q
theorem paired_of {α β : Type} {F : α → β → Prop} : ∀ {xs : List α} {ys : List β}, xs.length = ys.length → (∀ (i : Nat) (x : α) (y : β), xs[i]? = some x → ys[i]? = some y → F x y) → Paired F xs ys
  | [], [], _, _ => .nil
  | [], _ :: _, h, _ => by cases h
  | _ :: _, [], h, _ => by cases h
  | x :: xs, y :: ys, h, hF => .cons (hF 0 x y rfl rfl) (paired_of (Nat.succ.inj h) fun i a b h1 h2 => hF (i + 1) a b h1 h2)
section
variable {X : Cx} {e : Expr} {te : TE} {p apos cpos pos : Pos}
theorem pe_listItemsT (hc : X.calm = true) (he : PE X e te) (hg : Gl X "list") (hm : X.mg "list" = none) (hv : bootBuiltins "list" = some (.type "list")) (hbase : attributeBase e "items" X.env (eval e X.env) = eval e X.env := by rfl) (hline : (apos.endLine == cpos.line) = true := by rfl)
    (hs : starEach [.Call (.Attribute e "items" apos) [] [] cpos] X.env = (false, eval (.Call (.Attribute e "items" apos) [] [] cpos) X.env) :: starEach [] X.env := by rfl) :
    PE X (.Call (.Name "list" p) [.Call (.Attribute e "items" apos) [] [] cpos] [] pos) (tListItemsT te) := by
  refine ⟨fun pins s σ H Q I hq => ?_⟩
  refine wpAny_Call_Name_kw (ld_blt I hg hm hv ?_)
  refine PyProof.Rows.callWith_type1 ?_ hs rfl
  rw [hs]
  show wpAny _ _ (spliced ((false, eval (.Call (.Attribute e "items" apos) [] [] cpos) X.env) :: backTo pos (starEach [] X.env))) _ _ s
  refine Calls.spliced_cons ?_
  refine wpAny_Call_method (T := "dict") (id := "dict.items") hbase rfl hline F.plainAttrs_dict F.slot_dict_items F.type_dict_items (thn (he.run pins s σ H _ I hq) fun u s1 ⟨x, H1, I1, rx, d, kvs, ex, hd, q⟩ => ?_)
  subst ex
  obtain rfl : u = Value.ref d := rx
  obtain ⟨z, hs0, xs, rel, o, es, ep, ho, hx, hdat, hes, his, hnd⟩ := dt_of I1.hok hd
  have raw : DT.Raw s1.heap d es ep := ⟨o, ho, hx, hdat⟩
  have lx : kvs.length = xs.length := Paired.length rel
  have le : es.size = xs.length := size_of_entries hes
  have I2 : L2.Inv X pins σ H1 { s1 with heap := s1.heap.push { cls := .type "dict_items", data := .fields #[.ref d] } } := I1.kept (t' := s1.toks) fun b ob q => Heap.get?_push_of_some _ q
  refine ⟨raw.typeIs, dictOfH_noDict (knd := tupleKind (mixKind X.prog X.w)) ⟨o, es, ep, ho, hx, hdat, hes, his, hnd⟩, ?_⟩
  show wpAny _ _ (callWith cpos (.builtin "dict.items") [.ref d] [] []) _ X.xe s1
  refine Calls.callWith_builtin rfl (PySem.evalArgs_none (DT.callItems hs0 raw ?_))
  refine Calls.spliced_nil ?_
  refine list_items_raw (I1.ok.hd hc) (r := s1.heap.objs.size) ⟨_, Heap.get?_push_size _ rfl, rfl, rfl⟩ (raw.push _) (by omega) fun h' tk acc c as hk hS hl hG hacc => ?_
  have la : as.length = kvs.length := by omega
  have nd : as.Nodup := List.Pairwise.imp (fun {a b} (h : a < b) => Nat.ne_of_lt h) hG.rise
  let S := (s1.heap.push { cls := .type "dict_items", data := .fields #[.ref d] }).objs.size
  let os : List HO := (kvs.zip xs).map fun z => HO.tup [.ref z.2.2.1, z.1.2]
  let l : List (Addr × HO) := (S, .lst (as.map V.ref)) :: as.zip os
  have hSn : S ∉ as := fun z => Nat.lt_irrefl _ (hG.above _ z)
  have osAt : ∀ (i : Nat) (kv : List Key × V) (x : List Key × Addr × Value), kvs[i]? = some kv → xs[i]? = some x → os[i]? = some (HO.tup [.ref x.2.1, kv.2]) := fun i kv x h1 h2 => by
    show ((kvs.zip xs).map _)[i]? = _
    rw [List.getElem?_map, show (kvs.zip xs)[i]? = some (kv, x) from List.getElem?_zip_eq_some.mpr ⟨h1, h2⟩]; rfl
  have lS : l.lookup S = some (.lst (as.map V.ref)) := List.lookup_cons_self
  have lT : ∀ (i : Nat) (a : Addr) (kv : List Key × V) (x : List Key × Addr × Value), as[i]? = some a → kvs[i]? = some kv → xs[i]? = some x → l.lookup a = some (.tup [.ref x.2.1, kv.2]) := fun i a kv x h0 h1 h2 => by
    have hne : (a == S) = false := beq_eq_false_iff_ne.mpr fun e => hSn (by rw [← e]; exact List.mem_of_getElem? h0)
    show List.lookup a ((S, _) :: as.zip os) = _
    rw [List.lookup_cons, hne]
    exact lookup_zip nd h0 (osAt i kv x h1 h2)
  have lOf : ∀ b o, l.lookup b = some o → (b = S ∧ o = .lst (as.map V.ref)) ∨ ∃ (i : Nat) (kv : List Key × V) (x : List Key × Addr × Value), as[i]? = some b ∧ kvs[i]? = some kv ∧ xs[i]? = some x ∧ o = .tup [.ref x.2.1, kv.2] := fun b o h => by
    by_cases hb : b = S
    · subst hb
      rw [lS] at h
      exact .inl ⟨rfl, (Option.some.inj h).symm⟩
    · have hne : (b == S) = false := beq_eq_false_iff_ne.mpr hb
      have h' : (as.zip os).lookup b = some o := by
        have h2 : List.lookup b ((S, HO.lst (as.map V.ref)) :: as.zip os) = some o := h
        rw [List.lookup_cons, hne] at h2
        exact h2
      obtain ⟨i, h1, h2⟩ := zip_of h'
      obtain ⟨z, h3, h4⟩ := Option.map_eq_some_iff.mp ((List.getElem?_map ..).symm.trans h2)
      obtain ⟨h5, h6⟩ := List.getElem?_zip_eq_some.mp h3
      exact .inr ⟨i, z.1, z.2, h1, h5, h6, h4.symm⟩
  have fresh : ∀ b o, l.lookup b = some o → S ≤ b := fun b o h => by
    rcases lOf b o h with ⟨rfl, _⟩ | ⟨i, kv, x, h1, _⟩
    · exact Nat.le_refl _
    · exact Nat.le_of_lt (hG.above b (List.mem_of_getElem? h1))
  have J : L2.Inv X pins σ (overH H1 l) { s1 with heap := h', toks := tk } := by
    refine Inv_over (s := { s1 with heap := s1.heap.push { cls := .type "dict_items", data := .fields #[.ref d] } }) I2 hk fresh fun b o h => ?_
    rcases lOf b o h with ⟨rfl, rfl⟩ | ⟨i, kv, x, h1, h2, h3, rfl⟩
    · refine ⟨by rw [List.length_map]; omega, acc.toList, c, by rw [hacc]; exact LiI.vals_refs as, ?_⟩
      rw [Array.toArray_toList]; exact hS
    · obtain ⟨en, e1, e2⟩ := hG.pairs i b h1
      have e3 := entry_at hes i
      rw [e1, h3] at e3
      have e4 : en = entryOfKey (tupleKind (mixKind X.prog X.w)) x := Option.some.inj e3
      obtain ⟨y, hy, r1, r2, r3⟩ := L2.DX.pget rel h3
      rw [h2] at hy
      cases hy
      rw [e4] at e2
      exact ⟨by show 2 ≤ sizeLine; decide, [Value.ref x.2.1, x.2.2], .cons rfl (.cons r3 .nil), ⟨_, e2, rfl, _, rfl⟩⟩
  have up : Same H1 (overH H1 l) := fun b u e => by
    cases q : l.lookup b with
    | none => rw [over_out q]; exact e
    | some o => rw [I2.hok.fresh (fresh b o q)] at e; cases e
  refine ⟨.ref S, overH H1 l, J, rfl, q _ S as up (I2.hok.fresh (Nat.le_refl _)) (over_in lS) (paired_of la fun i t kv h1 h2 => ?_)⟩
  obtain ⟨x, hx1, r1, r2, r3⟩ := LiI.paired_get rel h2
  exact ⟨x.2.1, over_in (lT i t kv x h1 h2 hx1), up _ _ r2⟩
end
/-! ### dict(pairs) -/
theorem stored_all {ps : List (List Key × Addr × Value)} : ∀ (acc : List (List Key × Addr × Value)), ((acc ++ ps).map (·.1)).Nodup → storedAllH acc ps = acc ++ ps := by
  induction ps with
  | nil => intro acc _; rw [List.append_nil]; rfl
  | cons p ps ih =>
    intro acc hn
    have hnew : atKey acc p.1 = none := by
      cases q : atKey acc p.1 with
      | none => rfl
      | some z =>
        exfalso
        unfold atKey at q
        obtain ⟨x, hx, _⟩ := Option.map_eq_some_iff.mp q
        have h1 := List.mem_of_find?_eq_some hx
        have h2 : x.1 = p.1 := by simpa using List.find?_some hx
        rw [List.map_append, List.map_cons] at hn
        have h3 := (List.nodup_append.mp hn).2.2 x.1 (List.mem_map.mpr ⟨x, h1, rfl⟩) p.1 List.mem_cons_self
        exact h3 h2
    show storedAllH (storedH acc p.1 p.2.1 p.2.2) ps = _
    rw [storedH_new hnew]
    have e : acc ++ p :: ps = (acc ++ [(p.1, p.2.1, p.2.2)]) ++ ps := by simp
    rw [ih _ (by rw [← e]; exact hn), e]
def rDictPT : List V → Hp → VK → Prop := fun vs H Q => ∃ (a : Addr) (ts : List Addr) (kvs : List (List Key × V)), vs = [.ref a] ∧ H a = some (.lst (ts.map V.ref)) ∧ PairsT H ts kvs ∧ (kvs.map (·.1)).Nodup ∧ ∀ p, H p = none → Q (.ref p) (upd H p (.dT kvs))
theorem call_dictPT {X : Cx} (hcalm : X.calm = true) (hu : X.A.units + 64 < cLine) : CallR X (.type "dict") rDictPT := by
  intro pins s σ H xs us Q I r q
  obtain ⟨a, ts, kvs, rfl, ha, hp, hnd, q⟩ := q
  obtain ⟨u, rfl, rx⟩ := vals1 r
  cases rx
  obtain ⟨hz, its, n, rv, ho⟩ := I.hok a _ ha
  have ei := refs_at rv
  subst ei
  rw [List.length_map] at hz
  have lk : ts.length = kvs.length := Paired.length hp
  -- what stands at each pair
  have at_ : ∀ (i : Nat) (t : Addr) (kv : List Key × V), ts[i]? = some t → kvs[i]? = some kv → ∃ (b : Addr) (v : Value), H b = some (.tup (kv.1.map kV)) ∧ RelV kv.2 v ∧ IsTup s.heap t #[.ref b, v] := fun i t kv h1 h2 => by
    obtain ⟨kv', e, qa, h3, h4⟩ := LiI.paired_get hp h1
    rw [h2] at e
    cases e
    obtain ⟨_, its2, r2, ht⟩ := I.hok t _ h3
    cases r2 with
    | cons ra rb =>
      cases rb with
      | cons rc rd =>
        cases rd
        cases ra
        exact ⟨qa, _, h4, rc, ht⟩
  have ch : ∀ i : Fin ts.length, ∃ x : Addr × Value, H x.1 = some (.tup ((kvs[i.1]'(by omega)).1.map kV)) ∧ RelV (kvs[i.1]'(by omega)).2 x.2 ∧ IsTup s.heap ts[i.1] #[.ref x.1, x.2] := fun i => by
    obtain ⟨b, v, h1, h2, h3⟩ := at_ i.1 ts[i.1] (kvs[i.1]'(by omega)) (List.getElem?_eq_getElem _) (List.getElem?_eq_getElem _)
    exact ⟨(b, v), h1, h2, h3⟩
  let f : Fin ts.length → Addr × Value := fun i => Classical.choose (ch i)
  have hf : ∀ i : Fin ts.length, H (f i).1 = some (.tup ((kvs[i.1]'(by omega)).1.map kV)) ∧ RelV (kvs[i.1]'(by omega)).2 (f i).2 ∧ IsTup s.heap ts[i.1] #[.ref (f i).1, (f i).2] := fun i => Classical.choose_spec (ch i)
  let ps : List (List Key × Addr × Value) := List.ofFn fun i : Fin ts.length => ((kvs[i.1]'(by omega)).1, (f i).1, (f i).2)
  have psl : ps.length = ts.length := List.length_ofFn
  have psAt : ∀ (i : Nat) (hi : i < ts.length), ps[i]? = some ((kvs[i]'(by omega)).1, (f ⟨i, hi⟩).1, (f ⟨i, hi⟩).2) := fun i hi => by
    rw [List.getElem?_eq_getElem (by omega), List.getElem_ofFn]
  have kt : KT H kvs ps := paired_of (by omega) fun i kv x h1 h2 => by
    have hi : i < ts.length := by have := (List.getElem?_eq_some_iff.mp h1).1; omega
    rw [psAt i hi] at h2
    cases h2
    obtain ⟨hi', e⟩ := List.getElem?_eq_some_iff.mp h1
    subst e
    exact ⟨rfl, (hf ⟨i, hi⟩).1, (hf ⟨i, hi⟩).2.1⟩
  have keysP : ps.map (·.1) = kvs.map (·.1) := by
    apply List.ext_getElem?
    intro i
    rw [List.getElem?_map, List.getElem?_map]
    by_cases hi : i < ts.length
    · rw [psAt i hi, List.getElem?_eq_getElem (by omega)]; rfl
    · rw [List.getElem?_eq_none (by omega), List.getElem?_eq_none (by omega)]; rfl
  let prs : List (Value × Value) := ps.map fun x => (Value.ref x.2.1, x.2.2)
  have prl : prs.length = ts.length := by rw [List.length_map]; exact psl
  have hst : KeysStay (tupleKind (mixKind X.prog X.w)) s.heap s.heap.objs.size [] ps := fun h' hk x hx => by
    obtain ⟨y, hy⟩ := List.mem_iff_getElem?.mp hx
    obtain ⟨kv, hkv, r1, r2, _⟩ := L2.DX.pget kt hy
    have ok' : HOk X.prog X.w H h' := by
      intro b o e
      exact (I.hok b o e).stay (fun c v _ z => hk c v (Nat.ne_of_lt (Heap.lt_size z)) (by simp) z) (fun _ z => z) fun _ _ z => z
    rw [← r1]
    exact key_of ok' r2
  refine call_dict_pairsH (knd := tupleKind (mixKind X.prog X.w)) (ps := ps) (PairArg.list a ((ts.map Value.ref).toArray) (fun j => (ts[j]?).getD 0) prs) (I.ok.hd hcalm) (show X.A.in1.in1.units < cLine by show X.A.units + 1 + 1 < cLine; omega) ⟨⟨_, n, ho, rfl, rfl, rfl⟩, by simp [prl], fun j k v hj => ?_⟩ ⟨by rw [prl, psl], fun i key v hrel => ?_⟩ hst (by omega) fun h' tk hd' hk => ?_
  · have hj' : j < ts.length := by have := (List.getElem?_eq_some_iff.mp hj).1; omega
    rw [List.getElem?_map, psAt j hj'] at hj
    cases hj
    have ht := (hf ⟨j, hj'⟩).2.2
    refine ⟨by simp [hj'], .inl ?_⟩
    show s.heap.IsTuple ((ts[j]?).getD 0) _
    rw [List.getElem?_eq_getElem hj']
    exact ht
  · have hj' : i < ts.length := by have := (List.getElem?_eq_some_iff.mp hrel).1; omega
    have hrel' : prs[i]? = some (key, v) := hrel
    rw [List.getElem?_map, psAt i hj'] at hrel'
    cases hrel'
    exact ⟨_, _, psAt i hj', rfl⟩
  · have e := stored_all (ps := ps) [] (by rw [List.nil_append, keysP]; exact hnd)
    rw [e, List.nil_append] at hd'
    have hm : (s.heap.objs.size == sysModules) = false := beq_eq_false_iff_ne.mpr (Nat.ne_of_gt I.big)
    have hk' : ∀ b o, s.heap.get? b = some o → h'.get? b = some o := fun b o e => hk b o (by simp) e
    obtain ⟨o, es, ep, h1, h2, h3, h4, h5, h6⟩ := hd'
    have hfr : H s.heap.objs.size = none := I.hok.fresh (Nat.le_refl _)
    refine ⟨.ref s.heap.objs.size, upd H s.heap.objs.size (.dT kvs), I.laid (t' := tk) hk' (Nat.le_refl _) (show ObjOk X.prog X.w _ _ _ (.dT kvs) from ⟨by omega, hm, ps, kt.keeps fun b ys e => ?_, o, es, ep, h1, h2, h3, h4, h6⟩), rfl, q _ hfr⟩
    rw [upd_ne (ne_of_none e hfr)]; exact e
end MN
/-! the walk over d.items() of a dict with tuple keys; sorted of data -/
namespace MN
open PySem PySem.Spec PyProof.Rows L2
/-- the pairs, each a new tuple of the key's own tuple and the value -/
def Itit (d : Addr) (o : Obj) (kvs : List (List Key × V)) : It :=
  ⟨fun i H => H d = some (.frz o (.dT kvs)) ∧ i < kvs.length, fun i H x H' => ∃ T k v q, kvs[i]? = some (k, v) ∧ x = .ref T ∧ H T = none ∧ H q = some (.tup (k.map kV)) ∧ H' = upd H T (.tup [.ref q, v]), fun i H => H d = some (.frz o (.dT kvs)) ∧ kvs.length ≤ i⟩
section
variable {X : Cx} {pins : List (Addr × Obj)} {σ : L2.St} {H : Hp} {s : Shared} {d : Addr} {o : Obj}
theorem frzTV {kvs : List (List Key × V)} (I : L2.Inv X pins σ H s) (h : H d = some (.frz o (.dT kvs))) :
    (d == sysModules) = false ∧ s.heap.get? d = some o ∧ o.ExactDict ∧ ∃ (es : Array DictEntry) (ep : Nat), o.data = .dict es ep ∧ es.size = kvs.length ∧
      ∀ (i : Nat) (k : List Key) (v : V), kvs[i]? = some (k, v) → ∃ (en : DictEntry) (q : Addr), es[i]? = some en ∧ en.key = .ref q ∧ H q = some (.tup (k.map kV)) ∧ RelV v en.val := by
  obtain ⟨hd, z, hs, xs, pr, o', es, ep, ho, hx, hdt, he, _⟩ := I.hok d _ h
  rw [hd] at ho
  cases ho
  refine ⟨hs, hd, hx, es, ep, hdt, ?_, fun i k v e => ?_⟩
  · have l1 : es.size = xs.length := size_of_entries he
    have l2 : kvs.length = xs.length := Paired.length pr
    omega
  · obtain ⟨b, hb, e1, e2, e3⟩ := LiI.paired_get pr e
    have q := entry_at he i
    rw [hb] at q
    exact ⟨_, b.2.1, q, rfl, e2, e3⟩
end
section
variable {P : Program} {w : World} {K : PySem.W.Frag} {d : Addr} {o : Obj} {es : Array DictEntry} {ep : Nat}
theorem turn_itemsT {kvs : List (List Key × V)} {elts : List Expr} {kk : Nat} {tpos : Pos} (it : Addr) (hod : o.data = .dict es ep) :
    Turn P w K (.Tuple elts kk tpos) (Itit d o kvs) [it] it (fun i h => ∃ ok ov, IsItemIter h it d i kvs.length ep ok ov) where
  mem := by simp
  obj := fun i h st b hb => by
    have e : b = it := by simpa using hb
    subst e
    obtain ⟨ok, ov, e⟩ := st
    exact ⟨_, e, fun v z => nomatch z⟩
  keep := fun i h h' st k => let ⟨ok, ov, e⟩ := st; ⟨ok, ov, k it (by simp) _ e⟩
  item := by
    intro X hP hw hK hc i pins s σ H E I hf st hg
    subst hP hw hK
    obtain ⟨hd, hi⟩ := hg
    obtain ⟨hs, hgd, hx, es', ep', hdt, hsz, ent⟩ := frzTV I hd
    obtain ⟨rfl, rfl⟩ := dict_ep hod hdt
    obtain ⟨⟨k, v⟩, hkv⟩ : ∃ p, kvs[i]? = some p := ⟨kvs[i], List.getElem?_eq_getElem hi⟩
    obtain ⟨en, q, hen, hkey, hq, rv⟩ := ent i k v hkv
    obtain ⟨hie, ee⟩ := Array.getElem?_eq_some_iff.mp hen
    obtain ⟨ok, ov, he⟩ := st
    rw [← hsz] at he
    have hlt : it < s.heap.objs.size := Heap.lt_size he
    refine DT.nextI he ⟨o, hgd, hx, hod⟩ hie fun h' ho hT hz hk => ?_
    refine ⟨_, rfl, wpAny_letOwnedTupleGo_items (s := { s with heap := h' }) ho fun h'' he' sb => ?_⟩
    have hT2 : h''.get? s.heap.objs.size = some { cls := .type "tuple", data := .seq #[.ref q, en.val] } := by
      have := (sb.2 _ (Nat.ne_of_gt hlt)).trans hT
      rw [ee, hkey] at this
      exact this
    have new : ObjOk X.prog X.w (upd H s.heap.objs.size (.tup [.ref q, v])) h'' s.heap.objs.size (.tup [.ref q, v]) :=
      ⟨by show 2 ≤ sizeLine; decide, [.ref q, en.val], .cons rfl (.cons rv .nil), ⟨_, hT2, rfl, _, rfl⟩⟩
    have I1 : L2.Inv X pins σ (upd H s.heap.objs.size (.tup [.ref q, v])) { s with heap := h'' } :=
      I.turnedNew (t' := s.toks) (ch := [it]) (fun b ob hb e => (sb.2 b (by simpa using hb)).trans (hk b ob (by simpa using hb) e)) hf (Nat.le_refl _) new
    refine ⟨.ref s.heap.objs.size, _, I1, rfl, ⟨_, k, v, q, hkv, rfl, I.hok.fresh (Nat.le_refl _), hq, rfl⟩, ⟨es'[i].key, es'[i].val, ?_⟩, fun b hb => ?_⟩
    · rw [← hsz]; exact he'
    · have e : b = it := by simpa using hb
      rw [e, upd_ne (Nat.ne_of_lt hlt)]
      exact (hf it (by simp)).1
  done := by
    intro X hP hw hK hc i pins s σ H E I hf st hg
    subst hP hw hK
    obtain ⟨hd, hi⟩ := hg
    obtain ⟨f0, f1, f2, f3, f4, f5⟩ := hf it (by simp)
    obtain ⟨hs, hgd, hx, es', ep', hdt, hsz, ent⟩ := frzTV I hd
    obtain ⟨rfl, rfl⟩ := dict_ep hod hdt
    obtain ⟨ok, ov, he⟩ := st
    rw [← hsz] at he
    exact DT.endI (I.ok.hd hc) he ⟨o, hgd, hx, hod⟩ (by omega) fun h' eb => ⟨rfl, I.turned (t' := s.toks) (fun b ob hb e => eb b ob hb e) f0 f1 f3 f4 f5⟩
  self := fun A i s Q E st h => let ⟨_, _, e⟩ := st; PySem.W.kcp_self e h
end
def iItemsT (td : TE) : TI := fun σ H R => td σ H fun x H1 => ∃ d o kvs, x = .ref d ∧ H1 d = some (.frz o (.dT kvs)) ∧ R (Itit d o kvs) H1
section
variable {X : Cx} {e : Expr} {td : TE} {apos cpos : Pos}
theorem pi_itemsT {elts : List Expr} {kk : Nat} {tpos : Pos} (he : PE X e td) (hbase : attributeBase e "items" X.env (eval e X.env) = eval e X.env := by rfl) (hline : (apos.endLine == cpos.line) = true := by rfl) :
    PI X (.Tuple elts kk tpos) (.Call (.Attribute e "items" apos) [] [] cpos) (iItemsT td) := by
  refine ⟨fun pins s σ H R I h => ?_⟩
  refine wpAny_Call_method (T := "dict") (id := "dict.items") hbase rfl hline F.plainAttrs_dict F.slot_dict_items F.type_dict_items (thn (he.run pins s σ H _ I h) fun u s1 ⟨x, H1, I1, rx, d, o, kvs, ex, hd, q⟩ => ?_)
  subst ex
  obtain rfl : u = Value.ref d := rx
  obtain ⟨hs, hgd, hx, es, ep, hdt, hsz, ent⟩ := frzTV I1 hd
  have raw : DT.Raw s1.heap d es ep := ⟨o, hgd, hx, hdt⟩
  refine ⟨raw.typeIs, fun b hb => ?_, ?_⟩
  · cases hb
    exact ⟨o, hgd, hx.2.1⟩
  have I2 : L2.Inv X pins σ H1 { s1 with heap := s1.heap.push { cls := .type "dict_items", data := .fields #[.ref d] } } := I1.kept (t' := s1.toks) fun b ob q => Heap.get?_push_of_some _ q
  show wpAny _ _ (callWith cpos (.builtin "dict.items") [.ref d] [] []) _ X.xe s1
  refine Calls.callWith_builtin rfl (PySem.evalArgs_none (DT.callItems hs raw ?_))
  refine DT.iterI (s := { s1 with heap := _ }) ⟨_, Heap.get?_push_size _ rfl, rfl, rfl⟩ (raw.push _) (pi_one (tk := s1.toks) I2 _ (turn_itemsT _ hdt) ⟨.none, .none, ?_⟩ q)
  rw [← hsz]
  exact Heap.get?_push_size _ rfl
theorem walk_itemsT {d : Addr} {o : Obj} {kvs : List (List Key × V)} : Walk (Itit d o kvs) kvs.length (fun H => H d = some (.frz o (.dT kvs)))
    (fun i H x H' => ∃ T k v q, kvs[i]? = some (k, v) ∧ x = .ref T ∧ H T = none ∧ H q = some (.tup (k.map kV)) ∧ H' = upd H T (.tup [.ref q, v])) :=
  ⟨fun _ _ hi q => ⟨q, hi⟩, fun _ q => ⟨q, Nat.le_refl _⟩, fun _ _ _ _ _ _ y => y⟩
end
/-! ### sorted(data) -/
def rSortD (K : PySem.W.Frag) : List V → Hp → VK → Prop := fun vs H Q => ∃ (a : Addr) (bs : List (V × PyData)), vs = [.ref a] ∧ SqL K H a (bs.map Prod.fst) ∧ (∀ b ∈ bs, Dp K H b.1 b.2) ∧ PySem.W.AllAlike (bs.map Prod.snd) ∧ PySem.W.Sortable (bs.map Prod.snd) ∧ (∀ b ∈ bs, b.2.depth ≤ 8) ∧
  ∀ p, H p = none → Q (.ref p) (upd H p (.lst ((bs.mergeSort (PySem.W.dataLe false Prod.snd)).map Prod.fst)))
theorem vals_each : ∀ {bs : List (V × PyData)} {us : List Value}, Vals (bs.map Prod.fst) us → PySem.W.EachIs (fun v (b : V × PyData) => RelV b.1 v) us bs
  | [], _, .nil => PySem.W.EachIs.nil
  | _ :: _, _, .cons e r => PySem.W.EachIs.cons e (vals_each r)
theorem each_vals : ∀ {bs : List (V × PyData)} {us : List Value}, PySem.W.EachIs (fun v (b : V × PyData) => RelV b.1 v) us bs → Vals (bs.map Prod.fst) us
  | _, _, .nil => .nil
  | _, _, .cons h1 h2 => .cons h1 (each_vals h2)
theorem each_reads {X : Cx} {pins : List (Addr × Obj)} {σ : L2.St} {H : Hp} {s : Shared} (I : L2.Inv X pins σ H s) : ∀ {bs : List (V × PyData)} {us : List Value}, Vals (bs.map Prod.fst) us → (∀ b ∈ bs, Dp X.K H b.1 b.2) → PySem.W.EachIs (fun v (b : V × PyData) => ∃ as, Reads s.heap v b.2 as) us bs
  | [], _, .nil, _ => PySem.W.EachIs.nil
  | b :: bs, _, .cons e r, h => PySem.W.EachIs.cons (Dp.reads I b.2 b.1 _ (h b List.mem_cons_self) e) (each_reads I r fun c hc => h c (List.mem_cons_of_mem _ hc))
theorem cr_sortedD {X : Cx} (hu : X.A.units + 64 < cLine) : CallR X (.builtin "sorted") (rSortD X.K) := by
  intro pins s σ H vs us Q I r h
  obtain ⟨a, bs, rfl, hs, hd, hal, hk, hdp, q⟩ := h
  obtain ⟨u, rfl, rx⟩ := vals1 r
  cases rx
  obtain ⟨its, rv, hl, hz⟩ := I.list hs
  rw [List.length_map] at hz
  refine PySem.W.sorted_data (enc := Prod.snd) hl.isList (vals_each rv) (each_reads I rv hd) hal hk hz (fun b hb => by have := hdp b hb; omega) fun out hlen he => ?_
  obtain ⟨c, hc⟩ := sortedAll_at s.heap its out.toArray
  have hz2 : ((bs.mergeSort (PySem.W.dataLe false Prod.snd)).map Prod.fst).length ≤ sizeLine := by rw [List.length_map, List.length_mergeSort]; exact hz
  exact ⟨.ref (s.heap.objs.size + 1), _, I.laid (t' := s.toks) (fun b o e => sortedAll_old e) (Nat.le_succ _) (show ObjOk X.prog X.w _ _ _ (.lst ((bs.mergeSort (PySem.W.dataLe false Prod.snd)).map Prod.fst)) from ⟨hz2, out, c, each_vals he, hc⟩), rfl, q _ (I.hok.fresh (Nat.le_succ _))⟩
end MN
/-! sets of keys (ints and texts): set(x), sorted(set), len(set); x in an instance by its own __contains__ -/
namespace MN
open PySem PySem.Spec PyProof.Rows L2
section
variable {P : Program} {w : World} {A : Around} {E : Value → Shared → Prop} {s : Shared} {KT : Type} [DecidableEq KT] {knd : PySem.KeyKind P w KT} {a : Addr} {o : Obj} {es : Array (Int × Value)} {ep : Nat} {t : SetTable}
/-- laid and perhaps laid anew -/
theorem tail_raw {gv : Bool → Sem Unit} (hgv : ∀ (b : Bool) (z : Shared) (Q' : Unit → Shared → Prop), Q' () z → wpAny (model P w) A (gv b) Q' E z) (ho : s.heap.get? a = some o) (hd : o.data = .set es ep t)
    {fs : Array (Int × Value)} {u : SetTable} (hb : fs.size < scanBound) (hf : u.fits fs.size = true) (hr : Ris u.place.toList) {dm : Bool} {R : Option Bool → Shared → Prop}
    (hR : ∀ h' gs e' v, Heap.SameBut a s.heap h' → h'.get? a = some { o with data := .set gs e' v } → gs.toList.Perm fs.toList → v.fits gs.size = true → Ris v.place.toList → v.led = u.led → R (some true) { s with heap := h' }) :
    wpAny (model P w) A (storeSet a fs u >>= fun _ => if (!dm && u.tooFull) = true then (gv (relayAll u fs (SetTable.grown fs.size)).2.2 >>= fun _ => storeSet a (relayAll u fs (SetTable.grown fs.size)).1 (relayAll u fs (SetTable.grown fs.size)).2.1 >>= fun _ => pure (some true)) else pure (some true)) R E s := by
  refine wpAny_bind (wpAny_storeSet_of ho hd ?_ (fits_of_scanBound hb))
  have o1 := store_at (es' := fs) (t' := u) ho hd
  have b1 := Heap.SameBut.update s.heap a (Obj.putSet fs u)
  split
  · have q1 := relayAll_perm u fs (SetTable.grown fs.size)
    have q2 := relayAll_fits u fs (SetTable.grown fs.size)
    have q3 := relayAll_ris u fs (SetTable.grown fs.size)
    have q4 := relayAll_led u fs (SetTable.grown fs.size)
    generalize relayAll u fs (SetTable.grown fs.size) = Z at q1 q2 q3 q4 ⊢
    obtain ⟨gs, v, gave⟩ := Z
    dsimp only at q1 q2 q3 q4 ⊢
    have hz : gs.size < scanBound := by rw [← Array.length_toList, q1.length_eq, Array.length_toList]; exact hb
    refine wpAny_bind (hgv _ _ _ (wpAny_bind (wpAny_storeSet_of o1 rfl ?_ (fits_of_scanBound hz))))
    have o2 := store_at (es' := gs) (t' := v) o1 rfl
    exact wpAny_pure (hR _ gs _ v (b1.trans (Heap.SameBut.update _ a _)) o2 q1 q2 q3 q4)
  · exact wpAny_pure (hR _ fs _ u b1 o1 (List.Perm.refl _) hf hr rfl)
theorem add_raw {k : KT} {x : Value} {Q : Bool → Shared → Prop} (hkey : knd.is k x = true) (hsc : x.scannable = true) (ho : s.heap.get? a = some o) (hd : o.data = .set es ep t) (hel : ElemsOf knd es.toList) (hb : es.size + 1 < scanBound) (hf : t.fits es.size = true) (hr : Ris t.place.toList)
    (q1 : (∃ e ∈ es.toList, knd.is k e.2 = true) → Q false s)
    (q2 : (∀ e ∈ es.toList, knd.is k e.2 = false) → ∀ h' gs e' v, Heap.SameBut a s.heap h' → h'.get? a = some { o with data := .set gs e' v } → gs.toList.Perm ((knd.hash k, x) :: es.toList) → v.fits gs.size = true → Ris v.place.toList → v.led = t.led → Q true { s with heap := h' }) :
    wpAny (model P w) A (setAddHashed a x (knd.hash k)) Q E s := by
  have hb0 : es.size < scanBound := by omega
  unfold setAddHashed setAddHashedIn
  refine wpAny_holding (wpAny_bind (wpAny_setState_of ho hd hf ?_))
  dsimp only
  rw [byScan_of hsc hb0 hel, if_pos rfl]
  unfold setAddByScan
  refine wpAny_bind (wpAny_bind (wpAny_rule (wpAny_bind (wpAny_setScan_of hkey ho hd hf hel ?_))))
  cases hfi : List.findIdx? (fun e => knd.is k e.2) es.toList with
  | some j =>
    obtain ⟨hj, pj, _⟩ := List.findIdx?_eq_some_iff_getElem.mp hfi
    exact wpAny_pure (wpAny_pure (q1 ⟨_, List.getElem_mem hj, pj⟩))
  | none =>
    have hno : ∀ e ∈ es.toList, knd.is k e.2 = false := fun e he => by simpa using List.findIdx?_eq_none_iff.mp hfi e he
    have p1 := layNew_perm t es (knd.hash k) x
    have p2 := layNew_fits t es (knd.hash k) x
    have p3 := layNew_ris t es (knd.hash k) x hr
    have p4 := layNew_led t es (knd.hash k) x
    dsimp only
    generalize layNew t es (knd.hash k) x = Z at p1 p2 p3 p4 ⊢
    obtain ⟨fs, u, dm, gave⟩ := Z
    dsimp only at p1 p2 p3 p4 ⊢
    rw [Array.toList_push] at p1
    have pc : fs.toList.Perm ((knd.hash k, x) :: es.toList) := p1.trans (List.perm_append_singleton _ _)
    have hz : fs.size < scanBound := by rw [← Array.length_toList, pc.length_eq, List.length_cons, Array.length_toList]; exact hb
    have gw : ∀ (b : Bool) (z : Shared) (Q' : Unit → Shared → Prop), Q' () z → wpAny (model P w) A (match b with | true => rule "set.scan.the-table-gave-way" | false => pure ()) Q' E z := fun b z Q' q => by
      cases b
      · exact wpAny_pure q
      · exact wpAny_rule q
    refine wpAny_bind (gw _ _ _ ?_)
    split
    · refine wpAny_bind ?_
      rw [hashByValue_scannable 8 hsc]
      refine wpAny_pure (tail_raw gw ho hd hz ?_ ?_ fun h' gs e' v c1 c2 c3 c4 c5 c6 => wpAny_pure (q2 hno h' gs e' v c1 c2 (c3.trans pc) c4 c5 ?_))
      · split
        · exact p2
        · exact SetTable.fits_plain_off p2
      · split <;> exact p3
      · rw [c6]; split <;> exact p4
    · refine wpAny_bind (wpAny_pure ?_)
      simp only [↓reduceIte]
      exact tail_raw gw ho hd hz p2 p3 fun h' gs e' v c1 c2 c3 c4 c5 c6 => wpAny_pure (q2 hno h' gs e' v c1 c2 (c3.trans pc) c4 c5 (c6.trans p4))
end
/-! ### a set of keys -/
def kOf (e : Int × Value) : Key := match e.2 with | .int i _ => .inl i | .str z _ => .inr z | _ => .inl 0
def GoodK (P : Program) (w : World) (e : Int × Value) : Prop := (mixKind P w).is (kOf e) e.2 = true ∧ e.1 = (mixKind P w).hash (kOf e) ∧ e.2.scannable = true
def SetX (P : Program) (w : World) (h : Heap) (a : Addr) (ks : List Key) : Prop := ∃ o es ep t, h.get? a = some o ∧ o.ExactSet ∧ o.data = .set es ep t ∧ (∀ e ∈ es.toList, GoodK P w e) ∧ (es.toList.map kOf).Perm ks ∧ ks.Nodup ∧ es.size < scanBound ∧ t.fits es.size = true ∧ Ris t.place.toList ∧
  (w.params.followText "set-order" = true ∨ t.led = true)
section
variable {P : Program} {w : World} {A : Around} {E : Value → Shared → Prop} {s : Shared} {a : Addr} {ks : List Key}
theorem SetX.at {h h' : Heap} (R : SetX P w h a ks) (k : ∀ o, h.get? a = some o → h'.get? a = some o) : SetX P w h' a ks := by
  obtain ⟨o, es, ep, t, ho, r⟩ := R
  exact ⟨o, es, ep, t, k o ho, r⟩
theorem keyIs_kOf {k : Key} {x : Value} {h : Int} (hk : (mixKind P w).is k x = true) : kOf (h, x) = k := by
  rcases keyIs_shape hk with ⟨i, u, rfl, rfl⟩ | ⟨z, u, rfl, rfl⟩ <;> rfl
theorem goodK_el {l : List (Int × Value)} (g : ∀ e ∈ l, GoodK P w e) : ElemsOf (mixKind P w) l := fun e he => ⟨⟨kOf e, (g e he).1, (g e he).2.1⟩, (g e he).2.2⟩
theorem key_scan' {k : Key} {x : Value} (hk : (mixKind P w).is k x = true) : x.scannable = true := by
  rcases keyIs_shape hk with ⟨i, u, rfl, rfl⟩ | ⟨z, u, rfl, rfl⟩ <;> rfl
theorem SetX.len {h : Heap} (R : SetX P w h a ks) : ∃ o es ep t, h.get? a = some o ∧ o.ExactSet ∧ o.data = .set es ep t ∧ t.fits es.size = true ∧ es.size = ks.length := by
  obtain ⟨o, es, ep, t, ho, hx, hd, g, pm, nd, hb, hf, hr, hl⟩ := R
  exact ⟨o, es, ep, t, ho, hx, hd, hf, by rw [← pm.length_eq, List.length_map, Array.length_toList]⟩
theorem setX_add {k : Key} {x : Value} {Q : Bool → Shared → Prop} (hk : (mixKind P w).is k x = true) (R : SetX P w s.heap a ks) (hb1 : ks.length + 1 < scanBound)
    (hQ : ∀ h' us b, Heap.SameBut a s.heap h' → SetX P w h' a us → us.length ≤ ks.length + 1 → (∀ j, j ∈ us ↔ j ∈ ks ∨ j = k) → Q b { s with heap := h' }) : wpAny (model P w) A (setAddHashed a x ((mixKind P w).hash k)) Q E s := by
  obtain ⟨o, es, ep, t, ho, hx, hd, g, pm, nd, hb, hf, hr, hl⟩ := R
  have hz : es.size = ks.length := by rw [← pm.length_eq, List.length_map, Array.length_toList]
  refine add_raw hk (key_scan' hk) ho hd (goodK_el g) (by omega) hf hr (fun ⟨e, he, q⟩ => ?_) fun hno h' gs e' v c1 c2 c3 c4 c5 c6 => ?_
  · have hin : k ∈ ks := by
      rw [← pm.mem_iff, List.mem_map]
      exact ⟨e, he, (mixKind P w).inj _ _ _ (g e he).1 q⟩
    have z : s = { s with heap := s.heap } := by cases s; rfl
    rw [z]
    exact hQ s.heap ks false (Heap.SameBut.refl a _) ⟨o, es, ep, t, ho, hx, hd, g, pm, nd, hb, hf, hr, hl⟩ (Nat.le_succ _) fun j => ⟨.inl, fun q => q.elim id fun e => e ▸ hin⟩
  · have pk : (gs.toList.map kOf).Perm (k :: es.toList.map kOf) := by
      have q := c3.map kOf
      rw [List.map_cons, keyIs_kOf hk] at q
      exact q
    have hn : k ∉ ks := fun hm => by
      rw [← pm.mem_iff, List.mem_map] at hm
      obtain ⟨e, he, q⟩ := hm
      have c := hno e he
      rw [← q, (g e he).1] at c
      cases c
    have lg : gs.size = ks.length + 1 := by rw [← Array.length_toList, c3.length_eq, List.length_cons, Array.length_toList, hz]
    refine hQ h' (k :: ks) true c1 ⟨_, gs, e', v, c2, hx, rfl, fun e he => ?_, pk.trans (pm.cons k), List.nodup_cons.mpr ⟨hn, nd⟩, by omega, c4, c5, hl.imp id fun z => c6.trans z⟩ (Nat.le_refl _) fun j => by rw [List.mem_cons]; exact Or.comm
    rcases List.mem_cons.mp (c3.mem_iff.mp he) with rfl | he
    · refine ⟨?_, ?_, key_scan' hk⟩
      · rw [keyIs_kOf hk]; exact hk
      · rw [keyIs_kOf hk]
    · exact g e he
theorem setX_fresh {h : Heap} (ho : h.get? a = some { cls := .type "set", dict := none, data := .set #[] 0 (.fresh 0 0 (!w.params.followText "set-order")) }) : SetX P w h a [] :=
  ⟨_, #[], 0, _, ho, ⟨rfl, rfl, rfl⟩, rfl, fun e he => by simp at he, by simp, List.nodup_nil, by decide, by rfl, List.Pairwise.nil, by
    show _ ∨ (!w.params.followText "set-order") = true
    cases w.params.followText "set-order"
    · exact .inr rfl
    · exact .inl rfl⟩
theorem setX_loop {I : Addr} {fp wr : List Addr} {G : Array GenState → Array GenState → Prop} {n : Nat} {Pv : Nat → Value → Prop} {St : Nat → Shared → Prop} {R : Result → Shared → Prop}
    (W : WalksS P w A.in1 I fp wr G n Pv St) (S : Addr) (hSf : S ∉ fp) (vs : List Key) (hn : n = vs.length) (hb : vs.length + 1 < scanBound) (hval : ∀ i v, Pv i v → ∃ k, vs[i]? = some k ∧ (mixKind P w).is k v = true) :
    ∀ (m i : Nat) (s : Shared), n - i = m → i ≤ n → St i s → (∃ us, SetX P w s.heap S us ∧ us.length ≤ i ∧ ∀ j, j ∈ us ↔ j ∈ vs.take i) →
      (∀ z us, Moved (S :: wr) G s z → SetX P w z.heap S us → us.length ≤ n → (∀ j, j ∈ us ↔ j ∈ vs) → R (.ok (.ret .none)) z) → codeAny (model P w) A (.builtin "set.update.loop" ⟨[.ref S, .ref I], []⟩) R s := by
  have nw : S ∉ wr := fun q => hSf (W.sub _ q)
  have sb : ∀ b ∈ wr, b ∈ S :: wr := fun b q => List.mem_cons_of_mem _ q
  intro m
  induction m with
  | zero =>
    intro i s e1 e2 st ⟨us, hS, ul, hm⟩ hR
    obtain rfl : i = n := by omega
    refine codeAny_builtin F.entry_set_update_loop ?_
    rw [Around.under_plainId F.plain_set_update_loop _]
    refine wpAny_bind (m := pyNext (.ref I)) (W.done s _ _ st fun z mv => wpAny_pure (hR z us (mv.mono sb) (hS.at fun u q => mv.heap S _ nw q) ul fun j => ?_))
    rw [hm j, hn, List.take_length]
  | succ m ih =>
    intro i s e1 e2 st ⟨us, hS, ul, hm⟩ hR
    have hlt : i < n := by omega
    refine codeAny_builtin F.entry_set_update_loop ?_
    rw [Around.under_plainId F.plain_set_update_loop _]
    refine wpAny_bind (m := pyNext (.ref I)) (W.item i s _ _ hlt st fun v z hP st2 mv => ?_)
    obtain ⟨k, hk1, hk2⟩ := hval i v hP
    have hS2 : SetX P w z.heap S us := hS.at fun u q => mv.heap S _ nw q
    show wpAny _ A.in1 (holding [v] (setAdd S v) >>= _) _ _ z
    refine wpAny_bind (wpAny_holding ?_)
    unfold setAdd
    refine wpAny_holding (wpAny_bind ((mixKind P w).pyHash hk2 ?_))
    refine setX_add (s := { z with toks := z.toks + 1 }) hk2 hS2 (by omega) fun h' us' b c1 c2 c3 c4 => ?_
    refine wpAny_pure ⟨plainId_quiet F.plain_set_update_loop _, ih (i + 1) _ (by omega) hlt (W.frame _ z _ _ st2 (Nat.le_succ _) fun b hb u q => ?_) ⟨us', c2, by omega, fun j => ?_⟩ fun z2 us2 mv2 => ?_⟩
    · rw [c1.2 b (fun e : b = S => hSf (by rw [← e]; exact hb))]; exact q
    · rw [c4 j, hm j, List.take_add_one, hk1, List.mem_append]
      simp
    · refine hR z2 us2 (Moved.trans W.gtrans ((mv.mono sb).then_heap (Nat.le_succ _) fun b u hb q => ?_) mv2)
      rw [c1.2 b (fun e : b = S => hb (by rw [e]; exact List.mem_cons_self))]; exact q
end
end MN
/-! set(x) of keys, sorted(set), in by an own __contains__ -/
namespace MN
open PySem PySem.Spec PyProof.Rows L2
section
variable {P : Program} {w : World} {A : Around} {E : Value → Shared → Prop} {s : Shared}
abbrev setO0 (w : World) : Obj := { cls := .type "set", dict := none, data := .set #[] 0 (.fresh 0 0 (!w.params.followText "set-order")) }
/-- what is walked gives the keys vs -/
def Gives (P : Program) (w : World) (s : Shared) (x : Value) (vs : List Key) : Prop := ∀ (z : Shared) (A' : Around) (E' : Value → Shared → Prop) (Q' : Value → Shared → Prop), (∀ b o, s.heap.get? b = some o → z.heap.get? b = some o) →
  (∀ (ob : Obj) (fp : List Addr) (Pv : Nat → Value → Prop) (St : Nat → Heap → Prop), (∀ A2 : Around, A2.handled = none → Walks P w A2 z.heap.objs.size fp [z.heap.objs.size] vs.length Pv St) → (∀ b ∈ fp, b = z.heap.objs.size ∨ b < s.heap.objs.size) → St 0 (z.heap.push ob) →
    (∀ i v, Pv i v → ∃ k, vs[i]? = some k ∧ (mixKind P w).is k v = true) → Q' (.ref z.heap.objs.size) { z with heap := z.heap.push ob }) → wpAny (model P w) A' (pyIter x) Q' E' z
set_option maxRecDepth 100000 in
set_option maxHeartbeats 3200000 in
theorem set_of_any {x : Value} {T : String} (vs : List Key) {Q : Value → Shared → Prop} (hh : A.handled = none) (hT : ∀ z : Shared, (∀ b o, s.heap.get? b = some o → z.heap.get? b = some o) → z.TypeIs x T) (hs1 : isSubtype (.type T) (.type "set") = pure false) (hs2 : isSubtype (.type T) (.type "frozenset") = pure false) (hs3 : (Value.type T == Value.type "dict") = false)
    (hb : vs.length + 1 < scanBound) (hg : Gives P w s x vs)
    (h : ∀ (h' : Heap) (tk : Nat) (us : List Key), SetX P w h' s.heap.objs.size us → us.length ≤ vs.length → (∀ j, j ∈ us ↔ j ∈ vs) → (∀ b o, s.heap.get? b = some o → h'.get? b = some o) → Q (.ref s.heap.objs.size) { s with heap := h', toks := tk }) :
    wpAny (model P w) A (call (.type "set") [x]) Q E s := by
  obtain ⟨c, tl, hmro⟩ := F.called_set.mro
  have hmade := F.called_set.made
  have hsub := F.called_set.sub
  refine wpAny_call (codeAny_of_tree ?_)
  refine wpAny_pure ⟨Code.quiet_builtin _ (by decide +kernel), codeAny_builtin F.entry_type_call ?_⟩
  rw [Around.under_plain (weight_type_call_type "set" [x] []) rfl]
  have h1 := F.called_set.notType
  have h2 := F.called_set.canCreate
  have hct := F.typeCall_set_1 x
  repeat (any_goals (first | assumption | wp_step))
  refine codeAny_mono (code_set_led1 x (E := E) (Q₁ := fun obj z => obj = .ref s.heap.objs.size ∧ z = { s with heap := s.heap.push (setO0 w) }) ⟨rfl, rfl⟩) fun r z hr => ?_
  cases r with
  | error e => exact hr
  | ok fl =>
    cases fl with
    | ret obj =>
      obtain ⟨rfl, rfl⟩ := hr
      have hS : (s.heap.push (setO0 w)).get? s.heap.objs.size = some (setO0 w) := Heap.get?_push_size _ rfl
      have hT0 : Shared.TypeIs { s with heap := s.heap.push (setO0 w) } (.ref s.heap.objs.size) "set" := ⟨_, hS, rfl⟩
      have hli := F.called_set.init.lookup
      have hbi := F.called_set.init.bind (.ref s.heap.objs.size)
      repeat (any_goals (first | assumption | wp_step))
      refine codeAny_mono (codeAny_call_builtin (R := wants (fun r z2 => r = .none ∧ ∃ h' tk us, z2 = { s with heap := h', toks := tk } ∧ SetX P w h' s.heap.objs.size us ∧ us.length ≤ vs.length ∧ (∀ j, j ∈ us ↔ j ∈ vs) ∧
          (∀ b o, s.heap.get? b = some o → h'.get? b = some o)) E) F.called_set.init.plain F.entry_set_init (check_set_init_1 hT0 ?_)) fun r2 z2 hr2 => ?_
      · have hTx : Shared.TypeIs { s with heap := s.heap.push (setO0 w) } x T := hT _ fun b o e => Heap.get?_push_of_some _ e
        have hgx := hg { s with heap := s.heap.push (setO0 w) }
        unfold Builtin.«set.__init__» noKeywords Builtin.Frozenset.updateFrom
        generalize hPI : pyIter = PI at hgx ⊢
        wp_walk
        subst hPI
        refine hgx _ _ _ (fun b o e => Heap.get?_push_of_some _ e) fun ob fp Pv St hW hfp hst hval => ?_
        refine wpAny_bind (wpAny_runValue ?_)
        have hh3 : A.in1.in1.in1.handled = none := by simp [hh]
        have hSf : s.heap.objs.size ∉ fp := fun q => by
          have z : (s.heap.push (setO0 w)).objs.size = s.heap.objs.size + 1 := Heap.size_push ..
          rcases hfp _ q with e | e
          · rw [z] at e; exact absurd e (Nat.ne_of_lt (Nat.lt_succ_self _))
          · exact absurd e (Nat.lt_irrefl _)
        have h0 : ((s.heap.push (setO0 w)).push ob).get? s.heap.objs.size = some (setO0 w) := Heap.get?_push_of_some _ hS
        refine setX_loop ((hW _ hh3).toS) s.heap.objs.size hSf vs rfl hb hval (vs.length - 0) 0 _ (by omega) (Nat.zero_le _) hst ⟨[], setX_fresh h0, Nat.le_refl _, fun j => by simp⟩ fun z us mv hX hl hm => ?_
        obtain ⟨h', g2, d', tk', os'⟩ := z
        have eg : g2 = s.gens := mv.gens
        have ed : d' = s.drawn := mv.drawn
        have eo : os' = s.os := mv.os
        subst eg ed eo
        refine wpAny_pure (wpAny_pure ⟨rfl, h', tk', us, rfl, hX, hl, hm, fun b o e => ?_⟩)
        have hb0 : b < s.heap.objs.size := Heap.lt_size e
        refine mv.heap b o (fun q => ?_) (Heap.get?_push_of_some _ (Heap.get?_push_of_some _ e))
        rcases List.mem_cons.mp q with e1 | q
        · rw [e1] at hb0; exact absurd hb0 (Nat.lt_irrefl _)
        · have e1 := List.mem_singleton.mp q
          have z : (s.heap.push (setO0 w)).objs.size = s.heap.objs.size + 1 := Heap.size_push ..
          rw [e1, z] at hb0
          exact absurd hb0 (Nat.not_lt_of_le (Nat.le_succ _))
      · cases r2 with
        | error e => exact hr2
        | ok fl2 =>
          cases fl2 with
          | ret r =>
            obtain ⟨rfl, h', tk, us, rfl, c1, c2, c3, c4⟩ := hr2
            repeat (any_goals (first | assumption | wp_step))
            exact h _ _ _ c1 c2 c3 c4
          | _ => exact hr2.elim
    | _ => exact hr.elim
end
end MN
/-! sorted(set) of texts; set(x), sorted(set) over the layer; in by an own __contains__ -/
namespace MN
open PySem PySem.Spec PyProof.Rows L2
section
variable {P : Program} {w : World} {A : Around} {E : Value → Shared → Prop} {s : Shared}
/-- sorted(set) of texts -/
theorem strs_of_keys : ∀ (l : List Value) (ks : List Key) (zs : List Str), l.map (fun v => kOf (0, v)) = ks → ks = zs.map Sum.inr → (∀ v ∈ l, ∃ k, (mixKind P w).is k v = true) → StrsAre l zs
  | [], _, [], _, _, _ => .nil
  | [], _, _ :: _, e1, e2, _ => by rw [← e1] at e2; cases e2
  | _ :: _, _, [], e1, e2, _ => by rw [← e1] at e2; cases e2
  | v :: l, _, z :: zs, e1, e2, h => by
    subst e1
    injection e2 with e3 e4
    obtain ⟨k, hk⟩ := h v List.mem_cons_self
    have e3' : kOf (0, v) = Sum.inr z := e3
    rw [keyIs_kOf hk] at e3'
    clear e3
    subst e3'
    rcases keyIs_shape (show keyIs (Sum.inr z) v = true from hk) with ⟨i, u, e, _⟩ | ⟨z', u, e, rfl⟩
    · cases e
    · cases e
      exact .cons _ _ (strs_of_keys l _ zs rfl e4 fun v hv => h v (List.mem_cons_of_mem _ hv))
theorem map_inr : ∀ (ks : List Key) (zs : List Str), (∀ k ∈ ks, ∃ z, k = Sum.inr z ∧ z ∈ zs) → ∃ ys : List Str, ks = ys.map Sum.inr
  | [], _, _ => ⟨[], rfl⟩
  | k :: ks, zs, h => by
    obtain ⟨z, rfl, _⟩ := h k List.mem_cons_self
    obtain ⟨ys, e⟩ := map_inr ks zs fun k hk => h k (List.mem_cons_of_mem _ hk)
    exact ⟨z :: ys, by rw [e]; rfl⟩
theorem sorted_setX {a : Addr} {ks : List Key} {zs : List Str} {Q : Value → Shared → Prop} (R : SetX P w s.heap a ks) (e : ks = zs.map Sum.inr) (hh : A.handled = none) (h64 : zs.length < 64)
    (hQ : ∀ (z : Shared) (p : Addr) (out : Array Value) (c : Nat) (ys : List Str), (∀ b o, s.heap.get? b = some o → z.heap.get? b = some o) → z.gens = s.gens → z.os = s.os → s.heap.objs.size ≤ p → z.heap.get? p = some (seqObj "list" out c) → StrsAre out.toList ys → ys.Perm zs → sortedS ys = true → Q (.ref p) z) :
    wpAny (model P w) A (call (.builtin "sorted") [.ref a]) Q E s := by
  obtain ⟨o, es, ep, t, ho, hx, hd, g, pm, nd, hb, hf, hr, hl⟩ := R
  refine Calls.call_function_entry kind_sorted plain_sorted entry_sorted (args_sorted1 _) ?_
  unfold Builtin.«sorted»
  refine wpAny_bind (m := checkCount "sorted" 1 1 _) (wpAny_pure (wpAny_bind (collect_set (A := A.in1) hh ⟨o, ho, hx.1, hd⟩ hf hb hr hl fun z vs k1 hz g1 o1 pv => ?_)))
  have pk : (vs.map fun v => kOf (0, v)).Perm ks := by
    have q := pv.map fun v => kOf (0, v)
    rw [List.map_map] at q
    exact q.trans pm
  obtain ⟨xs, ex⟩ := map_inr (vs.map fun v => kOf (0, v)) zs fun k hk => by
    have hk' := pk.mem_iff.mp hk
    rw [e] at hk'
    obtain ⟨y, hy, rfl⟩ := List.mem_map.mp hk'
    exact ⟨y, rfl, hy⟩
  have px : xs.Perm zs := by
    rw [ex, e] at pk
    have q := pk.map fun k : Key => match k with | .inr z => z | .inl _ => Str.empty
    rw [List.map_map, List.map_map] at q
    have i : ((fun k : Key => match k with | .inr z => z | .inl _ => Str.empty) ∘ Sum.inr) = (id : Str → Str) := rfl
    rw [i, List.map_id, List.map_id] at q
    exact q
  have hS : StrsAre vs xs := strs_of_keys (P := P) (w := w) vs _ xs rfl ex fun v hv => by
    obtain ⟨e0, he0, rfl⟩ := List.mem_map.mp (pv.mem_iff.mp hv)
    exact ⟨_, (g e0 he0).1⟩
  have hvl : vs.length = zs.length := by
    have q := pk.length_eq
    rw [List.length_map, e, List.length_map] at q
    exact q
  refine wpAny_bind (wpAny_newList ?_ (by rw [hvl, sizeLine_eq]; omega))
  have hoL : (z.heap.push (seqObj "list" vs.toArray 0)).get? z.heap.objs.size = some (seqObj "list" vs.toArray 0) := Heap.get?_push_size _ rfl
  refine wpAny_bind (wpAny_holding (wpAny_call_entry slot_list_sort ⟨_, hoL, rfl⟩ entry_list_sort (list_sort_treeK strKind_oneLt hoL hS.keysOf (fun v1 v2 rest q => keyKind_strs (by rw [← q]; exact hS)) (by rw [hvl]; exact h64) fun st hp hs => ⟨_, rfl, ?_⟩) (args_list_sort _)))
  obtain ⟨ys, y1, y2, y3⟩ := sorted_out_str hS hp hs
  obtain ⟨c, hc⟩ := sortedHeap_at (vs := vs) (out := (arrOf st).map (·.2)) hoL
  refine wpAny_pure ⟨_, rfl, hQ _ z.heap.objs.size _ c ys (fun b u q => ?_) g1 o1 hz hc y1 (y2.trans px) y3⟩
  have q1 := k1 b u q
  have lt := Heap.lt_size q1
  show (sortedHeap (z.heap.push (seqObj "list" vs.toArray 0)) z.heap.objs.size vs _).get? b = some u
  rw [sortedHeap_old (Nat.ne_of_lt lt) (by rw [size_push']; exact Nat.lt_succ_of_lt lt)]
  exact Heap.get?_push_of_some _ q1
end
/-! ### over the layer -/
def SetXO (P : Program) (w : World) (a : Addr) (ks : List Key) : HO := .ext fun h => SetX P w h a ks
theorem setXO_new {w : World} {P : Program} {H : Hp} {h : Heap} {a : Addr} {ks : List Key} (R : SetX P w h a ks) : ObjOk P w H h a (SetXO P w a ks) := by
  have ⟨o, _, _, _, ho, _⟩ := R
  exact ⟨R, ⟨o, ho⟩, fun h1 h2 p k => SetX.at p k⟩
section
variable {X : Cx} {pins : List (Addr × Obj)} {σ : L2.St} {H : Hp} {s : Shared}
theorem setXO_get {a : Addr} {ks : List Key} (I : L2.Inv X pins σ H s) (ha : H a = some (SetXO X.prog X.w a ks)) : SetX X.prog X.w s.heap a ks := (I.hok a _ ha).1
def signKeys (z : Str) : List Key := z.cps.toList.map fun c => Sum.inr ⟨#[c]⟩
theorem gives_str (z : Str) (t : Tok) : Gives X.prog X.w s (.str z t) (signKeys z) := by
  intro z2 A' E' Q' hk hQ
  refine wpAny_pyIter_str fun o St hW hst => hQ o _ (SignAt z) St (fun A2 h2 => ?_) (fun b hb => .inl (List.mem_singleton.mp hb)) hst fun i v ⟨c, u, h1, h2⟩ => ⟨Sum.inr ⟨#[c]⟩, ?_, ?_⟩
  · have e : (signKeys z).length = z.cps.size := by simp [signKeys]
    rw [e]
    exact hW A2 h2
  · simp [signKeys, h1]
  · subst h2
    exact keyIs_str _ u
theorem gives_list {l : Addr} {ks : List Key} (I : L2.Inv X pins σ H s) (hl : SqL X.K H l (ks.map kV)) : Gives X.prog X.w s (.ref l) ks := by
  obtain ⟨its, rv, pl, _⟩ := I.list hl
  intro z2 A' E' Q' hk hQ
  obtain ⟨ol, hol, hcl, nl, hdl⟩ := pl.isList
  have lt : l < s.heap.objs.size := Heap.lt_size hol
  have lz : l < z2.heap.objs.size := Heap.lt_size (hk _ _ hol)
  have pl2 : z2.heap.IsList l its.toArray := ⟨ol, hk _ _ hol, hcl, nl, hdl⟩
  have e : its.toArray.size = ks.length := by have := rv.length; simp at this ⊢; omega
  refine wpAny_pyIter_list pl2 (hQ _ [z2.heap.objs.size, l] (fun i v => its.toArray[i]? = some v) _ (fun A2 h2 => e ▸ Walks.list h2 _ l (Nat.ne_of_lt lz) its.toArray) (fun b hb => ?_) ⟨⟨_, Heap.get?_push_size _ rfl, rfl, rfl⟩, pl2.push _⟩ fun i v hv => ?_)
  · rcases List.mem_cons.mp hb with e | hb
    · exact .inl e
    · exact .inr (by rw [List.mem_singleton.mp hb]; exact lt)
  · have hv' : its[i]? = some v := by simpa using hv
    have hi : i < ks.length := by
      have h1 := (List.getElem?_eq_some_iff.mp hv').1
      have h2 := rv.length
      rw [List.length_map] at h2
      omega
    obtain ⟨u, h1, r⟩ := Vals.get (x := kV ks[i]) rv (by rw [List.getElem?_map, List.getElem?_eq_getElem hi]; rfl)
    rw [hv'] at h1
    cases h1
    refine ⟨ks[i], List.getElem?_eq_getElem hi, ?_⟩
    show keyIs ks[i] v = true
    cases e2 : ks[i] with
    | inl n =>
      rw [e2] at r
      obtain ⟨t, rfl⟩ := (show ∃ t, v = Value.int n t from r)
      exact keyIs_int _ _
    | inr z =>
      rw [e2] at r
      obtain ⟨t, rfl⟩ := (show ∃ t, v = Value.str z t from r)
      exact keyIs_str _ _
end
/-- what set(x) takes: a text, or a list of keys -/
def KeysIn (K : PySem.W.Frag) (H : Hp) (x : V) (ks : List Key) : Prop := (∃ z : Str, x = .str z ∧ ks = signKeys z) ∨ ∃ l, x = .ref l ∧ SqL K H l (ks.map kV)
section
variable {X : Cx}
theorem cr_setX (hc : X.calm = true) : CallR X (.type "set") (fun vs H Q => ∃ x ks, vs = [x] ∧ KeysIn X.K H x ks ∧ ks.length ≤ 4000 ∧ ∀ p us, us.Nodup → us.length ≤ ks.length → (∀ j, j ∈ us ↔ j ∈ ks) → H p = none → Q (.ref p) (upd H p (SetXO X.prog X.w p us))) := by
  intro pins s σ H vs us Q I r h
  obtain ⟨x, ks, rfl, hx, hl, q⟩ := h
  obtain ⟨u, rfl, ru⟩ := vals1 r
  have hb : ks.length + 1 < scanBound := by unfold scanBound; omega
  have go : ∀ (h' : Heap) (tk : Nat) (us : List Key), SetX X.prog X.w h' s.heap.objs.size us → us.length ≤ ks.length → (∀ j, j ∈ us ↔ j ∈ ks) → (∀ b o, s.heap.get? b = some o → h'.get? b = some o) → EP X pins σ Q (.ref s.heap.objs.size) { s with heap := h', toks := tk } := fun h' tk us c1 c2 c3 c4 => by
    have nd : us.Nodup := by obtain ⟨_, _, _, _, _, _, _, _, _, nd, _⟩ := c1; exact nd
    exact ⟨.ref _, _, I.laid c4 (Nat.le_refl _) (setXO_new c1), rfl, q _ us nd c2 c3 (I.hok.fresh (Nat.le_refl _))⟩
  rcases hx with ⟨z, rfl, rfl⟩ | ⟨l, rfl, hl2⟩
  · obtain ⟨t, rfl⟩ := (show ∃ t, u = Value.str z t from ru)
    exact set_of_any (signKeys z) (I.ok.hd hc) (fun z2 _ => typeIs_str _ _ _) F.sub_str_set F.sub_str_frozenset (by decide) hb (gives_str z t) go
  · cases (show u = Value.ref l from ru)
    obtain ⟨its, rv, pl, _⟩ := I.list hl2
    obtain ⟨ol, hol, hcl, _⟩ := pl.isList
    exact set_of_any ks (I.ok.hd hc) (fun z2 k => ⟨ol, k _ _ hol, hcl⟩) F.sub_list_set F.sub_list_frozenset (by decide) hb (gives_list I hl2) go
theorem cr_sortedX (hc : X.calm = true) : CallR X (.builtin "sorted") (fun vs H Q => ∃ (a : Addr) (zs : List Str), vs = [.ref a] ∧ H a = some (SetXO X.prog X.w a (zs.map Sum.inr)) ∧ zs.length < 64 ∧ ∀ ys p, ys.Perm zs → sortedS ys = true → H p = none → Q (.ref p) (upd H p (.lst (ys.map V.str)))) := by
  intro pins s σ H vs us Q I r h
  obtain ⟨a, zs, rfl, ha, h64, q⟩ := h
  rw [Vals.ref1 r]
  refine sorted_setX (setXO_get I ha) rfl (I.ok.hd hc) h64 fun z p out c ys k g o hp hg hi hy hs => ?_
  have hlen : (ys.map V.str).length ≤ sizeLine := by rw [List.length_map, hy.length_eq, sizeLine_eq]; omega
  have hn : H p = none := I.hok.fresh hp
  have J : L2.Inv X pins σ (upd H p (.lst (ys.map V.str))) { s with heap := z.heap, gens := z.gens, drawn := z.drawn, toks := z.toks } :=
    I.call (ch := []) (Un.laid k hp hn) (I.hok.laid k hp ⟨hlen, out.toList, c, vals_of_strs hi, hg⟩) (by rw [g]; exact I.bare) (fun _ z => nomatch z)
  have e : z = { s with heap := z.heap, gens := z.gens, drawn := z.drawn, toks := z.toks } := by
    cases z
    cases s
    cases o
    rfl
  rw [e]
  exact ⟨.ref p, _, J, rfl, q ys p hy hs hn⟩
end
/-! ### in, not in by an own __contains__ -/
section
variable {prog : Program} {w : World} {A : Around} {E : Value → Shared → Prop} {s : Shared} {K : PySem.W.Frag} {x C f : Addr} {ox : Obj} {od : Option Obj}
theorem contains_own {y : Value} {Q : Bool → Shared → Prop} (X : K.In s.heap) (I : PySem.W.InstAt s.heap x ox C od) (hs : PySem.W.findIn K (.ref C) "__contains__" = some (some (.ref f))) (hf : PySem.W.isFn K (.ref f) = true)
    (h : wpAny (model prog w) A (call (.ref f) [.ref x, y]) (fun v z => ∃ b, v = .bool b ∧ Q b z) E s) : wpAny (model prog w) A (contains (.ref x) y) Q E s := by
  unfold contains
  refine wpAny_holding ?_
  have hst : stdlibNamesSay? (.ref x) y = none := rfl
  rw [hst]
  dsimp only
  refine wpAny_bind (m := specialOf (.ref x) (Str.ofString "__contains__")) (wpAny_bind (I.type.here ((PySem.W.looks_findIn X hs).here ?_)))
  rw [if_neg (by intro q; cases q)]
  refine wpAny_bind (m := callSpecialUnlessNone? (.ref x) (Str.ofString "__contains__") [y] _) ?_
  unfold callSpecialUnlessNone?
  refine wpAny_bind (m := specialOf (.ref x) (Str.ofString "__contains__")) (wpAny_bind (I.type.here ((PySem.W.looks_findIn X hs).here ?_)))
  refine wpAny_holding (wpAny_bind ((PySem.W.bind_fn X _ (beq_iff_eq.mp hf)).here ?_))
  dsimp only
  rw [if_neg (by intro q; cases q)]
  refine wpAny_bind (wpAny_mono h (fun v z q => wpAny_pure ?_) fun _ _ q => q)
  obtain ⟨b, rfl, q⟩ := q
  exact wpAny_truthy_bool q
end
section
variable {X : Cx} {CX : CXT} {n : Nat} {C g : Addr} {sp : Sp} {E : XK}
def rInOwn (C : Addr) (sp : Sp) (E : XK) (neg : Bool) : V → V → Hp → VK → Prop := fun y x H Q => ∃ a dx vs, x = V.ref a ∧ SlX.Slt H a C dx vs ∧ sp [.ref a, y] H (fun z H' => ∃ b, z = .bl b ∧ Q (.bl (if neg then !b else b)) H') E
theorem op_notInOwn (hs : PySem.W.findIn X.K (.ref C) "__contains__" = some (some (.ref g))) (hf : PySem.W.isFn X.K (.ref g) = true) (F : FnR X.prog X.w X.K X.mg X.base CX n g sp) (hr : Room n X.A) (hx : Passes CX X E) : OpR X (compareOp .NotIn) (rInOwn C sp E true) := by
  intro pins s σ H y x v u Q I ry rx h
  obtain ⟨a, dx, vs, rfl, ha, q⟩ := h
  cases (show u = Value.ref a from rx)
  obtain ⟨sl, od, _, J, _⟩ := SlX.slt_inst I ha
  refine wpAny_bind (m := contains (.ref a) v) (contains_own I.kIn J hs hf (wpAny_mono (wpAny_call (run_fnR (us := [.ref a, v]) (vs := [.ref a, y]) F hr hx I (.cons rfl (.cons ry .nil)) q)) (fun w s' z => ?_) fun _ _ x => x))
  obtain ⟨z', H', I', rz, b, rfl, qz⟩ := z
  cases (show w = Value.bool b from rz)
  exact ⟨b, rfl, wpAny_pure ⟨.bl (!b), H', I', rfl, qz⟩⟩
theorem op_inOwn (hs : PySem.W.findIn X.K (.ref C) "__contains__" = some (some (.ref g))) (hf : PySem.W.isFn X.K (.ref g) = true) (F : FnR X.prog X.w X.K X.mg X.base CX n g sp) (hr : Room n X.A) (hx : Passes CX X E) : OpR X (compareOp .In) (rInOwn C sp E false) := by
  intro pins s σ H y x v u Q I ry rx h
  obtain ⟨a, dx, vs, rfl, ha, q⟩ := h
  cases (show u = Value.ref a from rx)
  obtain ⟨sl, od, _, J, _⟩ := SlX.slt_inst I ha
  refine wpAny_bind (m := contains (.ref a) v) (contains_own I.kIn J hs hf (wpAny_mono (wpAny_call (run_fnR (us := [.ref a, v]) (vs := [.ref a, y]) F hr hx I (.cons rfl (.cons ry .nil)) q)) (fun w s' z => ?_) fun _ _ x => x))
  obtain ⟨z', H', I', rz, b, rfl, qz⟩ := z
  cases (show w = Value.bool b from rz)
  exact ⟨b, rfl, wpAny_pure ⟨.bl b, H', I', rfl, qz⟩⟩
end
end MN
/-! plain law of prices: closed prices (Floyd and Warshall), costs of changes by a table, a cheapest last change -/
namespace MN
abbrev Nd := Option Nat
/-- a node: no sign, or one of L -/
def InL (L : List Nat) (x : Nd) : Prop := ∀ a, x = some a → a ∈ L
theorem InL.no {L : List Nat} : InL L none := fun _ e => nomatch e
theorem InL.of {L : List Nat} {a : Nat} (h : a ∈ L) : InL L (some a) := fun _ e => by cases e; exact h
section
variable {L : List Nat} {r : Nd → Nd → Option Int}
inductive Path (L : List Nat) (r : Nd → Nd → Option Int) : Nd → Nd → Int → Prop
  | one {x y p} : InL L x → InL L y → r x y = some p → Path L r x y p
  | more {x y z t p} : Path L r x y t → InL L z → r y z = some p → Path L r x z (t + p)
theorem Path.cat {x y z : Nd} {s t : Int} (h1 : Path L r x y s) (h2 : Path L r y z t) : Path L r x z (s + t) := by
  induction h2 with
  | one _ hy e => exact h1.more hy e
  | more _ hz e ih => rw [← Int.add_assoc]; exact ih.more hz e
theorem Path.pos (hp : ∀ x y p, r x y = some p → 1 ≤ p) {x y : Nd} {t : Int} (h : Path L r x y t) : 1 ≤ t := by
  induction h with
  | one _ _ e => exact hp _ _ _ e
  | more _ _ e ih => have := hp _ _ _ e; omega
theorem Path.ends {x y : Nd} {t : Int} (h : Path L r x y t) : InL L x ∧ InL L y := by
  induction h with
  | one hx hy _ => exact ⟨hx, hy⟩
  | more _ hz _ ih => exact ⟨ih.1, hz⟩
/-- a table while it is being closed; M: the middles so far -/
structure Tb (L : List Nat) (r : Nd → Nd → Option Int) (M : Nd → Prop) (O : Nd → Nd → Option Int) : Prop where
  dg : ∀ x, O x x = none
  pa : ∀ x y t, O x y = some t → Path L r x y t
  le : ∀ x y p, InL L x → InL L y → r x y = some p → ∃ t, O x y = some t ∧ t ≤ p
  tri : ∀ m x y a b, M m → x ≠ y → O x m = some a → O m y = some b → ∃ t, O x y = some t ∧ t ≤ a + b
/-- one middle -/
def ph (m : Nd) (O : Nd → Nd → Option Int) : Nd → Nd → Option Int := fun x y => if x = y then O x y else match O x m, O m y with
  | some a, some b => some (match O x y with | none => a + b | some t => min (a + b) t)
  | _, _ => O x y
variable {m : Nd} {O : Nd → Nd → Option Int}
theorem ph_one {x y : Nd} {t : Int} (h : O x y = some t) : ∃ t', ph m O x y = some t' ∧ t' ≤ t := by
  unfold ph
  split
  · exact ⟨t, h, Int.le_refl _⟩
  · split
    · rw [h]; exact ⟨_, rfl, Int.min_le_right _ _⟩
    · exact ⟨t, h, Int.le_refl _⟩
theorem ph_two {x y : Nd} {a b : Int} (n : x ≠ y) (h1 : O x m = some a) (h2 : O m y = some b) : ∃ t', ph m O x y = some t' ∧ t' ≤ a + b := by
  unfold ph
  rw [if_neg n, h1, h2]
  cases O x y with
  | none => exact ⟨_, rfl, Int.le_refl _⟩
  | some t => exact ⟨_, rfl, Int.min_le_left _ _⟩
theorem ph_or {x y : Nd} {t : Int} (h : ph m O x y = some t) : O x y = some t ∨ ∃ a b, x ≠ y ∧ O x m = some a ∧ O m y = some b ∧ t = a + b := by
  unfold ph at h
  split at h
  · exact .inl h
  · rename_i n
    split at h
    · rename_i a b e1 e2
      cases e : O x y with
      | none => rw [e] at h; exact .inr ⟨a, b, n, e1, e2, (Option.some.inj h).symm⟩
      | some t0 =>
        rw [e] at h
        have h' : min (a + b) t0 = t := Option.some.inj h
        rcases Int.le_total (a + b) t0 with q | q
        · rw [Int.min_eq_left q] at h'; exact .inr ⟨a, b, n, e1, e2, h'.symm⟩
        · rw [Int.min_eq_right q] at h'; rw [h']; exact .inl rfl
    · exact .inl h
theorem Tb.phase {M : Nd → Prop} (hp : ∀ x y p, r x y = some p → 1 ≤ p) (T : Tb L r M O) : Tb L r (fun z => M z ∨ z = m) (ph m O) := by
  have po : ∀ {x y t}, O x y = some t → 1 ≤ t := fun h => (T.pa _ _ _ h).pos hp
  refine ⟨fun x => ?_, fun x y t h => ?_, fun x y p hx hy h => ?_, fun k x y a b hk n h1 h2 => ?_⟩
  · unfold ph; rw [if_pos rfl]; exact T.dg x
  · rcases ph_or h with h | ⟨a, b, _, h1, h2, rfl⟩
    · exact T.pa _ _ _ h
    · exact (T.pa _ _ _ h1).cat (T.pa _ _ _ h2)
  · obtain ⟨t, e, l⟩ := T.le x y p hx hy h
    obtain ⟨t', e', l'⟩ := ph_one (m := m) e
    exact ⟨t', e', by omega⟩
  · rcases hk with hk | rfl
    · rcases ph_or h1 with h1' | ⟨a1, a2, _, e1, e2, rfl⟩
      · clear h1
        rcases ph_or h2 with h2' | ⟨b1, b2, _, f1, f2, rfl⟩
        · obtain ⟨t, e, l⟩ := T.tri k x y a b hk n h1' h2'
          obtain ⟨t', e', l'⟩ := ph_one (m := m) e
          exact ⟨t', e', by omega⟩
        · by_cases q : x = m
          · subst q
            obtain ⟨t', e', l'⟩ := ph_one (m := x) f2
            have := po h1'; have := po f1
            exact ⟨t', e', by omega⟩
          · obtain ⟨t, e, l⟩ := T.tri k x m a b1 hk q h1' f1
            obtain ⟨t', e', l'⟩ := ph_two (m := m) n e f2
            exact ⟨t', e', by omega⟩
      · rcases ph_or h2 with h2 | ⟨b1, b2, _, f1, f2, rfl⟩
        · by_cases q : m = y
          · subst q
            obtain ⟨t', e', l'⟩ := ph_one (m := m) e1
            have := po h2; have := po e2
            exact ⟨t', e', by omega⟩
          · obtain ⟨t, e, l⟩ := T.tri k m y a2 b hk q e2 h2
            obtain ⟨t', e', l'⟩ := ph_two (m := m) n e1 e
            exact ⟨t', e', by omega⟩
        · obtain ⟨t', e', l'⟩ := ph_two (m := m) n e1 f2
          have := po e2; have := po f1
          exact ⟨t', e', by omega⟩
    · have g1 : O x k = some a := by
        rcases ph_or h1 with h | ⟨_, _, _, _, e, _⟩
        · exact h
        · rw [T.dg k] at e; cases e
      have g2 : O k y = some b := by
        rcases ph_or h2 with h | ⟨_, _, _, e, _⟩
        · exact h
        · rw [T.dg k] at e; cases e
      exact ph_two n g1 g2
/-- closed prices -/
structure Clo (L : List Nat) (r : Nd → Nd → Option Int) (c : Nd → Nd → Int) : Prop where
  z : ∀ x, c x x = 0
  pos : ∀ x y, InL L x → InL L y → x ≠ y → 1 ≤ c x y
  tri : ∀ x y z, InL L x → InL L y → InL L z → c x z ≤ c x y + c y z
  le : ∀ x y p, InL L x → InL L y → r x y = some p → c x y ≤ p
  last : ∀ x y, InL L x → InL L y → x ≠ y → ∃ z p, InL L z ∧ z ≠ y ∧ r z y = some p ∧ c x y = c x z + p
def cOf (O : Nd → Nd → Option Int) : Nd → Nd → Int := fun x y => (O x y).getD 0
theorem Tb.clo (hp : ∀ x y p, r x y = some p → 1 ≤ p) (hr : ∀ a ∈ L, (∃ p, r none (some a) = some p) ∧ ∃ p, r (some a) none = some p) (T : Tb L r (InL L) O) : Clo L r (cOf O) ∧ ∀ x y, InL L x → InL L y → x ≠ y → ∃ t, O x y = some t := by
  have tot : ∀ x y, InL L x → InL L y → x ≠ y → ∃ t, O x y = some t := fun x y hx hy n => by
    cases x with
    | none =>
      cases y with
      | none => exact absurd rfl n
      | some b =>
        obtain ⟨p, e⟩ := (hr b (hy b rfl)).1
        obtain ⟨t, h, _⟩ := T.le _ _ p hx hy e
        exact ⟨t, h⟩
    | some a =>
      obtain ⟨p, e⟩ := (hr a (hx a rfl)).2
      obtain ⟨t, h, _⟩ := T.le _ _ p hx InL.no e
      cases y with
      | none => exact ⟨t, h⟩
      | some b =>
        obtain ⟨q, f⟩ := (hr b (hy b rfl)).1
        obtain ⟨u, g, _⟩ := T.le _ _ q InL.no hy f
        obtain ⟨v, k, _⟩ := T.tri none _ _ t u InL.no n h g
        exact ⟨v, k⟩
  have c0 : ∀ x, cOf O x x = 0 := fun x => by unfold cOf; rw [T.dg x]; rfl
  have cv : ∀ {x y t}, O x y = some t → cOf O x y = t := fun e => by unfold cOf; rw [e]; rfl
  have tri : ∀ x y z, InL L x → InL L y → InL L z → cOf O x z ≤ cOf O x y + cOf O y z := fun x y z hx hy hz => by
    by_cases h1 : x = y
    · subst h1; rw [c0 x]; omega
    · by_cases h2 : y = z
      · subst h2; rw [c0 y]; omega
      · obtain ⟨a, ea⟩ := tot x y hx hy h1
        obtain ⟨b, eb⟩ := tot y z hy hz h2
        have pa := (T.pa _ _ _ ea).pos hp
        have pb := (T.pa _ _ _ eb).pos hp
        rw [cv ea, cv eb]
        by_cases h3 : x = z
        · subst h3; rw [c0 x]; omega
        · obtain ⟨t, et, lt⟩ := T.tri y x z a b hy h3 ea eb
          rw [cv et]; exact lt
  have le : ∀ x y p, InL L x → InL L y → r x y = some p → cOf O x y ≤ p := fun x y p hx hy e => by
    obtain ⟨t, et, lt⟩ := T.le x y p hx hy e
    rw [cv et]; exact lt
  refine ⟨⟨c0, fun x y hx hy n => ?_, tri, le, fun x y hx hy n => ?_⟩, tot⟩
  · obtain ⟨t, e⟩ := tot x y hx hy n
    rw [cv e]
    exact (T.pa _ _ _ e).pos hp
  · obtain ⟨t, e⟩ := tot x y hx hy n
    have lt : ∀ {z u}, Path L r x z u → cOf O x z ≤ u := fun h => by
      induction h with
      | one hx hy e => exact le _ _ _ hx hy e
      | more hh hz e ih =>
        have h1 := tri _ _ _ hx hh.ends.2 hz
        have h2 := le _ _ _ hh.ends.2 hz e
        omega
    have rn : ∀ {z q}, r z y = some q → InL L z → z ≠ y := fun {z q} e hz q' => by
      subst q'
      obtain ⟨t, et, _⟩ := T.le _ _ _ hz hz e
      rw [T.dg] at et; cases et
    rw [cv e]
    cases T.pa _ _ _ e with
    | one _ _ e' => exact ⟨x, t, hx, n, e', by rw [c0 x]; omega⟩
    | more hh hz2 e' =>
      rename_i z s p
      have h1 := lt hh
      have h2 := tri x z y hx hh.ends.2 hy
      have h3 := le z y p hh.ends.2 hy e'
      rw [cv e] at h2
      exact ⟨z, p, hh.ends.2, rn e' hh.ends.2, e', by omega⟩
/-- closed prices are closed -/
theorem Clo.same {c c' : Nd → Nd → Int} (C : Clo L r c) (C' : Clo L (fun x y => if x = y then none else some (c x y)) c') : ∀ x y, InL L x → InL L y → c' x y = c x y := by
  have key : ∀ (n : Nat) (x y : Nd), InL L x → InL L y → c' x y ≤ n → c x y ≤ c' x y := by
    intro n
    induction n with
    | zero =>
      intro x y hx hy h
      by_cases e : x = y
      · subst e; rw [C.z, C'.z]; exact Int.le_refl _
      · have := C'.pos x y hx hy e; omega
    | succ n ih =>
      intro x y hx hy h
      by_cases e : x = y
      · subst e; rw [C.z, C'.z]; exact Int.le_refl _
      · obtain ⟨z, p, hz, nz, er, ec⟩ := C'.last x y hx hy e
        have er' : (if z = y then none else some (c z y)) = some p := er
        rw [if_neg nz] at er'
        have ep : c z y = p := Option.some.inj er'
        have p1 := C.pos z y hz hy nz
        have h1 := ih x z hx hz (by omega)
        have h2 := C.tri x z y hx hz hy
        omega
  intro x y hx hy
  by_cases e : x = y
  · subst e; rw [C.z, C'.z]
  · have h1 : c' x y ≤ c x y := C'.le x y _ hx hy (by show (if x = y then none else some (c x y)) = _; rw [if_neg e])
    have h2 := key (c' x y).toNat x y hx hy (by have := C'.pos x y hx hy e; omega)
    omega
end
/-! ### costs -/
def Dc (c : Nd → Nd → Int) : List Nat → List Nat → Int
  | [], [] => 0
  | [], y :: v => Dc c [] v + c none (some y)
  | x :: u, [] => Dc c u [] + c (some x) none
  | x :: u, y :: v => min (min (Dc c u v + c (some x) (some y)) (Dc c u (y :: v) + c (some x) none)) (Dc c (x :: u) v + c none (some y))
section
variable {L : List Nat} {r : Nd → Nd → Option Int} {c : Nd → Nd → Int}
theorem Dc_put (C : Clo L r c) (y : Nat) (u v : List Nat) : Dc c u (y :: v) ≤ Dc c u v + c none (some y) := by
  cases u with
  | nil => simp [Dc]
  | cons x u => simp only [Dc]; omega
theorem Dc_out (C : Clo L r c) (x : Nat) (u v : List Nat) : Dc c (x :: u) v ≤ Dc c u v + c (some x) none := by
  cases v with
  | nil => simp [Dc]
  | cons y v => simp only [Dc]; omega
theorem Dc_sub (C : Clo L r c) (x y : Nat) (u v : List Nat) : Dc c (x :: u) (y :: v) ≤ Dc c u v + c (some x) (some y) := by simp only [Dc]; omega
theorem Dc_or {x y : Nat} {u v : List Nat} : Dc c (x :: u) (y :: v) = Dc c u v + c (some x) (some y) ∨ Dc c (x :: u) (y :: v) = Dc c u (y :: v) + c (some x) none ∨ Dc c (x :: u) (y :: v) = Dc c (x :: u) v + c none (some y) := by
  simp only [Dc]; omega
theorem Dc_self (C : Clo L r c) : ∀ u, Dc c u u ≤ 0
  | [] => by simp [Dc]
  | x :: u => by have := Dc_sub C x x u u; have := Dc_self C u; rw [C.z] at *; omega
theorem Dc_nn (C : Clo L r c) : ∀ u v, (∀ a ∈ u, a ∈ L) → (∀ a ∈ v, a ∈ L) → 0 ≤ Dc c u v ∧ (Dc c u v = 0 → u = v)
  | [], [], _, _ => ⟨by simp [Dc], fun _ => rfl⟩
  | [], y :: v, hu, hv => by
    have h1 := (Dc_nn C [] v hu fun a h => hv a (List.mem_cons_of_mem _ h)).1
    have h2 := C.pos none (some y) InL.no (InL.of (hv y List.mem_cons_self)) (fun e => nomatch e)
    simp only [Dc]
    exact ⟨by omega, fun e => by omega⟩
  | x :: u, [], hu, hv => by
    have h1 := (Dc_nn C u [] (fun a h => hu a (List.mem_cons_of_mem _ h)) hv).1
    have h2 := C.pos (some x) none (InL.of (hu x List.mem_cons_self)) InL.no (fun e => nomatch e)
    simp only [Dc]
    exact ⟨by omega, fun e => by omega⟩
  | x :: u, y :: v, hu, hv => by
    have hu' : ∀ a ∈ u, a ∈ L := fun a h => hu a (List.mem_cons_of_mem _ h)
    have hv' : ∀ a ∈ v, a ∈ L := fun a h => hv a (List.mem_cons_of_mem _ h)
    have hx := InL.of (hu x List.mem_cons_self)
    have hy := InL.of (hv y List.mem_cons_self)
    have h1 := Dc_nn C u v hu' hv'
    have h2 := (Dc_nn C u (y :: v) hu' hv).1
    have h3 := (Dc_nn C (x :: u) v hu hv').1
    have p2 := C.pos (some x) none hx InL.no (fun e => nomatch e)
    have p3 := C.pos none (some y) InL.no hy (fun e => nomatch e)
    by_cases e : x = y
    · subst e
      rcases Dc_or (c := c) (x := x) (y := x) (u := u) (v := v) with q | q | q
      · rw [q, C.z]
        exact ⟨by omega, fun e => by rw [h1.2 (by omega)]⟩
      · rw [q]; exact ⟨by omega, fun e => by omega⟩
      · rw [q]; exact ⟨by omega, fun e => by omega⟩
    · have p1 := C.pos (some x) (some y) hx hy (fun q => e (Option.some.inj q))
      rcases Dc_or (c := c) (x := x) (y := y) (u := u) (v := v) with q | q | q
      · rw [q]; exact ⟨by omega, fun e => by omega⟩
      · rw [q]; exact ⟨by omega, fun e => by omega⟩
      · rw [q]; exact ⟨by omega, fun e => by omega⟩
/-- one change at some place, by the prices f -/
inductive Chg (L : List Nat) (f : Nd → Nd → Option Int) : List Nat → List Nat → Int → Prop
  | put {y v s} : y ∈ L → f none (some y) = some s → Chg L f v (y :: v) s
  | out {y v s} : y ∈ L → f (some y) none = some s → Chg L f (y :: v) v s
  | swp {y z v s} : y ∈ L → z ∈ L → f (some y) (some z) = some s → Chg L f (y :: v) (z :: v) s
  | cons {y v w s} : Chg L f v w s → Chg L f (y :: v) (y :: w) s
theorem Dc_end (C : Clo L r c) {y z : Nd} {s : Int} (hy : InL L y) (hz : InL L z) (h : c y z ≤ s) : ∀ u v, (∀ a ∈ u, a ∈ L) → Dc c u (z.toList ++ v) ≤ Dc c u (y.toList ++ v) + s := by
  have h0 : 0 ≤ c y z := by
    by_cases e : y = z
    · subst e; rw [C.z]; exact Int.le_refl _
    · have := C.pos y z hy hz e; omega
  cases y with
  | none =>
    cases z with
    | none => intro u v _; simp; omega
    | some z =>
      intro u v _
      have := Dc_put C z u v
      simp at this ⊢; omega
  | some y =>
    intro u
    induction u with
    | nil =>
      intro v _
      cases z with
      | none =>
        show Dc c [] v ≤ Dc c [] (y :: v) + s
        have := C.pos none (some y) InL.no hy (fun e => nomatch e)
        simp only [Dc]; omega
      | some z =>
        show Dc c [] (z :: v) ≤ Dc c [] (y :: v) + s
        have := C.tri none (some y) (some z) InL.no hy hz
        simp only [Dc]; omega
    | cons x u ih =>
      intro v hu
      have hx := InL.of (hu x List.mem_cons_self)
      have hu' : ∀ a ∈ u, a ∈ L := fun a h => hu a (List.mem_cons_of_mem _ h)
      have i1 := ih v hu'
      cases z with
      | none =>
        show Dc c (x :: u) v ≤ Dc c (x :: u) (y :: v) + s
        have i1' : Dc c u v ≤ Dc c u (y :: v) + s := i1
        have o1 := Dc_out C x u v
        rcases Dc_or (c := c) (x := x) (y := y) (u := u) (v := v) with q | q | q
        · have := C.tri (some x) (some y) none hx hy InL.no; omega
        · omega
        · have := C.pos none (some y) InL.no hy (fun e => nomatch e); omega
      | some z =>
        show Dc c (x :: u) (z :: v) ≤ Dc c (x :: u) (y :: v) + s
        have i1' : Dc c u (z :: v) ≤ Dc c u (y :: v) + s := i1
        have o1 := Dc_out C x u (z :: v)
        have o2 := Dc_sub C x z u v
        have o3 := Dc_put C z (x :: u) v
        rcases Dc_or (c := c) (x := x) (y := y) (u := u) (v := v) with q | q | q
        · have := C.tri (some x) (some y) (some z) hx hy hz; omega
        · omega
        · have := C.tri none (some y) (some z) InL.no hy hz; omega
theorem Dc_in {v w : List Nat} {s : Int} (C : Clo L r c) (y : Nat) (hs : ∀ u, (∀ a ∈ u, a ∈ L) → Dc c u w ≤ Dc c u v + s) : ∀ u, (∀ a ∈ u, a ∈ L) → Dc c u (y :: w) ≤ Dc c u (y :: v) + s := by
  intro u
  induction u with
  | nil => intro hu; have := hs [] hu; simp only [Dc]; omega
  | cons x u ih =>
    intro hu
    have hu' : ∀ a ∈ u, a ∈ L := fun a h => hu a (List.mem_cons_of_mem _ h)
    have h1 := hs u hu'
    have h2 := hs (x :: u) hu
    have h3 := ih hu'
    have o1 := Dc_out C x u (y :: w)
    have o2 := Dc_sub C x y u w
    have o3 := Dc_put C y (x :: u) w
    rcases Dc_or (c := c) (x := x) (y := y) (u := u) (v := v) with q | q | q <;> omega
/-- a change changes a cost by at most its price -/
theorem Dc_lip (C : Clo L r c) {v w : List Nat} {s : Int} (h : Chg L r v w s) : ∀ u, (∀ a ∈ u, a ∈ L) → Dc c u w ≤ Dc c u v + s := by
  induction h with
  | @put y v s hy e => exact fun u hu => Dc_end C InL.no (InL.of hy) (C.le _ _ _ InL.no (InL.of hy) e) u v hu
  | @out y v s hy e => exact fun u hu => Dc_end C (InL.of hy) InL.no (C.le _ _ _ (InL.of hy) InL.no e) u v hu
  | @swp y z v s hy hz e => exact fun u hu => Dc_end C (InL.of hy) (InL.of hz) (C.le _ _ _ (InL.of hy) (InL.of hz) e) u v hu
  | @cons y v w s _ ih => exact Dc_in C y ih
/-- a cheapest way has a last change -/
theorem Dc_pre (C : Clo L r c) : ∀ u v, (∀ a ∈ u, a ∈ L) → (∀ a ∈ v, a ∈ L) → u ≠ v → ∃ w s, Chg L r w v s ∧ (∀ a ∈ w, a ∈ L) ∧ Dc c u w + s ≤ Dc c u v ∧ (w.length ≤ v.length ∨ (w.length = v.length + 1 ∧ v.length < u.length)) := by
  have putw : ∀ (u v : List Nat) (y : Nat), y ∈ L → (∀ a ∈ v, a ∈ L) → ∃ w s, Chg L r w (y :: v) s ∧ (∀ a ∈ w, a ∈ L) ∧ Dc c u w + s ≤ Dc c u v + c none (some y) ∧ w.length ≤ (y :: v).length := fun u v y hy hv => by
    obtain ⟨z, p, hz, nz, er, ec⟩ := C.last none (some y) InL.no (InL.of hy) (fun e => nomatch e)
    cases z with
    | none => exact ⟨v, p, .put hy er, hv, by rw [C.z] at ec; omega, Nat.le_succ _⟩
    | some z =>
      refine ⟨z :: v, p, .swp (hz z rfl) hy er, fun a ha => ?_, ?_, Nat.le_refl _⟩
      · rcases List.mem_cons.mp ha with rfl | ha
        · exact hz _ rfl
        · exact hv a ha
      · have := Dc_put C z u v; omega
  intro u
  induction u with
  | nil =>
    intro v hu hv n
    cases v with
    | nil => exact absurd rfl n
    | cons y v =>
      obtain ⟨w, s, h1, h2, h3, h4⟩ := putw [] v y (hv y List.mem_cons_self) fun a h => hv a (List.mem_cons_of_mem _ h)
      exact ⟨w, s, h1, h2, by simp only [Dc]; exact h3, .inl h4⟩
  | cons x u ih =>
    intro v
    induction v with
    | nil =>
      intro hu hv _
      have hx := hu x List.mem_cons_self
      have hu' : ∀ a ∈ u, a ∈ L := fun a h => hu a (List.mem_cons_of_mem _ h)
      by_cases e : u = []
      · subst e
        obtain ⟨z, p, hz, nz, er, ec⟩ := C.last (some x) none (InL.of hx) InL.no (fun e => nomatch e)
        cases z with
        | none => exact absurd rfl nz
        | some z =>
          refine ⟨[z], p, .out (hz z rfl) er, fun a ha => ?_, ?_, .inr ⟨rfl, Nat.zero_lt_succ _⟩⟩
          · rcases List.mem_cons.mp ha with rfl | ha
            · exact hz _ rfl
            · cases ha
          · have := Dc_sub C x z [] []; simp only [Dc] at this ⊢; omega
      · obtain ⟨w, s, h1, h2, h3, h4⟩ := ih [] hu' hv e
        refine ⟨w, s, h1, h2, ?_, h4.imp id fun q => ⟨q.1, by simp⟩⟩
        have := Dc_out C x u w; simp only [Dc]; omega
    | cons y v ihv =>
      intro hu hv n
      have hx := hu x List.mem_cons_self
      have hy := hv y List.mem_cons_self
      have hu' : ∀ a ∈ u, a ∈ L := fun a h => hu a (List.mem_cons_of_mem _ h)
      have hv' : ∀ a ∈ v, a ∈ L := fun a h => hv a (List.mem_cons_of_mem _ h)
      rcases Dc_or (c := c) (x := x) (y := y) (u := u) (v := v) with q | q | q
      · by_cases e : x = y
        · subst e
          have n' : u ≠ v := fun e => n (by rw [e])
          obtain ⟨w, s, h1, h2, h3, h4⟩ := ih v hu' hv' n'
          refine ⟨x :: w, s, .cons h1, fun a ha => ?_, ?_, h4.imp Nat.succ_le_succ fun q => ⟨by simp [q.1], by simp [q.2]⟩⟩
          · rcases List.mem_cons.mp ha with rfl | ha
            · exact hx
            · exact h2 a ha
          · have := Dc_sub C x x u w; rw [C.z] at *; omega
        · obtain ⟨z, p, hz, nz, er, ec⟩ := C.last (some x) (some y) (InL.of hx) (InL.of hy) (fun q => e (Option.some.inj q))
          cases z with
          | none =>
            refine ⟨v, p, .put hy er, hv', ?_, .inl (Nat.le_succ _)⟩
            have := Dc_out C x u v; omega
          | some z =>
            refine ⟨z :: v, p, .swp (hz z rfl) hy er, fun a ha => ?_, ?_, .inl (Nat.le_refl _)⟩
            · rcases List.mem_cons.mp ha with rfl | ha
              · exact hz _ rfl
              · exact hv' a ha
            · have := Dc_sub C x z u v; omega
      · by_cases e : u = y :: v
        · subst e
          obtain ⟨z, p, hz, nz, er, ec⟩ := C.last (some x) none (InL.of hx) InL.no (fun e => nomatch e)
          cases z with
          | none => exact absurd rfl nz
          | some z =>
            refine ⟨z :: y :: v, p, .out (hz z rfl) er, fun a ha => ?_, ?_, .inr ⟨rfl, by simp⟩⟩
            · rcases List.mem_cons.mp ha with rfl | ha
              · exact hz _ rfl
              · exact hv a ha
            · have := Dc_sub C x z (y :: v) (y :: v); omega
        · obtain ⟨w, s, h1, h2, h3, h4⟩ := ih (y :: v) hu' hv e
          refine ⟨w, s, h1, h2, ?_, h4.imp id fun q => ⟨q.1, by have := q.2; simp at this ⊢; omega⟩⟩
          have := Dc_out C x u w; omega
      · obtain ⟨w, s, h1, h2, h3, h4⟩ := putw (x :: u) v y hy hv'
        exact ⟨w, s, h1, h2, by omega, .inl h4⟩
end
end MN
/-! plain law of rows: ways between states, rows of words -/
namespace MN
/-- from a state by a word (turned round) to a state -/
inductive LedR (ed : Nat → Nat → Nat → Prop) : Nat → List Nat → Nat → Prop
  | nil {p} : LedR ed p [] p
  | cons {p v q a t} : LedR ed p v q → ed q a t → LedR ed p (a :: v) t
def sumP (pc : Nat → Int) : List Nat → Int
  | [] => 0
  | a :: v => sumP pc v + pc a
theorem sumP_app (pc : Nat → Int) : ∀ u v, sumP pc (u ++ v) = sumP pc u + sumP pc v
  | [], v => by simp [sumP]
  | a :: u, v => by
    show sumP pc (u ++ v) + pc a = sumP pc u + pc a + sumP pc v
    rw [sumP_app pc u v]; omega
theorem LedR.app {ed : Nat → Nat → Nat → Prop} {p q t : Nat} {u v : List Nat} (h1 : LedR ed p u q) (h2 : LedR ed q v t) : LedR ed p (v ++ u) t := by
  induction h2 with
  | nil => exact h1
  | cons _ e ih => exact .cons ih e
section
variable {ed : Nat → Nat → Nat → Prop} {n : Nat} {pc : Nat → Int} {far : Int}
/-- ways between states; M: the states that they may go through -/
structure FwOk (ed : Nat → Nat → Nat → Prop) (n : Nat) (pc : Nat → Int) (far : Int) (M : Nat → Prop) (W : Nat → Nat → Int) : Prop where
  z : ∀ p, p < n → W p p = 0
  nn : ∀ p t, p < n → t < n → 0 ≤ W p t
  tri : ∀ q p t, M q → q < n → p < n → t < n → W p t ≤ W p q + W q t
  eg : ∀ p a t, p < n → t < n → ed p a t → W p t ≤ pc a
  at_ : ∀ p t, p < n → t < n → far ≤ W p t ∨ ∃ v, LedR ed p v t ∧ sumP pc v = W p t
def lowW (m : Nat) (W : Nat → Nat → Int) : Nat → Nat → Int := fun p t => min (W p t) (W p m + W m t)
theorem FwOk.phase {M : Nat → Prop} {W : Nat → Nat → Int} {m : Nat} (hm : m < n) (F : FwOk ed n pc far M W) : FwOk ed n pc far (fun q => M q ∨ q = m) (lowW m W) := by
  have zm := F.z m hm
  refine ⟨fun p hp => ?_, fun p t hp ht => ?_, fun q p t hq qn hp ht => ?_, fun p a t hp ht e => ?_, fun p t hp ht => ?_⟩
  · have h1 := F.z p hp
    have h2 := F.nn p m hp hm
    have h3 := F.nn m p hm hp
    unfold lowW
    omega
  · have h1 := F.nn p t hp ht
    have h2 := F.nn p m hp hm
    have h3 := F.nn m t hm ht
    unfold lowW
    omega
  · have a1 := F.nn p m hp hm
    have a2 := F.nn m t hm ht
    have a3 := F.nn q m qn hm
    have a4 := F.nn m q hm qn
    unfold lowW
    rcases hq with hq | rfl
    · have t1 := F.tri q p t hq qn hp ht
      have t2 := F.tri q m t hq qn hm ht
      have t3 := F.tri q p m hq qn hp hm
      omega
    · omega
  · have h1 := F.eg p a t hp ht e
    unfold lowW
    omega
  · have h1 := F.at_ p t hp ht
    unfold lowW
    by_cases c : W p t ≤ W p m + W m t
    · rw [Int.min_eq_left c]; exact h1
    · rw [Int.min_eq_right (by omega)]
      have b1 := F.nn p m hp hm
      have b2 := F.nn m t hm ht
      rcases F.at_ p m hp hm with g | ⟨v, g1, g2⟩
      · exact .inl (by omega)
      · rcases F.at_ m t hm ht with g | ⟨u, g3, g4⟩
        · exact .inl (by omega)
        · exact .inr ⟨u ++ v, g1.app g3, by rw [sumP_app]; omega⟩
/-- closed ways -/
abbrev WaysOk (ed : Nat → Nat → Nat → Prop) (n : Nat) (pc : Nat → Int) (far : Int) (W : Nat → Nat → Int) : Prop := FwOk ed n pc far (fun q => q < n) W
theorem WaysOk.led {W : Nat → Nat → Int} (F : WaysOk ed n pc far W) (hed : ∀ p a t, ed p a t → p < n ∧ t < n) {p t : Nat} {v : List Nat} (h : LedR ed p v t) (hp : p < n) : W p t ≤ sumP pc v := by
  induction h with
  | nil => rw [F.z _ hp]; exact Int.le_refl _
  | @cons v q a t h e ih =>
    obtain ⟨qn, tn⟩ := hed _ _ _ e
    have t1 := F.tri q p t qn qn hp tn
    have t2 := F.eg q a t qn tn e
    show W p t ≤ sumP pc v + pc a
    omega
/-- the row of a word (turned round) -/
structure RowOk (ed : Nat → Nat → Nat → Prop) (n : Nat) (c : Nd → Nd → Int) (far : Int) (u : List Nat) (row : Nat → Int) : Prop where
  nn : ∀ t, t < n → 0 ≤ row t
  lo : ∀ t v, t < n → LedR ed 0 v t → row t ≤ Dc c u v
  at_ : ∀ t, t < n → far ≤ row t ∨ ∃ v, LedR ed 0 v t ∧ Dc c u v ≤ row t
theorem Dc_nil {c : Nd → Nd → Int} : ∀ v : List Nat, Dc c [] v = sumP (fun a => c none (some a)) v
  | [] => by simp only [Dc, sumP]
  | a :: v => by simp only [Dc, sumP]; rw [Dc_nil v]
theorem row_start {c : Nd → Nd → Int} {W : Nat → Nat → Int} (hn : 0 < n) (hed : ∀ p a t, ed p a t → p < n ∧ t < n) (F : WaysOk ed n (fun a => c none (some a)) far W) : RowOk ed n c far [] (W 0) := by
  refine ⟨fun t ht => F.nn 0 t hn ht, fun t v ht h => ?_, fun t ht => ?_⟩
  · rw [Dc_nil]; exact F.led hed h hn
  · rcases F.at_ 0 t hn ht with h | ⟨v, h1, h2⟩
    · exact .inl h
    · exact .inr ⟨v, h1, by rw [Dc_nil, h2]; exact Int.le_refl _⟩
/-- behind one more sign -/
theorem row_behind {L : List Nat} {r : Nd → Nd → Option Int} {c : Nd → Nd → Int} (C : Clo L r c) {W : Nat → Nat → Int} (hn : 0 < n) (hed : ∀ p a t, ed p a t → p < n ∧ t < n ∧ a ∈ L) (F : WaysOk ed n (fun a => c none (some a)) far W)
    {u : List Nat} {row found res : Nat → Int} {s : Nat} (hs : s ∈ L) (R : RowOk ed n c far u row)
    (f1 : ∀ t, t < n → found t ≤ row t + c (some s) none) (f2 : ∀ p a t, ed p a t → found t ≤ row p + c (some s) (some a)) (f3 : ∀ t, t < n → found t = row t + c (some s) none ∨ ∃ p a, ed p a t ∧ found t = row p + c (some s) (some a))
    (r1 : ∀ q t, q < n → t < n → res t ≤ found q + W q t) (r2 : ∀ t, t < n → ∃ q, q < n ∧ res t = found q + W q t) : RowOk ed n c far (s :: u) res := by
  have c0 : 0 ≤ c (some s) none := by have := C.pos (some s) none (InL.of hs) InL.no (fun e => nomatch e); omega
  have cs : ∀ a, a ∈ L → 0 ≤ c (some s) (some a) := fun a ha => by
    by_cases e : s = a
    · rw [e, C.z]; exact Int.le_refl _
    · have := C.pos (some s) (some a) (InL.of hs) (InL.of ha) (fun q => e (Option.some.inj q)); omega
  have fn : ∀ t, t < n → 0 ≤ found t := fun t ht => by
    rcases f3 t ht with h | ⟨p, a, h1, h2⟩
    · have := R.nn t ht; omega
    · obtain ⟨pn, _, aL⟩ := hed _ _ _ h1
      have := R.nn p pn
      have := cs a aL
      omega
  have hed' : ∀ p a t, ed p a t → p < n ∧ t < n := fun p a t h => ⟨(hed p a t h).1, (hed p a t h).2.1⟩
  refine ⟨fun t ht => ?_, fun t v ht h => ?_, fun t ht => ?_⟩
  · obtain ⟨q, qn, e⟩ := r2 t ht
    have := fn q qn
    have := F.nn q t qn ht
    omega
  · have self : ∀ t, t < n → res t ≤ found t := fun t ht => by have := r1 t t ht ht; rw [F.z t ht] at this; omega
    have step : ∀ p a t, ed p a t → res t ≤ res p + c none (some a) := fun p a t e => by
      obtain ⟨pn, tn, _⟩ := hed p a t e
      obtain ⟨q, qn, eq⟩ := r2 p pn
      have h1 := r1 q t qn tn
      have h2 := F.tri p q t pn pn qn tn
      have h3 := F.eg p a t pn tn e
      have h3' : W p t ≤ c none (some a) := h3
      omega
    induction v generalizing t with
    | nil =>
      cases h
      have h1 := self 0 ht
      have h2 := f1 0 ht
      have h3 := R.lo 0 [] ht .nil
      simp only [Dc] at h3 ⊢
      omega
    | cons y v ih =>
      cases h with
      | cons h0 e =>
        rename_i p
        obtain ⟨pn, tn, _⟩ := hed _ _ _ e
        rcases Dc_or (c := c) (x := s) (y := y) (u := u) (v := v) with q | q | q
        · have h1 := R.lo p v pn h0
          have h2 := f2 p y t e
          have h3 := self t tn
          omega
        · have h1 := R.lo t (y :: v) tn (.cons h0 e)
          have h2 := f1 t tn
          have h3 := self t tn
          omega
        · have h1 := ih p pn h0
          have h2 := step p y t e
          omega
  · obtain ⟨q, qn, e⟩ := r2 t ht
    have fq := fn q qn
    rcases F.at_ q t qn ht with g | ⟨x, g1, g2⟩
    · exact .inl (by omega)
    · have wn := F.nn q t qn ht
      have base : ∀ v, Dc c (s :: u) (x ++ v) ≤ Dc c (s :: u) v + W q t := fun v => by
        rw [← g2]
        clear g1 g2
        induction x with
        | nil => simp [sumP]
        | cons a x ih =>
          have := Dc_put C a (s :: u) (x ++ v)
          show Dc c (s :: u) (a :: (x ++ v)) ≤ _
          simp only [sumP]
          omega
      rcases f3 q qn with h | ⟨p, a, h1, h2⟩
      · rcases R.at_ q qn with k | ⟨v, k1, k2⟩
        · exact .inl (by omega)
        · refine .inr ⟨x ++ v, k1.app g1, ?_⟩
          have b1 := base v
          have b2 := Dc_out C s u v
          omega
      · obtain ⟨pn, _, aL⟩ := hed _ _ _ h1
        have ca := cs a aL
        rcases R.at_ p pn with k | ⟨v, k1, k2⟩
        · exact .inl (by omega)
        · refine .inr ⟨x ++ a :: v, (LedR.cons k1 h1).app g1, ?_⟩
          have b1 := base (a :: v)
          have b2 := Dc_sub C s a u v
          omega
theorem RowOk.exact {c : Nd → Nd → Int} {u : List Nat} {row : Nat → Int} (R : RowOk ed n c far u row) {t : Nat} (ht : t < n) (h : ∃ v, LedR ed 0 v t ∧ Dc c u v < far) : ∃ v, LedR ed 0 v t ∧ Dc c u v = row t := by
  obtain ⟨v0, h1, h2⟩ := h
  have h3 := R.lo t v0 ht h1
  rcases R.at_ t ht with g | ⟨v, g1, g2⟩
  · omega
  · exact ⟨v, g1, by have := R.lo t v ht g1; omega⟩
theorem RowOk.uniq {c : Nd → Nd → Int} {u : List Nat} {r1 r2 : Nat → Int} (R1 : RowOk ed n c far u r1) (R2 : RowOk ed n c far u r2) {t : Nat} (ht : t < n) (h : ∃ v, LedR ed 0 v t ∧ Dc c u v < far) : r1 t = r2 t := by
  obtain ⟨v1, a1, b1⟩ := R1.exact ht h
  obtain ⟨v2, a2, b2⟩ := R2.exact ht h
  have := R1.lo t v2 ht a2
  have := R2.lo t v1 ht a1
  omega
/-- words that lead somewhere are of the signs -/
theorem LedR.over {L : List Nat} (hed : ∀ p a t, ed p a t → p < n ∧ t < n ∧ a ∈ L) {p t : Nat} {v : List Nat} (h : LedR ed p v t) : ∀ a ∈ v, a ∈ L := by
  induction h with
  | nil => intro a ha; cases ha
  | cons _ e ih =>
    intro b hb
    rcases List.mem_cons.mp hb with rfl | hb
    · exact (hed _ _ _ e).2.2
    · exact ih b hb
end
/-- longer words have that many signs put in -/
theorem Dc_long {L : List Nat} {r : Nd → Nd → Option Int} {c : Nd → Nd → Int} (C : Clo L r c) {k : Int} (k0 : 0 ≤ k) (hk : ∀ a ∈ L, k ≤ c none (some a)) : ∀ u v : List Nat, (∀ a ∈ u, a ∈ L) → (∀ a ∈ v, a ∈ L) → ((v.length : Int) - u.length) * k ≤ Dc c u v
  | [], [], _, _ => by simp [Dc]
  | [], y :: v, hu, hv => by
    have h1 := Dc_long C k0 hk [] v hu fun a h => hv a (List.mem_cons_of_mem _ h)
    have h2 := hk y (hv y List.mem_cons_self)
    simp only [Dc, List.length_cons, List.length_nil] at h1 ⊢
    have e : (((v.length + 1 : Nat) : Int) - ((0 : Nat) : Int)) * k = ((v.length : Int) - ((0 : Nat) : Int)) * k + k := by
      rw [show (((v.length + 1 : Nat) : Int) - ((0 : Nat) : Int)) = ((v.length : Int) - ((0 : Nat) : Int)) + 1 by omega, Int.add_mul, Int.one_mul]
    rw [e]; omega
  | x :: u, [], hu, hv => by
    have h := (Dc_nn C (x :: u) [] hu hv).1
    have : (((([] : List Nat).length : Nat) : Int) - ((x :: u).length : Int)) * k ≤ 0 := by
      refine Int.mul_nonpos_of_nonpos_of_nonneg ?_ k0
      simp only [List.length_nil, List.length_cons]; omega
    omega
  | x :: u, y :: v, hu, hv => by
    have hu' : ∀ a ∈ u, a ∈ L := fun a h => hu a (List.mem_cons_of_mem _ h)
    have hv' : ∀ a ∈ v, a ∈ L := fun a h => hv a (List.mem_cons_of_mem _ h)
    have h1 := Dc_long C k0 hk u v hu' hv'
    have h2 := Dc_long C k0 hk u (y :: v) hu' hv
    have h3 := Dc_long C k0 hk (x :: u) v hu hv'
    have hx := hu x List.mem_cons_self
    have hy := hv y List.mem_cons_self
    have c1 : 0 ≤ c (some x) (some y) := by
      by_cases e : x = y
      · rw [e, C.z]; exact Int.le_refl _
      · have := C.pos (some x) (some y) (InL.of hx) (InL.of hy) (fun q => e (Option.some.inj q)); omega
    have c2 : 0 ≤ c (some x) none := by have := C.pos (some x) none (InL.of hx) InL.no (fun e => nomatch e); omega
    have c3 := hk y hy
    simp only [List.length_cons] at h1 h2 h3 ⊢
    have e1 : (((v.length + 1 : Nat) : Int) - ((u.length + 1 : Nat) : Int)) * k = ((v.length : Int) - (u.length : Int)) * k := by
      rw [show (((v.length + 1 : Nat) : Int) - ((u.length + 1 : Nat) : Int)) = ((v.length : Int) - (u.length : Int)) by omega]
    have e2 : (((v.length + 1 : Nat) : Int) - (u.length : Int)) * k = ((v.length : Int) - (u.length : Int)) * k + k := by
      rw [show (((v.length + 1 : Nat) : Int) - (u.length : Int)) = ((v.length : Int) - (u.length : Int)) + 1 by omega, Int.add_mul, Int.one_mul]
    have e3 : ((v.length : Int) - ((u.length + 1 : Nat) : Int)) * k = ((v.length : Int) - (u.length : Int)) * k - k := by
      rw [show ((v.length : Int) - ((u.length + 1 : Nat) : Int)) = ((v.length : Int) - (u.length : Int)) - 1 by omega, Int.sub_mul, Int.one_mul]
    rw [e1]
    rw [e2] at h2
    rw [e3] at h3
    rcases Dc_or (c := c) (x := x) (y := y) (u := u) (v := v) with q | q | q <;> omega
end MN
/-! the draws of the laws k05 .. k09: choices, alphabet, choice, rates -/
namespace MN
open PySem PySem.Spec PyProof.Rows L2
theorem mergeK_nodup {more : List (Key × V)} : ∀ (kvs : List (Key × V)), ((kvs ++ more).map (·.1)).Nodup → mergeK kvs more = kvs ++ more := by
  induction more with
  | nil => intro kvs _; rw [List.append_nil]; rfl
  | cons p more ih =>
    intro kvs hn
    have hnew : p.1 ∉ kvs.map (·.1) := fun hm => by
      rw [List.map_append, List.map_cons] at hn
      exact (List.nodup_append.mp hn).2.2 p.1 hm p.1 List.mem_cons_self rfl
    have hp : putK kvs p.1 p.2 = kvs ++ [(p.1, p.2)] := by
      unfold putK
      rw [if_neg]
      intro q
      obtain ⟨kv, h1, h2⟩ := List.any_eq_true.mp q
      exact hnew (List.mem_map.mpr ⟨kv, h1, of_decide_eq_true h2⟩)
    show mergeK (putK kvs p.1 p.2) more = _
    rw [hp]
    have e : kvs ++ p :: more = (kvs ++ [(p.1, p.2)]) ++ more := by simp
    rw [ih _ (by rw [← e]; exact hn), e]
/-- prices by signs, in the signs' order -/
def dkF (zs : List Str) (g : Str → Int) : List (Key × V) := zs.map fun z => (Sum.inr z, V.int (g z))
theorem dkF_keys (zs : List Str) (g : Str → Int) : (dkF zs g).map (·.1) = zs.map Sum.inr := by
  unfold dkF; rw [List.map_map]; rfl
theorem SgnOk.nodup {zs : List Str} (h : SgnOk zs) : zs.Nodup := h.asc.imp fun {a b} hab e => by rw [e] at hab; exact List.lt_irrefl _ hab
theorem nodup_map {α β : Type} {f : α → β} (hf : ∀ a b, f a = f b → a = b) : ∀ {l : List α}, l.Nodup → (l.map f).Nodup := by
  intro l h
  rw [List.Nodup, List.pairwise_map]
  exact h.imp fun {a b} hab e => hab (hf a b e)
theorem dkF_nodup {zs : List Str} (h : zs.Nodup) (g : Str → Int) : ((dkF zs g).map (·.1)).Nodup := by
  rw [dkF_keys]
  exact nodup_map (fun a b e => Sum.inr.inj e) h
/-- swap prices: pairs of signs, in some order -/
def dtF (ps : List ((Str × Str) × Int)) : List (List Key × V) := ps.map fun x => ([Sum.inr x.1.1, Sum.inr x.1.2], V.int x.2)
theorem dtF_nodup {ps : List ((Str × Str) × Int)} (h : (ps.map Prod.fst).Nodup) : ((dtF ps).map (·.1)).Nodup := by
  unfold dtF
  rw [List.map_map]
  have e : ps.map ((fun x : List Key × V => x.1) ∘ fun x : (Str × Str) × Int => ([Sum.inr x.1.1, Sum.inr x.1.2], V.int x.2)) = (ps.map Prod.fst).map fun q => ([Sum.inr q.1, Sum.inr q.2] : List Key) := by
    rw [List.map_map]; rfl
  rw [e]
  refine nodup_map (fun a b hab => ?_) h
  injection hab with h1 h2
  injection h2 with h2 _
  exact Prod.ext (Sum.inr.inj h1) (Sum.inr.inj h2)
end MN
/-! prices: what they hold; is_pair, are_prices -/
namespace MN
open PySem PySem.Spec PyProof.Rows L2
/-- good prices: put and out by signs, swaps by pairs -/
structure PrN (zs zs2 : List Str) (g o : Str → Int) (ps : List ((Str × Str) × Int)) : Prop where
  sg : ∀ z ∈ zs, ∃ c ∈ ("abcde" : Str).cps.toList, z = ⟨#[c]⟩
  nd : zs.Nodup
  pos : 0 < zs.length
  le : zs.length ≤ 5
  pm : zs2.Perm zs
  pg : ∀ z ∈ zs, 1 ≤ g z ∧ g z ≤ 9
  po : ∀ z ∈ zs, 1 ≤ o z ∧ o z ≤ 9
  sn : (ps.map Prod.fst).Nodup
  sp : ∀ x ∈ ps, x.1.1 ∈ zs ∧ x.1.2 ∈ zs ∧ x.1.1 ≠ x.1.2 ∧ 1 ≤ x.2 ∧ x.2 ≤ 18
  sl : ps.length ≤ 100
theorem isSign_one {z : Str} (h : ∃ c ∈ ("abcde" : Str).cps.toList, z = ⟨#[c]⟩) : isSign (.str z) = true := by
  obtain ⟨c, hc, rfl⟩ := h
  simp only [isSign, isWordS, Bool.and_eq_true, decide_eq_true_eq]
  refine ⟨rfl, ?_⟩
  simp only [List.all_cons, List.all_nil, Bool.and_true, sgn, decide_eq_true_eq]
  exact hc
theorem len_one {z : Str} (h : ∃ c ∈ ("abcde" : Str).cps.toList, z = ⟨#[c]⟩) : z.length = 1 := by
  obtain ⟨c, hc, rfl⟩ := h
  rfl
theorem valV_of {α : Type} [DecidableEq α] {kvs : List (α × V)} (nd : (kvs.map (·.1)).Nodup) {k : α} {v : V} (h : (k, v) ∈ kvs) : valV kvs k = some v := by
  induction kvs with
  | nil => cases h
  | cons a kvs ih =>
    rw [List.map_cons, List.nodup_cons] at nd
    unfold valV
    by_cases e : a.1 = k
    · rcases List.mem_cons.mp h with q | q
      · rw [← q]; simp
      · exact absurd (List.mem_map.mpr ⟨_, q, rfl⟩) (by rw [← e]; exact nd.1)
    · rcases List.mem_cons.mp h with q | q
      · rw [← q] at e; exact absurd rfl e
      · have := ih nd.2 q
        unfold valV at this
        simpa [List.find?_cons, e] using this
theorem valV_no {α : Type} [DecidableEq α] {kvs : List (α × V)} {k : α} (h : k ∉ kvs.map (·.1)) : valV kvs k = none := by
  unfold valV
  rw [Option.map_eq_none_iff, List.find?_eq_none]
  intro x hx q
  exact h (List.mem_map.mpr ⟨x, hx, by simpa using q⟩)
theorem dkF_val {zs : List Str} (nd : zs.Nodup) (g : Str → Int) {z : Str} (h : z ∈ zs) : valV (dkF zs g) (.inr z) = some (.int (g z)) :=
  valV_of (dkF_nodup nd g) (List.mem_map.mpr ⟨z, h, rfl⟩)
theorem dtF_val {ps : List ((Str × Str) × Int)} (nd : (ps.map Prod.fst).Nodup) {x y : Str} {p : Int} (h : ((x, y), p) ∈ ps) : valV (dtF ps) [.inr x, .inr y] = some (.int p) :=
  valV_of (dtF_nodup nd) (List.mem_map.mpr ⟨_, h, rfl⟩)
theorem dtF_no {ps : List ((Str × Str) × Int)} {x y : Str} (h : (x, y) ∉ ps.map Prod.fst) : valV (dtF ps) [.inr x, .inr y] = none := by
  refine valV_no fun q => h ?_
  unfold dtF at q
  rw [List.map_map] at q
  obtain ⟨a, ha, e⟩ := List.mem_map.mp q
  have e' : ([Sum.inr a.1.1, Sum.inr a.1.2] : List Key) = [.inr x, .inr y] := e
  injection e' with e1 e2
  injection e2 with e2 _
  exact List.mem_map.mpr ⟨a, ha, Prod.ext (Sum.inr.inj e1) (Sum.inr.inj e2)⟩
section
variable {P : Program} {w : World} {K : PySem.W.Frag} {mg : Str → Option Value} {base : Heap}
/-! ### is_pair -/
def spIsPair (K : PySem.W.Frag) : Sp := fun vs H Q _ => ∃ t d x y kvs, vs = [.ref t, .ref d] ∧ SqT K H t [.str x, .str y] ∧ H d = some (.dK kvs) ∧ isSign (.str x) = true ∧ isSign (.str y) = true ∧ (∃ v, valV kvs (.inr x) = some v) ∧ (∃ v, valV kvs (.inr y) = some v) ∧ x ≠ y ∧ ∀ H', Same H H' → Q (.bl true) H'
abbrev N_is_pair : List Str := ["value", "signs", "sign"]
theorem sc_is_pair : FnScope N_is_pair ["value", "signs"] (defScope (top 23)) := ⟨rfl, rfl, rfl, by decide +kernel, rfl, by decide +kernel, by decide +kernel⟩
theorem c_is_pair (A : At K mg "is_pair" (top 23)) (B : Blt mg) (c_is_sign : Cal P w K mg base 1 "is_sign" (spIsSign K)) : Cal P w K mg base 2 "is_pair" (spIsPair K) := by
  refine cal_of A sc_is_pair (fun _ _ _ _ _ _ us hl => match us, hl with | [_, _], _ => rfl) (fun vs H Q E h => ?_) (fun f cdv A outer s H vs Q E hr h => ?_)
  · obtain ⟨_, _, _, _, _, rfl, _⟩ := h; rfl
  · obtain ⟨t, d, x, y, kvs, rfl, ht, hd, sx, sy, ⟨v1, g1⟩, ⟨v2, g2⟩, ne, hQ⟩ := h
    refine ⟨_, (pss_cons (ps_if (PW.pt (pw_or (pt_not (pt_val (pe_callB call_isS (by rfl) B.isinstance (by decide +kernel) (pa_cons (pv 0) (pa_cons (pe_bltn (v := .ty "tuple") (by rfl) B.tuple (by decide +kernel) rfl) pa_nil))))) (pw_or (pt_cmpR op_ne (pe_callB call_len_seq (by rfl) B.len (by decide +kernel) (pa_cons (pv 0) pa_nil)) pe_int (nomark _)) (pw_or1 (pt_not (pt_val (pe_callB (cr_all rfl) (by rfl) B.all (by decide +kernel) (pa_cons (pe_lc (own := [("sign", 2)]) (g := gName 2) (tt := tYes) (by rfl) sc_is_pair.nd (pi_tup (pv 0)) (blkOk_by (own := [("sign", 2)]) (N := N_is_pair) (sc := defScope (top 23)) (by decide +kernel)) (fun _ _ _ _ _ => (pg_name (i := 2) sc_is_pair.nd rfl (Or.inl rfl))) (fun _ _ _ _ _ => pts_nil) (fun _ _ _ _ _ => (pe_c c_is_sign hr (by decide) (by rfl) (pa_cons (pv 2) pa_nil)))) pa_nil))))))))
      (pss_one (ps_ret pe_bl))
      pss_nil)
      (pss_one (ps_ret (pe_and (pe_cmp (pc_din (hu_of hr) (pe_ix ix_tup (pv 0) pe_int (fun _ _ => rfl)) (pv 1)) rfl) (pe_and (pe_cmp (pc_din (hu_of hr) (pe_ix ix_tup (pv 0) pe_int (fun _ _ => rfl)) (pv 1)) rfl) (pe_one (pe_cmpR op_ne (pe_ix ix_tup (pv 0) pe_int (fun _ _ => rfl)) (pe_ix ix_tup (pv 0) pe_int (fun _ _ => rfl)) (nomark _)))))))), ?_⟩
    refine ⟨_, rfl, .ref t, "tuple", true, rfl, .ty (tyT ht) (by decide +kernel), _, rfl, iteF ?_⟩
    refine ⟨_, rfl, t, _, rfl, .inr ht, rfl, _, rfl, iteF ?_⟩
    refine ⟨_, rfl, t, rfl, ⟨_, ht⟩, fun D hD => ?_⟩
    refine lc_tplE ht hD (show 2 ≤ 1000000 by decide) (fun _ => true) (fun x => .bl true) (fun x _ => rfl) (fun x _ H2 e2 Q q => q _ (Same.refl _)) (fun v hv _ H2 e2 Q q => ?_) (fun H2 e2 h2 => ?_)
    · have hv' : v = .str x ∨ v = .str y := by simpa using hv
      rcases hv' with rfl | rfl
      · refine ⟨_, rfl, _, rfl, .str (by rw [(show x.length = 1 by simp [isSign] at sx; exact sx.1)]; decide), ?_⟩
        rw [sx]; exact q _ (Same.refl _)
      · refine ⟨_, rfl, _, rfl, .str (by rw [(show y.length = 1 by simp [isSign] at sy; exact sy.1)]; decide), ?_⟩
        rw [sy]; exact q _ (Same.refl _)
    refine ⟨D, [true, true], rfl, .inl (.inl h2), _, rfl, iteF ?_⟩
    have ht2 := Same.seqT e2 ht
    have hd2 := e2 _ _ hd
    refine ⟨_, rfl, t, _, _, _, rfl, rfl, ht2, rfl, _, rfl, d, some v1, rfl, .inl ⟨kvs, .inr x, .inl hd2, rfl, g1.symm⟩, _, rfl, iteT ?_⟩
    refine ⟨_, rfl, t, _, _, _, rfl, rfl, ht2, rfl, _, rfl, d, some v2, rfl, .inl ⟨kvs, .inr y, .inl hd2, rfl, g2.symm⟩, _, rfl, iteT ?_⟩
    refine ⟨_, rfl, t, _, _, _, rfl, rfl, ht2, rfl, _, rfl, t, _, _, _, rfl, rfl, ht2, rfl, rfl, ?_⟩
    have e : (!decide (V.str x = V.str y)) = true := by simp [ne]
    rw [e]
    exact hQ _ e2
/-! ### are_prices -/
def spAreP : Sp := fun vs H Q _ => ∃ a b c zs zs2 g o ps, vs = [.ref a, .ref b, .ref c] ∧ H a = some (.dK (dkF zs g)) ∧ H b = some (.dK (dkF zs2 o)) ∧ H c = some (.dT (dtF ps)) ∧ a ≠ b ∧ PrN zs zs2 g o ps ∧ ∀ H', Same H H' → Q (.bl true) H'
abbrev N_are_prices : List Str := ["put", "out", "swap", "table", "sign", "price", "pair"]
theorem sc_are_prices : FnScope N_are_prices ["put", "out", "swap"] (defScope (top 24)) := ⟨rfl, rfl, rfl, by decide +kernel, rfl, by decide +kernel, by decide +kernel⟩
theorem c_are_prices (A : At K mg "are_prices" (top 24)) (B : Blt mg) (G1 : GlC mg "MAX_PRICE" (.int 9)) (G2 : GlC mg "MAX_SWAP" (.int 18)) (c_is_sign : Cal P w K mg base 1 "is_sign" (spIsSign K)) (c_is_price : Cal P w K mg base 2 "is_price" (spIsPrice K)) (c_is_pair : Cal P w K mg base 2 "is_pair" (spIsPair K)) : Cal P w K mg base 3 "are_prices" spAreP := by
  refine cal_of A sc_are_prices (fun _ _ _ _ _ _ us hl => match us, hl with | [_, _, _], _ => rfl) (fun vs H Q E h => ?_) (fun f cdv A outer s H vs Q E hr h => ?_)
  · obtain ⟨_, _, _, _, _, _, _, _, rfl, _⟩ := h; rfl
  · obtain ⟨a, b, c, zs, zs2, g, o, ps, rfl, ha, hb, hc, nab, N, hQ⟩ := h
    refine ⟨_, (pss_cons (ps_if (PW.pt (pw_or (pt_not (pt_val (pe_callB (cr_all rfl) (by rfl) B.all (by decide +kernel) (pa_cons (pe_lc (own := [("table", 3)]) (g := gName 3) (tt := tYes) (by rfl) sc_are_prices.nd (pi_tup (pe_tup (pa_cons (pv 0) (pa_cons (pv 1) (pa_cons (pv 2) pa_nil))))) (blkOk_by (own := [("table", 3)]) (N := N_are_prices) (sc := defScope (top 24)) (by decide +kernel)) (fun _ _ _ _ _ => (pg_name (i := 3) sc_are_prices.nd rfl (Or.inl rfl))) (fun _ _ _ _ _ => pts_nil) (fun _ _ _ _ _ => (pe_callB (isSK (K := K) rfl) (by rfl) B.isinstance (by decide +kernel) (pa_cons (pv 3) (pa_cons (pe_bltn (v := .ty "dict") (by rfl) B.dict (by decide +kernel) rfl) pa_nil))))) pa_nil)))) (pw_or1 (pt_cmpR op_eq (pe_callB call_lenD (by rfl) B.len (by decide +kernel) (pa_cons (pv 0) pa_nil)) pe_int (nomark _)))))
      (pss_one (ps_ret pe_bl))
      pss_nil)
      (pss_cons (ps_if (PW.pt (pw_or (pt_not (pt_val (pe_callB (cr_all rfl) (by rfl) B.all (by decide +kernel) (pa_cons (pe_lock (pe_lc (own := [("sign", 4)]) (g := gName 4) (tt := tYes) (by rfl) sc_are_prices.nd (pi_keys (pv 0)) (blkOk_by (own := [("sign", 4)]) (N := N_are_prices) (sc := defScope (top 24)) (by decide +kernel)) (fun _ _ _ _ _ => (pg_name (i := 4) sc_are_prices.nd rfl (Or.inl rfl))) (fun _ _ _ _ _ => pts_nil) (fun _ _ _ _ _ => (pe_c c_is_sign hr (by decide) (by rfl) (pa_cons (pv 4) pa_nil))))) pa_nil)))) (pw_or (pt_cmpR op_ne (pe_callB call_lenD (by rfl) B.len (by decide +kernel) (pa_cons (pv 0) pa_nil)) (pe_callB call_lenD (by rfl) B.len (by decide +kernel) (pa_cons (pv 1) pa_nil)) (nomark _)) (pw_or1 (pt_not (pt_val (pe_callB (cr_all rfl) (by rfl) B.all (by decide +kernel) (pa_cons (pe_lock (pe_lc (own := [("sign", 4)]) (g := gName 4) (tt := tYes) (by rfl) sc_are_prices.nd (pi_keys (pv 0)) (blkOk_by (own := [("sign", 4)]) (N := N_are_prices) (sc := defScope (top 24)) (by decide +kernel)) (fun _ _ _ _ _ => (pg_name (i := 4) sc_are_prices.nd rfl (Or.inl rfl))) (fun _ _ _ _ _ => pts_nil) (fun _ _ _ _ _ => (pe_cmp (pc_din (hu_of hr) (pv 4) (pv 1)))))) pa_nil))))))))
        (pss_one (ps_ret pe_bl))
        pss_nil)
      (pss_cons (ps_if (pt_not (pt_val (pe_callB (cr_all rfl) (by rfl) B.all (by decide +kernel) (pa_cons (pe_lc (own := [("price", 5)]) (g := gName 5) (tt := tYes) (by rfl) sc_are_prices.nd (pi_list (pe_op op_cat (pe_listVals rfl (pv 0) (by rfl) B.list) (pe_listVals rfl (pv 1) (by rfl) B.list))) (blkOk_by (own := [("price", 5)]) (N := N_are_prices) (sc := defScope (top 24)) (by decide +kernel)) (fun _ _ _ _ _ => (pg_name (i := 5) sc_are_prices.nd rfl (Or.inl rfl))) (fun _ _ _ _ _ => pts_nil) (fun _ _ _ _ _ => (pe_c c_is_price hr (by decide) (by rfl) (pa_cons (pv 5) (pa_cons (pe_gl (by rfl) G1) pa_nil))))) pa_nil))))
        (pss_one (ps_ret pe_bl))
        pss_nil)
      (pss_one (ps_ret (pe_callB (cr_all rfl) (by rfl) B.all (by decide +kernel) (pa_cons (pe_lock (pe_lc (own := [("pair", 6), ("price", 5)]) (tt := tYes) (by rfl) sc_are_prices.nd (pi_itemsT (pv 2)) (blkOk_by (own := [("pair", 6), ("price", 5)]) (N := N_are_prices) (sc := defScope (top 24)) (by decide +kernel)) (fun _ _ _ _ _ => (pg_tupK (K := K) (n := 2) rfl rfl (pgs_cons (pg_name (i := 6) sc_are_prices.nd rfl (Or.inl rfl)) (pgs_cons (pg_name (i := 5) sc_are_prices.nd rfl (Or.inl rfl)) pgs_nil)))) (fun _ _ _ _ _ => pts_nil) (fun _ _ _ _ _ => pe_and (pe_c c_is_pair hr (by decide) (by rfl) (pa_cons (pv 6) (pa_cons (pv 0) pa_nil))) (pe_one (pe_c c_is_price hr (by decide) (by rfl) (pa_cons (pv 5) (pa_cons (pe_gl (by rfl) G2) pa_nil))))))) pa_nil))))))), ?_⟩
    have lz : (dkF zs g).length = zs.length := by simp [dkF]
    have lz2 : (dkF zs2 o).length = zs.length := by simp [dkF, N.pm.length_eq]
    -- all are dicts
    refine ⟨_, rfl, _, rfl, _, rfl, (show 3 ≤ sizeLine by decide), fun p hp => ⟨p, rfl, ⟨_, .inl (.inl upd_same)⟩, fun D hD => ?_⟩⟩
    have e1 : Same H (upd H p (.tup [.ref a, .ref b, .ref c])) := same_new hp
    refine lc_tplE (.inl (.inl upd_same)) hD (show 3 ≤ 1000000 by decide) (fun _ => true) (fun x => .bl true) (fun x _ => rfl) (fun x _ H2 e2 Q q => q _ (Same.refl _)) (fun x hx _ H2 e2 Q q => ?_) (fun H2 e2 h2 => ?_)
    · refine ⟨_, rfl, x, "dict", true, rfl, ?_, q _ (Same.refl _)⟩
      have ea := e2 _ _ (e1 _ _ ha)
      have eb := e2 _ _ (e1 _ _ hb)
      have ec := e2 _ _ (e1 _ _ hc)
      have hx' : x = .ref a ∨ x = .ref b ∨ x = .ref c := by simpa using hx
      rcases hx' with rfl | rfl | rfl
      · exact .ty (.base (.dK ea)) (by decide +kernel)
      · exact .ty (.base (.dK eb)) (by decide +kernel)
      · exact .ty (.base (.dT ec)) (by decide +kernel)
    refine ⟨D, [true, true, true], rfl, .inl (.inl h2), _, rfl, iteF ?_⟩
    have e2 := e1.trans e2
    refine ⟨_, rfl, a, _, rfl, e2 _ _ ha, rfl, _, rfl, ?_⟩
    rw [show decide (V.int ((dkF zs g).length : Nat) = V.int 0) = false from decide_eq_false fun z => by have := N.pos; injection z with z; omega]
    refine iteF ?_
    have ks : ∀ x ∈ (dkF zs g).map (fun kv => kV kv.1), ∃ z ∈ zs, x = .str z := fun x hx => by
      unfold dkF at hx
      rw [List.map_map] at hx
      obtain ⟨z, hz, rfl⟩ := List.mem_map.mp hx
      exact ⟨z, hz, rfl⟩
    have kl : (dkF zs g).length ≤ 1000000 := by have := N.le; omega
    have bs : ((((dkF zs g).map fun kv => kV kv.1).filter fun _ => true).map fun _ => V.bl true) = (List.replicate zs.length true).map V.bl := by
      unfold dkF
      rw [filter_all, List.map_map, List.map_map, List.map_replicate]
      exact List.map_const' ..
    have ball : ∀ n, (List.replicate n true).all id = true := fun n => by simp
    -- all keys are signs
    refine ⟨a, _, e2 _ _ ha, trivial, fun od => ⟨_, rfl, a, od, rfl, .inl ⟨_, upd_same, fun D2 hD2 => ?_⟩⟩⟩
    refine lc_keysL (e2 _ _ ha) hD2 kl (fun _ => true) (fun x => .bl true) (fun x _ => rfl) (fun x _ H3 _ _ Q q => q) (fun x hx _ H3 f3 _ Q q => ?_) (fun H3 f3 e3 h3 => ⟨f3, ?_⟩)
    · obtain ⟨z, hz, rfl⟩ := ks x hx
      refine ⟨_, rfl, _, rfl, .str (by rw [len_one (N.sg z hz)]; decide), ?_⟩
      rw [isSign_one (N.sg z hz)]
      exact q
    generalize upd H3 a (.dK (dkF zs g)) = H3' at *
    rw [bs] at h3
    refine ⟨D2, _, rfl, .inl (.inl h3), _, rfl, ?_⟩
    rw [ball]
    refine iteF ?_
    have e3 := e2.trans e3
    refine ⟨_, rfl, a, _, rfl, e3 _ _ ha, _, rfl, b, _, rfl, e3 _ _ hb, rfl, _, rfl, ?_⟩
    rw [lz, lz2, show (!decide (V.int (zs.length : Nat) = V.int (zs.length : Nat))) = false by simp]
    refine iteF ?_
    -- all keys in out
    refine ⟨a, _, e3 _ _ ha, trivial, fun od => ⟨_, rfl, a, od, rfl, .inl ⟨_, upd_same, fun D3 hD3 => ?_⟩⟩⟩
    refine lc_keysL (e3 _ _ ha) hD3 kl (fun _ => true) (fun x => .bl true) (fun x _ => rfl) (fun x _ H3 _ _ Q q => q) (fun x hx _ H3 f3 k3 Q q => ?_) (fun H4 f4 e4 h4 => ⟨f4, ?_⟩)
    · obtain ⟨z, hz, rfl⟩ := ks x hx
      refine ⟨_, rfl, _, rfl, b, some (.int (o z)), rfl, .inl ⟨_, .inr z, .inl (k3 b _ nab.symm (e3 _ _ hb)), rfl, ?_⟩, q⟩
      exact (dkF_val (N.pm.nodup_iff.mpr N.nd) o (N.pm.mem_iff.mpr hz)).symm
    generalize upd H4 a (.dK (dkF zs g)) = H4' at *
    rw [bs] at h4
    refine ⟨D3, _, rfl, .inl (.inl h4), _, rfl, ?_⟩
    rw [ball]
    refine iteF ?_
    have e4 := e3.trans e4
    -- prices
    refine ⟨_, rfl, a, _, rfl, e4 _ _ ha, fun p1 hp1 => ?_⟩
    have e5 := e4.trans (same_new (o := .lst ((dkF zs g).map (·.2))) hp1)
    refine ⟨_, rfl, b, _, rfl, e5 _ _ hb, fun p2 hp2 => ⟨p1, p2, (dkF zs g).map (·.2), (dkF zs2 o).map (·.2), rfl, rfl, ?_, upd_same, ?_, fun p3 hp3 => ?_⟩⟩
    · rw [upd_ne (ne_of_none upd_same hp2), upd_same]
    · have := N.le
      have : 1000 ≤ sizeLine := by decide
      simp only [List.length_map, lz, lz2]
      omega
    have e6 := e5.trans (same_new (o := .lst ((dkF zs2 o).map (·.2))) hp2)
    have e7 := e6.trans (same_new (o := .lst ((dkF zs g).map (·.2) ++ (dkF zs2 o).map (·.2))) hp3)
    refine ⟨p3, rfl, ⟨_, .inl (.inl upd_same)⟩, fun D4 hD4 => ?_⟩
    refine lc_lstE (.inl (.inl upd_same)) hD4 (by have := N.le; simp only [List.length_append, List.length_map, lz, lz2]; omega) (fun _ => true) (fun x => .bl true) (fun x _ => rfl) (fun x _ H2 e2 Q q => q _ (Same.refl _)) (fun x hx _ H2 e2 Q q => ?_) (fun H8 e8 h8 => ?_)
    · have hx' : ∃ n, x = .int n ∧ 1 ≤ n ∧ n ≤ 9 := by
        rcases List.mem_append.mp hx with hx | hx
        · unfold dkF at hx
          rw [List.map_map] at hx
          obtain ⟨z, hz, rfl⟩ := List.mem_map.mp hx
          exact ⟨_, rfl, N.pg z hz⟩
        · unfold dkF at hx
          rw [List.map_map] at hx
          obtain ⟨z, hz, rfl⟩ := List.mem_map.mp hx
          exact ⟨_, rfl, N.po z (N.pm.mem_iff.mp hz)⟩
      obtain ⟨n, rfl, n1, n2⟩ := hx'
      refine ⟨_, rfl, .int n, 9, rfl, .inl ⟨n, rfl, ?_⟩⟩
      rw [isInt_of (by omega) (by omega), decide_eq_true n1, decide_eq_true n2]
      exact q _ (Same.refl _)
    have b8 : (((((dkF zs g).map (·.2) ++ (dkF zs2 o).map (·.2)).filter fun _ => true).map fun _ => V.bl true)) = (List.replicate (zs.length + zs.length) true).map V.bl := by
      rw [filter_all]
      simp only [List.map_const', List.length_append, List.length_map, lz, lz2, List.map_replicate]
    rw [b8] at h8
    refine ⟨D4, _, rfl, .inl (.inl h8), _, rfl, ?_⟩
    rw [ball]
    refine iteF ?_
    have e8 := e7.trans e8
    -- swaps
    refine ⟨c, _, e8 _ _ hc, trivial, fun od => ⟨_, rfl, c, od, _, rfl, upd_same, fun D5 hD5 => ?_⟩⟩
    have nDc : D5 ≠ c := fun z => by rw [z, upd_same] at hD5; cases hD5
    have hD5' : H8 D5 = none := by rw [upd_ne nDc] at hD5; exact hD5
    have nca : c ≠ a := fun z => by rw [z, ha] at hc; cases hc
    refine lc_it walk_itemsT (fun i H' => Same H8 (upd H' c (.dT (dtF ps))) ∧ H' c = some (.frz od (.dT (dtF ps))) ∧ H' D5 = some (.lst ((List.replicate i true).map V.bl))) ⟨?_, by rw [upd_ne nDc.symm, upd_same], upd_same⟩ (fun i H' _ e => e.2.1) (fun i x H1 H2 hi e y => ?_) (fun H9 e => ?_)
    · exact (same_lock (e8 _ _ hc) hD5).1
    · obtain ⟨e9, f9, h9⟩ := e
      obtain ⟨T, k, v, q, hkv, rfl, hT, hq, rfl⟩ := y
      have nT : T ≠ c := fun z => by rw [z, f9] at hT; cases hT
      have nTD : T ≠ D5 := fun z => by rw [z, h9] at hT; cases hT
      unfold dtF at hkv
      rw [List.getElem?_map] at hkv
      obtain ⟨⟨⟨z1, z2⟩, n⟩, hx, ekv⟩ := Option.map_eq_some_iff.mp hkv
      cases ekv
      obtain ⟨i1, i2, ne, n1, n2⟩ := N.sp _ (List.mem_of_getElem? hx)
      refine ⟨T, [.ref q, .int n], rfl, .inl (.inl upd_same), rfl, _, _, rfl, _, _, rfl, rfl, rfl, yes_q (iteT ?_)⟩
      have hq2 : upd H1 T (.tup [.ref q, .int n]) q = some (.tup [.str z1, .str z2]) := by rw [upd_ne (ne_of_none hq hT)]; exact hq
      have ha2 : upd H1 T (.tup [.ref q, .int n]) a = some (.dK (dkF zs g)) := by
        have z := e9 _ _ (e8 _ _ ha)
        rw [upd_ne nca.symm] at z
        rw [upd_ne (ne_of_none z hT)]
        exact z
      refine ⟨_, rfl, _, rfl, q, a, z1, z2, _, rfl, .inl (.inl hq2), ha2, isSign_one (N.sg _ i1), isSign_one (N.sg _ i2), ⟨_, dkF_val N.nd g i1⟩, ⟨_, dkF_val N.nd g i2⟩, ne, fun H3 e3 => ⟨_, rfl, iteT ?_⟩⟩
      refine ⟨_, rfl, .int n, 18, rfl, .inl ⟨n, rfl, ?_⟩⟩
      rw [isInt_of (by omega) (by omega), decide_eq_true n1, decide_eq_true n2]
      have D3 : H3 D5 = some (.lst ((List.replicate i true).map V.bl)) := e3 _ _ (by rw [upd_ne nTD.symm]; exact h9)
      refine ⟨_, D3, ?_, ?_, ?_, ?_⟩
      · have : 1000 ≤ sizeLine := by decide
        have := N.sl
        have hi' : i < (dtF ps).length := hi
        simp [dtF] at hi' ⊢
        omega
      · intro y u hu
        have hu2 := e9 _ _ hu
        by_cases yc : y = c
        · subst yc; rw [upd_same] at hu2 ⊢; exact hu2
        · rw [upd_ne yc] at hu2 ⊢
          have yD : y ≠ D5 := fun z => by rw [z, hD5'] at hu; cases hu
          rw [upd_ne yD]
          exact e3 _ _ (by rw [upd_ne (ne_of_none hu2 hT)]; exact hu2)
      · rw [upd_ne nDc.symm]
        exact e3 _ _ (by rw [upd_ne nT.symm]; exact f9)
      · rw [upd_same, List.replicate_succ', List.map_append]
        rfl
    · obtain ⟨e9, f9, h9⟩ := e
      refine ⟨f9, D5, _, rfl, .inl (.inl (show upd H9 c (.dT (dtF ps)) D5 = some (.lst ((List.replicate (dtF ps).length true).map V.bl)) by rw [upd_ne nDc]; exact h9)), ?_⟩
      rw [ball]
      exact hQ _ (e8.trans e9)
end
end MN
/-! dict comprehensions over signs and pairs; Prices.__init__ -/
namespace MN
open PySem PySem.Spec PyProof.Rows L2
theorem putK_fresh {α : Type} [DecidableEq α] {kvs : List (α × V)} {k : α} {v : V} (h : k ∉ kvs.map (·.1)) : putK kvs k v = kvs ++ [(k, v)] := by
  unfold putK
  rw [if_neg]
  intro q
  obtain ⟨kv, h1, h2⟩ := List.any_eq_true.mp q
  exact h (List.mem_map.mpr ⟨kv, h1, of_decide_eq_true h2⟩)
theorem take_nodup {α : Type} {l : List α} (nd : l.Nodup) {i : Nat} {a : α} (h : l[i]? = some a) : a ∉ l.take i := fun q => by
  obtain ⟨j, hj⟩ := List.mem_iff_getElem?.mp q
  rw [List.getElem?_take] at hj
  split at hj
  · rename_i hji
    have h1 := (List.getElem?_eq_some_iff.mp hj)
    have h2 := (List.getElem?_eq_some_iff.mp h)
    have := (List.getElem_inj (h₀ := h1.1) (h₁ := h2.1) nd).mp (h1.2.trans h2.2.symm)
    omega
  · cases hj
theorem dkF_put {zs : List Str} (g : Str → Int) (nd : zs.Nodup) {i : Nat} {z : Str} (h : zs[i]? = some z) : putK (dkF (zs.take i) g) (.inr z) (.int (g z)) = dkF (zs.take (i + 1)) g := by
  rw [putK_fresh]
  · rw [List.take_add_one, h]
    simp [dkF]
  · rw [dkF_keys]
    intro q
    obtain ⟨y, hy, e⟩ := List.mem_map.mp q
    cases e
    exact take_nodup nd h hy
theorem dtF_put {ps : List ((Str × Str) × Int)} (nd : (ps.map Prod.fst).Nodup) {i : Nat} {x y : Str} {n : Int} (h : ps[i]? = some ((x, y), n)) : putK (dtF (ps.take i)) [.inr x, .inr y] (.int n) = dtF (ps.take (i + 1)) := by
  rw [putK_fresh]
  · rw [List.take_add_one, h]
    simp [dtF]
  · intro q
    unfold dtF at q
    rw [List.map_map] at q
    obtain ⟨a, ha, e⟩ := List.mem_map.mp q
    have e' : ([Sum.inr a.1.1, Sum.inr a.1.2] : List Key) = [.inr x, .inr y] := e
    injection e' with e1 e2
    injection e2 with e2 _
    have ea : a.1 = (x, y) := Prod.ext (Sum.inr.inj e1) (Sum.inr.inj e2)
    have hi : (ps.map Prod.fst)[i]? = some (x, y) := by rw [List.getElem?_map, h]; rfl
    refine take_nodup nd hi ?_
    rw [← ea, ← List.map_take]
    exact List.mem_map.mpr ⟨a, ha, rfl⟩
theorem perm_map_ex {α β : Type} {f : α → β} : ∀ {l : List β} {F : List α}, l.Perm (F.map f) → ∃ F' : List α, F'.Perm F ∧ l = F'.map f
  | [], F, h => by
    have := h.length_eq
    cases F with
    | nil => exact ⟨[], .refl _, rfl⟩
    | cons => simp at this
  | a :: l, F, h => by
    obtain ⟨x, hx, rfl⟩ := List.mem_map.mp (h.mem_iff.mp List.mem_cons_self)
    obtain ⟨s, t, rfl⟩ := List.append_of_mem hx
    have p : (s ++ x :: t).Perm (x :: (s ++ t)) := List.perm_middle
    have h2 := h.trans (p.map f)
    rw [List.map_cons] at h2
    obtain ⟨F', q, e⟩ := perm_map_ex (h2.cons_inv)
    exact ⟨x :: F', (q.cons x).trans p.symm, by rw [e]; rfl⟩
section
variable {K : PySem.W.Frag} {a D : Addr} {H1 : Hp} {σ : L2.St} {vs : List Nat} {tk tv : TE} {j : Nat} {Qd : Hp → Prop}
def DcGoal (o0 : HO) (J : It) (g : TG) (tt : TT) (tk tv : TE) (vs : List Nat) (σ : L2.St) (H1 : Hp) (D : Addr) (Qd : Hp → Prop) : Prop := ∃ W : Nat → Nat → Hp → Prop, (∃ m, W 0 m (upd H1 D o0)) ∧ ∀ i m H, W i m H →
  (J.stop i H ∧ Qd H) ∨ (J.go i H ∧ ∃ Nx : Hp → Prop, (∀ H', Nx H' → ∃ m', m' < m ∧ W (i + 1) m' H') ∧ ∀ x H', J.yld i H x H' → g x (wipe σ vs) H' fun σ2 H2 => wipe σ2 vs = wipe σ vs ∧ tt σ2 H2 fun b H3 =>
    if b = true then tk σ2 H3 fun y H4 => tv σ2 H4 fun z H5 => ∃ H6, DPut H5 D y z H6 ∧ Nx H6 else Nx H3)
/-- {y: g(y) for y in signs} -/
theorem dp_signs {ys : List Str} (hs : SqL K H1 a (ys.map V.str)) (nd : ys.Nodup) (hz : ys.length ≤ 1000) (hD : H1 D = none) (g : Str → Int) (hw : ∀ y ∈ ys, wipe ((wipe σ vs).set j (some (.str y))) vs = wipe σ vs)
    (hk : ∀ y ∈ ys, ∀ H2, Same H1 H2 → ∀ Q : VK, Q (.str y) H2 → tk ((wipe σ vs).set j (some (.str y))) H2 Q) (hv : ∀ y ∈ ys, ∀ H2, Same H1 H2 → ∀ Q : VK, (∀ H3, Same H2 H3 → Q (.int (g y)) H3) → tv ((wipe σ vs).set j (some (.str y))) H2 Q)
    (hd : ∀ H', Same H1 H' → H' D = some (.dK (dkF ys g)) → Qd H') : DcGoal (.dK []) (Itl K a) (gName j) tYes tk tv vs σ H1 D Qd := by
  refine dp_it walk_list (fun i H' => Same H1 H' ∧ H' D = some (.dK (dkF (ys.take i) g))) ⟨same_new hD, by rw [List.take_zero]; exact upd_same⟩ (fun i H' _ e => Same.seq e.1 hs) (fun i x H H' hi e y => ?_) (fun H' e => ?_)
  · obtain ⟨rfl, hx⟩ := y
    obtain ⟨e1, e2⟩ := e
    rw [List.getElem?_map] at hx
    obtain ⟨y, hy, rfl⟩ := Option.map_eq_some_iff.mp hx
    have hm := List.mem_of_getElem? hy
    refine ⟨hw y hm, yes_q (iteT (hk y hm _ e1 _ (hv y hm _ e1 _ fun H3 e3 => ⟨_, .inl ⟨_, .inr y, e3 _ _ e2, rfl, ?_, rfl⟩, fun b o q => ?_, ?_⟩)))⟩
    · have : 100000 < sizeLine := by decide
      simp [dkF]
      omega
    · rw [upd_ne (ne_of_none q hD)]; exact e3 _ _ (e1 _ _ q)
    · rw [upd_same, dkF_put g nd hy]
  · obtain ⟨e1, e2⟩ := e
    refine hd H' e1 ?_
    rw [List.length_map, List.take_length] at e2
    exact e2
/-- {pair: price for pair in a list of pairs} -/
theorem dp_pairs {F : List (((Str × Str) × Int) × Addr)} (hs : SqL K H1 a (F.map fun e => V.ref e.2)) (nd : ((F.map Prod.fst).map Prod.fst).Nodup) (hz : F.length ≤ 1000) (hF : ∀ e ∈ F, H1 e.2 = some (.tup [.str e.1.1.1, .str e.1.1.2])) (hD : H1 D = none) (hw : ∀ e ∈ F, wipe ((wipe σ vs).set j (some (.ref e.2))) vs = wipe σ vs)
    (hk : ∀ e ∈ F, ∀ H2, Same H1 H2 → ∀ Q : VK, Q (.ref e.2) H2 → tk ((wipe σ vs).set j (some (.ref e.2))) H2 Q) (hv : ∀ e ∈ F, ∀ H2, Same H1 H2 → ∀ Q : VK, (∀ H3, Same H2 H3 → Q (.int e.1.2) H3) → tv ((wipe σ vs).set j (some (.ref e.2))) H2 Q)
    (hd : ∀ H', Same H1 H' → H' D = some (.dT (dtF (F.map Prod.fst))) → Qd H') : DcGoal (.dT []) (Itl K a) (gName j) tYes tk tv vs σ H1 D Qd := by
  refine dp_it walk_list (fun i H' => Same H1 H' ∧ H' D = some (.dT (dtF ((F.map Prod.fst).take i)))) ⟨same_new hD, by rw [List.take_zero]; exact upd_same⟩ (fun i H' _ e => Same.seq e.1 hs) (fun i x H H' hi e y => ?_) (fun H' e => ?_)
  · obtain ⟨rfl, hx⟩ := y
    obtain ⟨e1, e2⟩ := e
    rw [List.getElem?_map] at hx
    obtain ⟨f, hf, rfl⟩ := Option.map_eq_some_iff.mp hx
    have hm := List.mem_of_getElem? hf
    have hi2 : (F.map Prod.fst)[i]? = some ((f.1.1.1, f.1.1.2), f.1.2) := by rw [List.getElem?_map, hf]; rfl
    refine ⟨hw f hm, yes_q (iteT (hk f hm _ e1 _ (hv f hm _ e1 _ fun H3 e3 => ⟨_, .inr ⟨_, [.inr f.1.1.1, .inr f.1.1.2], f.2, e3 _ _ e2, rfl, e3 _ _ (e1 _ _ (hF f hm)), ?_, rfl⟩, fun b o q => ?_, ?_⟩)))⟩
    · have : 100000 < sizeLine := by decide
      simp [dtF]
      omega
    · rw [upd_ne (ne_of_none q hD)]; exact e3 _ _ (e1 _ _ q)
    · rw [upd_same, dtF_put nd hi2]
  · obtain ⟨e1, e2⟩ := e
    refine hd H' e1 ?_
    rw [List.length_map, ← List.length_map (f := Prod.fst), List.take_length] at e2
    exact e2
end
/-- an instance with put, out and swap prices (Prices, Closed) -/
def PrAt (C : Addr) (H : Hp) (x dx : Addr) (ys ys2 : List Str) (g o : Str → Int) (qs : List ((Str × Str) × Int)) : Prop :=
  ∃ A B S ws, Sl2 H x C dx ws ∧ ws[1]? = some (some (.ref A)) ∧ ws[0]? = some (some (.ref B)) ∧ ws[2]? = some (some (.ref S)) ∧ A ≠ B ∧ H A = some (.dK (dkF ys g)) ∧ H B = some (.dK (dkF ys2 o)) ∧ H S = some (.dT (dtF qs))
theorem PrAt.same {C : Addr} {H H' : Hp} {x dx : Addr} {ys ys2 : List Str} {g o : Str → Int} {qs : List ((Str × Str) × Int)} (h : PrAt C H x dx ys ys2 g o qs) (e : Same H H') : PrAt C H' x dx ys ys2 g o qs := by
  obtain ⟨A, B, S, ws, h1, h2, h3, h4, h5, h6, h7, h8⟩ := h
  exact ⟨A, B, S, ws, ⟨e _ _ h1.1, e _ _ h1.2⟩, h2, h3, h4, h5, e _ _ h6, e _ _ h7, e _ _ h8⟩
/-- a class with these slots -/
structure SlotC (K : PySem.W.Frag) (C : Addr) : Prop where
  sc : SlX.SCls K C
  s0 : ∃ p, SlX.Slot1 K C "own_out" p 0
  s1 : ∃ p, SlX.Slot1 K C "own_put" p 1
  s2 : ∃ p, SlX.Slot1 K C "own_swap" p 2
theorem Sl2.slt {H : Hp} {a C dx : Addr} {ws : List (Option V)} (h : Sl2 H a C dx ws) : SlX.Slt H a C dx ws := .inr h
theorem PrN.perm {zs zs2 ys ys2 : List Str} {g o : Str → Int} {ps qs : List ((Str × Str) × Int)} (N : PrN zs zs2 g o ps) (h1 : ys.Perm zs) (h2 : ys2.Perm zs) (h3 : qs.Perm ps) : PrN ys ys2 g o qs := by
  refine ⟨fun z h => N.sg z (h1.mem_iff.mp h), h1.nodup_iff.mpr N.nd, by rw [h1.length_eq]; exact N.pos, by rw [h1.length_eq]; exact N.le, h2.trans h1.symm, fun z h => N.pg z (h1.mem_iff.mp h), fun z h => N.po z (h1.mem_iff.mp h), (h3.map _).nodup_iff.mpr N.sn, fun x h => ?_, by rw [h3.length_eq]; exact N.sl⟩
  obtain ⟨a, b, c⟩ := N.sp x (h3.mem_iff.mp h)
  exact ⟨h1.mem_iff.mpr a, h1.mem_iff.mpr b, c⟩
/-- the pairs of a dict and their tuples' places -/
theorem keys_zip {H : Hp} {ps : List ((Str × Str) × Int)} {bs : List Addr} (h : IsKeys H (dtF ps) bs) : ∃ F : List (((Str × Str) × Int) × Addr), F.map Prod.fst = ps ∧ F.map Prod.snd = bs ∧ ∀ e ∈ F, H e.2 = some (.tup [.str e.1.1.1, .str e.1.1.2]) := by
  induction ps generalizing bs with
  | nil => cases h; exact ⟨[], rfl, rfl, fun _ h => nomatch h⟩
  | cons p ps ih =>
    cases h with
    | cons h1 h2 =>
      rename_i b bs
      obtain ⟨F, e1, e2, e3⟩ := ih h2
      refine ⟨(p, b) :: F, by rw [List.map_cons, e1], by rw [List.map_cons, e2], fun e he => ?_⟩
      rcases List.mem_cons.mp he with rfl | he
      · exact h1
      · exact e3 e he
section
variable {P : Program} {w : World} {K : PySem.W.Frag} {mg : Str → Option Value} {base : Heap}
def spPInit (C : Addr) : Sp := fun vs H Q _ => ∃ x dx a b c zs zs2 g o ps, vs = [.ref x, .ref a, .ref b, .ref c] ∧ H x = some (.ins C dx []) ∧ H dx = some (.own x) ∧ dx ≠ x ∧
  H a = some (.dK (dkF zs g)) ∧ H b = some (.dK (dkF zs2 o)) ∧ H c = some (.dT (dtF ps)) ∧ a ≠ b ∧ PrN zs zs2 g o ps ∧
  ∀ H' ys ys2 qs, Kp x dx H H' → PrAt C H' x dx ys ys2 g o qs → PrN ys ys2 g o qs → ys.Perm zs → sortedS ys = true → qs.Perm ps → Q .non H'
abbrev N_pinit : List Str := ["self", "put", "out", "swap", "sign", "pair"]
theorem sc_pinit : FnScope N_pinit ["self", "put", "out", "swap"] (defScope (inClass (top 27) 1)) := ⟨rfl, rfl, rfl, by decide +kernel, rfl, by decide +kernel, by decide +kernel⟩
theorem f_pinit {C f : Addr} {fd : FuncData} (PC : SlotC K C) (F : FunAt K "__init__" "Prices.__init__" (inClass (top 27) 1) [] f fd) (B : Blt mg) (c_are_prices : Cal P w K mg base 3 "are_prices" spAreP) : FnOk P w K mg base CX0 4 f fd ["self", "put", "out", "swap"] (spPInit C) := by
  refine fnok_of F sc_pinit (fun vs H Q E h => ?_) (fun cdv A outer s H vs Q E hr h => ?_)
  · obtain ⟨_, _, _, _, _, _, _, _, _, _, rfl, _⟩ := h; rfl
  · obtain ⟨x, dx, a, b, c, zs, zs2, g, o, ps, rfl, hx, hdx, dxx, ha, hb, hc, nab, N, hQ⟩ := h
    obtain ⟨p0, s0⟩ := PC.s0
    obtain ⟨p1, s1⟩ := PC.s1
    obtain ⟨p2, s2⟩ := PC.s2
    refine ⟨_, pss_cons (ps_if (pt_not (pt_val (pe_c c_are_prices hr (by decide) (by rfl) (pa_cons (pv 1) (pa_cons (pv 2) (pa_cons (pv 3) pa_nil)))))) (pss_one ps_never) pss_nil)
      (pss_cons (SlX.ps_sl (pv 0) (pe_dp1 (own := [("sign", 4)]) (o0 := .dK []) (g := gName 4) (tt := tYes) rfl (hu_of hr) sc_pinit.nd (pi_list (pe_callB cr_sortedS (by rfl) B.sorted (by decide +kernel) (pa_cons (pe_callTy (call_list_dK rfl) (by rfl) B.list (by decide +kernel) (pa_cons (pv 1) pa_nil)) pa_nil)))
        (blkOk_by (own := [("sign", 4)]) (N := N_pinit) (sc := defScope (inClass (top 27) 1)) (by decide +kernel)) (fun _ _ _ _ _ => (pg_name (i := 4) sc_pinit.nd rfl (Or.inl rfl))) (fun _ _ _ _ _ => pts_nil) (fun _ _ _ _ _ => pv 4) (fun _ _ _ _ _ => pe_dget (hu_of hr) (pv 1) (pv 4) (fun _ _ => rfl)) (.inl rfl)))
      (pss_cons (SlX.ps_sl (pv 0) (pe_dp1 (own := [("sign", 4)]) (o0 := .dK []) (g := gName 4) (tt := tYes) rfl (hu_of hr) sc_pinit.nd (pi_list (pe_callB cr_sortedS (by rfl) B.sorted (by decide +kernel) (pa_cons (pe_callTy (call_list_dK rfl) (by rfl) B.list (by decide +kernel) (pa_cons (pv 1) pa_nil)) pa_nil)))
        (blkOk_by (own := [("sign", 4)]) (N := N_pinit) (sc := defScope (inClass (top 27) 1)) (by decide +kernel)) (fun _ _ _ _ _ => (pg_name (i := 4) sc_pinit.nd rfl (Or.inl rfl))) (fun _ _ _ _ _ => pts_nil) (fun _ _ _ _ _ => pv 4) (fun _ _ _ _ _ => pe_dget (hu_of hr) (pv 2) (pv 4) (fun _ _ => rfl)) (.inl rfl)))
      (pss_one (SlX.ps_sl (pv 0) (pe_dp1 (own := [("pair", 5)]) (o0 := .dT []) (g := gName 5) (tt := tYes) rfl (hu_of hr) sc_pinit.nd (pi_list (pe_callB (cr_sortedD hr.units) (by rfl) B.sorted (by decide +kernel) (pa_cons (pe_callTy (call_list_dT rfl) (by rfl) B.list (by decide +kernel) (pa_cons (pv 3) pa_nil)) pa_nil)))
        (blkOk_by (own := [("pair", 5)]) (N := N_pinit) (sc := defScope (inClass (top 27) 1)) (by decide +kernel)) (fun _ _ _ _ _ => (pg_name (i := 5) sc_pinit.nd rfl (Or.inl rfl))) (fun _ _ _ _ _ => pts_nil) (fun _ _ _ _ _ => pv 5) (fun _ _ _ _ _ => pe_dget (hu_of hr) (pv 3) (pv 5) (fun _ _ => rfl)) (.inr rfl)))))), ?_⟩
    refine ⟨_, rfl, _, rfl, _, rfl, a, b, c, zs, zs2, g, o, ps, rfl, ha, hb, hc, nab, N, fun H1 e1 => ⟨_, rfl, iteF ?_⟩⟩
    have keyz : ∀ f : Str → Int, (dkF zs f).map (fun kv => kV kv.1) = zs.map V.str := fun f => by unfold dkF; rw [List.map_map]; rfl
    have l64 : zs.length < 64 := by have := N.le; omega
    have apart : ∀ {t : Addr} {kvs : List (Key × V)}, H t = some (.dK kvs) → t ≠ x ∧ t ≠ dx := fun h => ⟨fun z => (by rw [z, hx] at h; cases h), fun z => (by rw [z, hdx] at h; cases h)⟩
    have cx : c ≠ x := fun z => by rw [z, hx] at hc; cases hc
    have cd : c ≠ dx := fun z => by rw [z, hdx] at hc; cases hc
    obtain ⟨ax, ad⟩ := apart ha
    obtain ⟨bx, bd⟩ := apart hb
    have k1 : Kp x dx H H1 := fun b o _ _ q => e1 _ _ q
    -- own_put
    refine ⟨_, rfl, a, _, rfl, k1 _ _ ax ad ha, fun q hq => ⟨q, zs, rfl, .inl (.inl (by rw [keyz]; exact upd_same)), l64, fun ys p hys hso hp => ?_⟩⟩
    refine ⟨p, rfl, ⟨_, .inl (.inl upd_same)⟩, fun D hD => ?_⟩
    have e2 : Same H1 (upd (upd H1 q (.lst ((dkF zs g).map fun kv => kV kv.1))) p (.lst (ys.map V.str))) := (same_new hq).trans (same_new hp)
    refine dp_signs (.inl (.inl upd_same)) (hys.nodup_iff.mpr N.nd) (by have := hys.length_eq; omega) hD g (fun _ _ => rfl) (fun y _ H2 _ Q q => ⟨_, rfl, q⟩) (fun y hy H2 e Q q => ⟨_, rfl, _, rfl, a, .int (g y), rfl, .inl ⟨_, .inr y, .inl (e _ _ (e2 _ _ (k1 _ _ ax ad ha))), rfl, (dkF_val N.nd g (hys.mem_iff.mp hy)).symm⟩, q _ (Same.refl _)⟩) (fun H2 e3 hD2 => ?_)
    have e4 := e2.trans e3
    refine ⟨_, rfl, x, C, dx, p1, [], 1, rfl, .inl ⟨e4 _ _ (e1 _ _ hx), rfl⟩, PC.sc, s1, ?_⟩
    have fD : H1 D = none := e2.free hD
    have Dx : D ≠ x := (ne_of_none (e1 _ _ hx) fD).symm
    have Dd : D ≠ dx := (ne_of_none (e1 _ _ hdx) fD).symm
    have k3 : Kp x dx H (SlX.slH H2 x C dx (SlX.putS 1 (.ref D) [])) := (k1.same e4).sl
    have z3 : Sl2 (SlX.slH H2 x C dx (SlX.putS 1 (.ref D) [])) x C dx (SlX.putS 1 (.ref D) []) := slH_sl2 dxx
    have w3 : (SlX.putS 1 (.ref D) [])[1]? = some (some (.ref D)) := SlX.putS_get _ _ _
    have hD3 : SlX.slH H2 x C dx (SlX.putS 1 (.ref D) []) D = some (.dK (dkF ys g)) := by rw [SlX.slH_ne Dx Dd]; exact hD2
    generalize SlX.putS 1 (.ref D) [] = v3 at *
    generalize SlX.slH H2 x C dx v3 = H3 at *
    clear hD hD2 fD hp hq e2 e3 e4 k1 e1
    -- own_out
    refine ⟨_, rfl, a, _, rfl, k3 _ _ ax ad ha, fun q hq => ⟨q, zs, rfl, .inl (.inl (by rw [keyz]; exact upd_same)), l64, fun ys2 p hys2 _ hp => ?_⟩⟩
    refine ⟨p, rfl, ⟨_, .inl (.inl upd_same)⟩, fun D5 hD5 => ?_⟩
    have e2 : Same H3 (upd (upd H3 q (.lst ((dkF zs g).map fun kv => kV kv.1))) p (.lst (ys2.map V.str))) := (same_new hq).trans (same_new hp)
    refine dp_signs (.inl (.inl upd_same)) (hys2.nodup_iff.mpr N.nd) (by have := hys2.length_eq; omega) hD5 o (fun _ _ => rfl) (fun y _ H2 _ Q q => ⟨_, rfl, q⟩) (fun y hy H2 e Q q => ⟨_, rfl, _, rfl, b, .int (o y), rfl, .inl ⟨_, .inr y, .inl (e _ _ (e2 _ _ (k3 _ _ bx bd hb))), rfl, (dkF_val (N.pm.nodup_iff.mpr N.nd) o (N.pm.mem_iff.mpr (hys2.mem_iff.mp hy))).symm⟩, q _ (Same.refl _)⟩) (fun H4 e3 hD6 => ?_)
    have e4 := e2.trans e3
    refine ⟨_, rfl, x, C, dx, p0, v3, 0, rfl, slt_same e4 (.inr z3), PC.sc, s0, ?_⟩
    have fD : H3 D5 = none := e2.free hD5
    have D5x : D5 ≠ x := (ne_of_none z3.1 fD).symm
    have D5d : D5 ≠ dx := (ne_of_none z3.2 fD).symm
    have n5 : D ≠ D5 := ne_of_none hD3 fD
    have k5 : Kp x dx H (SlX.slH H4 x C dx (SlX.putS 0 (.ref D5) v3)) := (k3.same e4).sl
    have z5 : Sl2 (SlX.slH H4 x C dx (SlX.putS 0 (.ref D5) v3)) x C dx (SlX.putS 0 (.ref D5) v3) := slH_sl2 dxx
    have w5 : (SlX.putS 0 (.ref D5) v3)[0]? = some (some (.ref D5)) := SlX.putS_get _ _ _
    have w5' : (SlX.putS 0 (.ref D5) v3)[1]? = some (some (.ref D)) := (SlX.putS_ne (by decide)).mpr w3
    have hD7 : SlX.slH H4 x C dx (SlX.putS 0 (.ref D5) v3) D5 = some (.dK (dkF ys2 o)) := by rw [SlX.slH_ne D5x D5d]; exact hD6
    have hD8 : SlX.slH H4 x C dx (SlX.putS 0 (.ref D5) v3) D = some (.dK (dkF ys g)) := by rw [SlX.slH_ne Dx Dd]; exact e4 _ _ hD3
    generalize SlX.putS 0 (.ref D5) v3 = v5 at *
    generalize SlX.slH H4 x C dx v5 = H5 at *
    clear hD5 hD6 fD hp hq e2 e3 e4 k3 z3 w3 hD3
    -- own_swap
    refine ⟨_, rfl, c, _, rfl, .inl (k5 _ _ cx cd hc), fun q bs hq hbs => ?_⟩
    obtain ⟨F0, f1, f2, f3⟩ := keys_zip hbs
    have up1 := same_new (o := .lst (bs.map V.ref)) hq
    refine ⟨q, F0.map fun e => (V.ref e.2, PyData.tuple [.str e.1.1.1, .str e.1.1.2]), rfl, .inl (.inl ?_), fun y hy => ?_, fun d1 h1 d2 h2 => ?_, .inl fun d hd => ?_, fun y hy => ?_, fun p hp => ?_⟩
    · rw [upd_same, List.map_map, ← f2, List.map_map]; rfl
    · obtain ⟨e, he, rfl⟩ := List.mem_map.mp hy
      exact dpT (zs := [e.1.1.1, e.1.1.2]) (.inl (.inl (up1 _ _ (f3 e he))))
    · rw [List.map_map] at h1 h2
      obtain ⟨e1, _, rfl⟩ := List.mem_map.mp h1
      obtain ⟨e2, _, rfl⟩ := List.mem_map.mp h2
      rfl
    · rw [List.map_map] at hd
      obtain ⟨e1, _, rfl⟩ := List.mem_map.mp hd
      exact ⟨_, _, rfl⟩
    · obtain ⟨e, he, rfl⟩ := List.mem_map.mp hy
      show PyData.depth _ ≤ 8
      simp [PyData.depth, PyData.depthAll]
    obtain ⟨F', pF, eF⟩ := perm_map_ex (List.mergeSort_perm (F0.map fun e => (V.ref e.2, PyData.tuple [.str e.1.1.1, .str e.1.1.2])) (PySem.W.dataLe false Prod.snd))
    rw [eF, List.map_map] at *
    have pq : (F'.map Prod.fst).Perm ps := by rw [← f1]; exact pF.map _
    have up2 := up1.trans (same_new (o := .lst (F'.map (Prod.fst ∘ fun e : ((Str × Str) × Int) × Addr => (V.ref e.2, PyData.tuple [.str e.1.1.1, .str e.1.1.2])))) hp)
    refine ⟨p, rfl, ⟨_, .inl (.inl upd_same)⟩, fun D9 hD9 => ?_⟩
    refine dp_pairs (F := F') (.inl (.inl upd_same)) ((pq.map _).nodup_iff.mpr N.sn) ?_ (fun e he => up2 _ _ (f3 e (pF.mem_iff.mp he))) hD9 (fun _ _ => rfl) (fun y _ H2 _ Q q => ⟨_, rfl, q⟩) (fun y hy H2 e Q q => ⟨_, rfl, _, rfl, c, .int y.1.2, rfl, .inr ⟨_, [.inr y.1.1.1, .inr y.1.1.2], y.2, .inl (e _ _ (up2 _ _ (k5 _ _ cx cd hc))), rfl, e _ _ (up2 _ _ (f3 y (pF.mem_iff.mp hy))), (dtF_val N.sn (pq.mem_iff.mp (List.mem_map.mpr ⟨y, hy, rfl⟩))).symm⟩, q _ (Same.refl _)⟩) (fun H6 e6 hD6 => ?_)
    · have := N.sl
      have := pq.length_eq
      rw [List.length_map] at this
      omega
    have e7 := up2.trans e6
    have z7 := z5
    refine ⟨_, rfl, x, C, dx, p2, v5, 2, rfl, slt_same e7 (.inr z5), PC.sc, s2, ?_⟩
    have fD : H5 D9 = none := up2.free hD9
    have D9x : D9 ≠ x := (ne_of_none z5.1 fD).symm
    have D9d : D9 ≠ dx := (ne_of_none z5.2 fD).symm
    refine hQ _ ys ys2 (F'.map Prod.fst) (k5.same e7).sl ⟨D, D5, D9, _, slH_sl2 dxx, (SlX.putS_ne (by decide)).mpr w5', (SlX.putS_ne (by decide)).mpr w5, SlX.putS_get _ _ _, n5, ?_, ?_, ?_⟩ (N.perm hys hys2 pq) hys hso pq
    · rw [SlX.slH_ne Dx Dd]; exact e7 _ _ hD8
    · rw [SlX.slH_ne D5x D5d]; exact e7 _ _ hD7
    · rw [SlX.slH_ne D9x D9d]; exact hD6
end
end MN
/-! nodes and signs; tables of prices by pairs of nodes -/
namespace MN
open PySem PySem.Spec PyProof.Rows L2
def sgS (c : Nat) : Str := ⟨#[c]⟩
def nS : Nd → Str
  | none => ""
  | some c => sgS c
theorem nS_inj : ∀ {x y : Nd}, nS x = nS y → x = y
  | none, none, _ => rfl
  | none, some c, h => by
    have h' : (("" : Str)).length = (sgS c).length := by rw [show ("" : Str) = sgS c from h]
    cases h'
  | some c, none, h => by
    have h' : (("" : Str)).length = (sgS c).length := by rw [show sgS c = ("" : Str) from h]
    cases h'
  | some c, some d, h => by
    have h' : sgS c = sgS d := h
    simp [sgS] at h'
    rw [h']
/-- the codes of signs -/
def codesOf (zs : List Str) : List Nat := zs.map fun z => z.cps.toList.headD 0
theorem codes_sg {zs : List Str} (h : ∀ z ∈ zs, ∃ c ∈ ("abcde" : Str).cps.toList, z = ⟨#[c]⟩) : (codesOf zs).map sgS = zs := by
  unfold codesOf
  rw [List.map_map]
  conv => rhs; rw [← List.map_id zs]
  refine List.map_congr_left fun z hz => ?_
  obtain ⟨c, _, rfl⟩ := h z hz
  rfl
theorem mem_codes {zs : List Str} (h : ∀ z ∈ zs, ∃ c ∈ ("abcde" : Str).cps.toList, z = ⟨#[c]⟩) {c : Nat} : c ∈ codesOf zs ↔ sgS c ∈ zs := by
  constructor
  · intro hc
    rw [← codes_sg h]
    exact List.mem_map.mpr ⟨c, hc, rfl⟩
  · intro hc
    rw [← codes_sg h] at hc
    obtain ⟨d, hd, e⟩ := List.mem_map.mp hc
    have := nS_inj (x := some d) (y := some c) e
    cases this
    exact hd
theorem codes_nodup {zs : List Str} (h : ∀ z ∈ zs, ∃ c ∈ ("abcde" : Str).cps.toList, z = ⟨#[c]⟩) (nd : zs.Nodup) : (codesOf zs).Nodup := by
  rw [← codes_sg h, List.Nodup, List.pairwise_map] at nd
  exact nd.imp fun {a b} hab e => hab (by rw [e])
/-- the nodes -/
def ndOf (L : List Nat) : List Nd := none :: L.map some
theorem mem_nd {L : List Nat} {x : Nd} : x ∈ ndOf L ↔ InL L x := by
  unfold ndOf
  cases x with
  | none => simp [InL]
  | some a => simp [InL]
theorem nd_nodup {L : List Nat} (h : L.Nodup) : (ndOf L).Nodup := by
  unfold ndOf
  rw [List.nodup_cons]
  refine ⟨by simp, ?_⟩
  rw [List.Nodup, List.pairwise_map]
  exact h.imp fun {a b} hab e => hab (Option.some.inj e)
def findP (qs : List ((Str × Str) × Int)) (x y : Str) : Option Int := (qs.find? fun q => decide (q.1 = (x, y))).map (·.2)
theorem findP_some {qs : List ((Str × Str) × Int)} (nd : (qs.map Prod.fst).Nodup) {x y : Str} {p : Int} : findP qs x y = some p ↔ ((x, y), p) ∈ qs := by
  unfold findP
  constructor
  · intro h
    obtain ⟨q, hq, rfl⟩ := Option.map_eq_some_iff.mp h
    have h1 := List.mem_of_find?_eq_some hq
    have h2 : q.1 = (x, y) := by simpa using List.find?_some hq
    rw [← h2]
    exact h1
  · intro h
    induction qs with
    | nil => cases h
    | cons q qs ih =>
      rw [List.map_cons, List.nodup_cons] at nd
      rw [List.find?_cons]
      rcases List.mem_cons.mp h with rfl | h
      · simp
      · have : q.1 ≠ (x, y) := fun e => nd.1 (by rw [e]; exact List.mem_map.mpr ⟨_, h, rfl⟩)
        simp only [this, decide_false]
        exact ih nd.2 h
theorem findP_perm {qs qs' : List ((Str × Str) × Int)} (nd : (qs.map Prod.fst).Nodup) (h : qs'.Perm qs) (x y : Str) : findP qs' x y = findP qs x y := by
  have nd' : (qs'.map Prod.fst).Nodup := (h.map _).nodup_iff.mpr nd
  cases e : findP qs x y with
  | some p => exact (findP_some nd').mpr (h.mem_iff.mpr ((findP_some nd).mp e))
  | none =>
    cases e' : findP qs' x y with
    | none => rfl
    | some p =>
      have := (findP_some nd).mpr (h.mem_iff.mp ((findP_some nd').mp e'))
      rw [e] at this
      cases this
/-- the prices, by nodes -/
def rOf (L : List Nat) (g o : Str → Int) (qs : List ((Str × Str) × Int)) : Nd → Nd → Option Int
  | none, none => none
  | none, some b => if b ∈ L then some (g (sgS b)) else none
  | some a, none => if a ∈ L then some (o (sgS a)) else none
  | some a, some b => findP qs (sgS a) (sgS b)
theorem rOf_pos {zs zs2 : List Str} {g o : Str → Int} {ps : List ((Str × Str) × Int)} (N : PrN zs zs2 g o ps) : ∀ x y p, rOf (codesOf zs) g o ps x y = some p → 1 ≤ p := by
  intro x y p h
  cases x with
  | none =>
    cases y with
    | none => cases h
    | some b =>
      change (if b ∈ codesOf zs then some (g (sgS b)) else none) = some p at h
      split at h
      · rename_i hb
        cases h
        exact (N.pg _ ((mem_codes N.sg).mp hb)).1
      · cases h
  | some a =>
    cases y with
    | none =>
      change (if a ∈ codesOf zs then some (o (sgS a)) else none) = some p at h
      split at h
      · rename_i hb
        cases h
        exact (N.po _ ((mem_codes N.sg).mp hb)).1
      · cases h
    | some b =>
      have := N.sp _ ((findP_some N.sn).mp h)
      exact this.2.2.2.1
theorem rOf_all {L : List Nat} {g o : Str → Int} {ps : List ((Str × Str) × Int)} : ∀ a ∈ L, (∃ p, rOf L g o ps none (some a) = some p) ∧ ∃ p, rOf L g o ps (some a) none = some p := fun a h => ⟨⟨_, if_pos h⟩, ⟨_, if_pos h⟩⟩
theorem rOf_in {zs zs2 : List Str} {g o : Str → Int} {ps : List ((Str × Str) × Int)} (N : PrN zs zs2 g o ps) {x y : Nd} {p : Int} (h : rOf (codesOf zs) g o ps x y = some p) : InL (codesOf zs) x ∧ InL (codesOf zs) y ∧ x ≠ y := by
  cases x with
  | none =>
    cases y with
    | none => cases h
    | some b =>
      change (if b ∈ codesOf zs then some (g (sgS b)) else none) = some p at h
      split at h
      · rename_i hb
        exact ⟨InL.no, InL.of hb, fun e => nomatch e⟩
      · cases h
  | some a =>
    cases y with
    | none =>
      change (if a ∈ codesOf zs then some (o (sgS a)) else none) = some p at h
      split at h
      · rename_i hb
        exact ⟨InL.of hb, InL.no, fun e => nomatch e⟩
      · cases h
    | some b =>
      have := N.sp _ ((findP_some N.sn).mp h)
      exact ⟨InL.of ((mem_codes N.sg).mpr this.1), InL.of ((mem_codes N.sg).mpr this.2.1), fun e => this.2.2.1 (by cases e; rfl)⟩
/-- what Clo says hangs on the prices of the nodes alone -/
theorem Clo.congr {L : List Nat} {r r' : Nd → Nd → Option Int} {c : Nd → Nd → Int} (C : Clo L r c) (h : ∀ x y, InL L x → InL L y → r' x y = r x y) : Clo L r' c := by
  refine ⟨C.z, C.pos, C.tri, fun x y p hx hy e => C.le x y p hx hy (by rw [← h x y hx hy]; exact e), fun x y hx hy n => ?_⟩
  obtain ⟨z, p, hz, nz, e, q⟩ := C.last x y hx hy n
  exact ⟨z, p, hz, nz, by rw [h z y hz hy]; exact e, q⟩
theorem Clo.perm {L L' : List Nat} {r : Nd → Nd → Option Int} {c : Nd → Nd → Int} (C : Clo L r c) (h : ∀ a, a ∈ L' ↔ a ∈ L) : Clo L' r c := by
  have k : ∀ x, InL L' x → InL L x := fun x hx a e => (h a).mp (hx a e)
  have k' : ∀ x, InL L x → InL L' x := fun x hx a e => (h a).mpr (hx a e)
  refine ⟨C.z, fun x y hx hy n => C.pos x y (k x hx) (k y hy) n, fun x y z hx hy hz => C.tri x y z (k x hx) (k y hy) (k z hz), fun x y p hx hy e => C.le x y p (k x hx) (k y hy) e, fun x y hx hy n => ?_⟩
  obtain ⟨z, p, hz, nz, e, q⟩ := C.last x y (k x hx) (k y hy) n
  exact ⟨z, p, k' z hz, nz, e, q⟩
theorem Clo.uniq {L : List Nat} {r : Nd → Nd → Option Int} {c c' : Nd → Nd → Int} (C : Clo L r c) (C' : Clo L r c') : ∀ x y, InL L x → InL L y → c x y = c' x y := by
  have key : ∀ {c c' : Nd → Nd → Int}, Clo L r c → Clo L r c' → ∀ (n : Nat) (x y : Nd), InL L x → InL L y → c' x y ≤ n → c x y ≤ c' x y := by
    intro c c' C C' n
    induction n with
    | zero =>
      intro x y hx hy h
      by_cases e : x = y
      · subst e; rw [C.z, C'.z]; exact Int.le_refl _
      · have := C'.pos x y hx hy e; omega
    | succ n ih =>
      intro x y hx hy h
      by_cases e : x = y
      · subst e; rw [C.z, C'.z]; exact Int.le_refl _
      · obtain ⟨z, p, hz, nz, er, ec⟩ := C'.last x y hx hy e
        have p0 := C'.le z y p hz hy er
        have p1 := C'.pos z y hz hy nz
        have h1 := ih x z hx hz (by omega)
        have h2 := C.tri x z y hx hz hy
        have h3 := C.le z y p hz hy er
        omega
  intro x y hx hy
  have n1 : 0 ≤ c' x y := by
    by_cases e : x = y
    · subst e; rw [C'.z]; exact Int.le_refl _
    · have := C'.pos x y hx hy e; omega
  have n2 : 0 ≤ c x y := by
    by_cases e : x = y
    · subst e; rw [C.z]; exact Int.le_refl _
    · have := C.pos x y hx hy e; omega
  have h1 := key C C' (c' x y).toNat x y hx hy (by omega)
  have h2 := key C' C (c x y).toNat x y hx hy (by omega)
  omega
theorem Dc_congr {L : List Nat} {c c' : Nd → Nd → Int} (h : ∀ x y, InL L x → InL L y → c x y = c' x y) : ∀ u v : List Nat, (∀ a ∈ u, a ∈ L) → (∀ a ∈ v, a ∈ L) → Dc c u v = Dc c' u v
  | [], [], _, _ => by simp only [Dc]
  | [], y :: v, hu, hv => by
    simp only [Dc]
    rw [Dc_congr h [] v hu fun a q => hv a (List.mem_cons_of_mem _ q), h _ _ InL.no (InL.of (hv y List.mem_cons_self))]
  | x :: u, [], hu, hv => by
    simp only [Dc]
    rw [Dc_congr h u [] (fun a q => hu a (List.mem_cons_of_mem _ q)) hv, h _ _ (InL.of (hu x List.mem_cons_self)) InL.no]
  | x :: u, y :: v, hu, hv => by
    have hu' : ∀ a ∈ u, a ∈ L := fun a q => hu a (List.mem_cons_of_mem _ q)
    have hv' : ∀ a ∈ v, a ∈ L := fun a q => hv a (List.mem_cons_of_mem _ q)
    have hx := InL.of (hu x List.mem_cons_self)
    have hy := InL.of (hv y List.mem_cons_self)
    simp only [Dc]
    rw [Dc_congr h u v hu' hv', Dc_congr h u (y :: v) hu' hv, Dc_congr h (x :: u) v hu hv', h _ _ hx hy, h _ _ hx InL.no, h _ _ InL.no hy]
/-! ### a table as a dict -/
abbrev kN (x y : Nd) : List Key := [.inr (nS x), .inr (nS y)]
theorem kN_inj {x y a b : Nd} (h : kN x y = kN a b) : x = a ∧ y = b := by
  injection h with h1 h2
  injection h2 with h2 _
  exact ⟨nS_inj (Sum.inr.inj h1), nS_inj (Sum.inr.inj h2)⟩
structure TabAt (L : List Nat) (kvs : List (List Key × V)) (O : Nd → Nd → Option Int) : Prop where
  nd : (kvs.map (·.1)).Nodup
  ks : ∀ k ∈ kvs.map (·.1), ∃ x ∈ ndOf L, ∃ y ∈ ndOf L, k = kN x y
  vl : ∀ x y, valV kvs (kN x y) = (O x y).map V.int
def putO (O : Nd → Nd → Option Int) (x y : Nd) (n : Int) : Nd → Nd → Option Int := fun a b => if a = x ∧ b = y then some n else O a b
theorem putK_keys {α : Type} [DecidableEq α] (kvs : List (α × V)) (k : α) (v : V) : (putK kvs k v).map (·.1) = if k ∈ kvs.map (·.1) then kvs.map (·.1) else kvs.map (·.1) ++ [k] := by
  unfold putK
  by_cases h : k ∈ kvs.map (·.1)
  · rw [if_pos h, if_pos]
    · rw [List.map_map]
      refine List.map_congr_left fun kv _ => ?_
      show (if kv.1 = k then (kv.1, v) else kv).1 = kv.1
      split <;> rfl
    · obtain ⟨kv, h1, rfl⟩ := List.mem_map.mp h
      exact List.any_eq_true.mpr ⟨kv, h1, by simp⟩
  · rw [if_neg h, if_neg]
    · simp
    · intro q
      obtain ⟨kv, h1, h2⟩ := List.any_eq_true.mp q
      exact h (List.mem_map.mpr ⟨kv, h1, of_decide_eq_true h2⟩)
theorem TabAt.put {L : List Nat} {kvs : List (List Key × V)} {O : Nd → Nd → Option Int} (T : TabAt L kvs O) {x y : Nd} (hx : x ∈ ndOf L) (hy : y ∈ ndOf L) (n : Int) : TabAt L (putK kvs (kN x y) (.int n)) (putO O x y n) := by
  refine ⟨?_, ?_, fun a b => ?_⟩
  · rw [putK_keys]
    split
    · exact T.nd
    · rename_i h
      rw [List.nodup_append]
      refine ⟨T.nd, by simp, fun a ha b hb => ?_⟩
      rw [List.mem_singleton.mp hb]
      exact fun e => h (by rw [← e]; exact ha)
  · intro k hk
    rw [putK_keys] at hk
    split at hk
    · exact T.ks k hk
    · rcases List.mem_append.mp hk with hk | hk
      · exact T.ks k hk
      · exact ⟨x, hx, y, hy, List.mem_singleton.mp hk⟩
  · rw [valV_put]
    unfold putO
    by_cases e : kN a b = kN x y
    · rw [if_pos e, if_pos (kN_inj e)]; rfl
    · rw [if_neg e, if_neg fun q => e (by rw [q.1, q.2])]
      exact T.vl a b
theorem len_sub {α : Type} [DecidableEq α] : ∀ {l m : List α}, l.Nodup → (∀ a ∈ l, a ∈ m) → l.length ≤ m.length
  | [], _, _, _ => Nat.zero_le _
  | a :: l, m, nd, h => by
    rw [List.nodup_cons] at nd
    have ih := len_sub (l := l) (m := m.erase a) nd.2 fun b hb => by
      rw [List.mem_erase_of_ne (fun e => nd.1 (by rw [← e]; exact hb))]
      exact h b (List.mem_cons_of_mem _ hb)
    have hm := h a List.mem_cons_self
    rw [List.length_erase_of_mem hm] at ih
    have : 0 < m.length := List.length_pos_of_mem hm
    simp only [List.length_cons]
    omega
theorem TabAt.len {L : List Nat} {kvs : List (List Key × V)} {O : Nd → Nd → Option Int} (T : TabAt L kvs O) : kvs.length ≤ (L.length + 1) * (L.length + 1) := by
  have h := len_sub (m := (ndOf L).flatMap fun x => (ndOf L).map fun y => kN x y) T.nd fun k hk => by
    obtain ⟨x, hx, y, hy, rfl⟩ := T.ks k hk
    exact List.mem_flatMap.mpr ⟨x, hx, List.mem_map.mpr ⟨y, hy, rfl⟩⟩
  rw [List.length_map] at h
  have e : ∀ (l m : List Nd), (l.flatMap fun x => m.map fun y => kN x y).length = l.length * m.length := by
    intro l m
    induction l with
    | nil => simp
    | cons a l ih => rw [List.flatMap_cons, List.length_append, ih, List.length_map, List.length_cons, Nat.succ_mul]; omega
  rw [e] at h
  simpa [ndOf] using h
end MN
/-! Closed.__init__ -/
namespace MN
open PySem PySem.Spec PyProof.Rows L2
def codeOf (z : Str) : Nat := z.cps.toList.headD 0
theorem piListK {X : Cx} {K : PySem.W.Frag} (hK : X.K = K) {tg l : Expr} {tl : TE} (hl : PE X l tl) : PI X tg l (iList K tl) := hK ▸ pi_list hl
theorem peSlK {X : Cx} {K : PySem.W.Frag} (hK : X.K = K) {e : Expr} {ta : TE} {f : Str} {pos : Pos} (he : PE X e ta) (hb : attributeBase e f X.env (eval e X.env) = eval e X.env := by rfl) : PE X (.Attribute e f pos) (SlX.tSl K ta f) := hK ▸ SlX.pe_sl he hb
/-- the swap prices of all pairs of some signs -/
structure AllP (ys : List Str) (h : Str → Str → Int) (qs : List ((Str × Str) × Int)) : Prop where
  nd : (qs.map Prod.fst).Nodup
  iff : ∀ e, e ∈ qs ↔ e.1.1 ∈ ys ∧ e.1.2 ∈ ys ∧ e.1.1 ≠ e.1.2 ∧ e.2 = h e.1.1 e.1.2
theorem pairs_len {ys : List Str} {l : List (Str × Str)} (nd : l.Nodup) (h : ∀ e ∈ l, e.1 ∈ ys ∧ e.2 ∈ ys) : l.length ≤ ys.length * ys.length := by
  have h1 := len_sub (m := ys.flatMap fun x => ys.map fun y => (x, y)) nd fun e he => List.mem_flatMap.mpr ⟨e.1, (h e he).1, List.mem_map.mpr ⟨e.2, (h e he).2, rfl⟩⟩
  have e : ∀ (l m : List Str), (l.flatMap fun x => m.map fun y => (x, y)).length = l.length * m.length := by
    intro l m
    induction l with
    | nil => simp
    | cons a l ih => rw [List.flatMap_cons, List.length_append, ih, List.length_map, List.length_cons, Nat.succ_mul]; omega
  rw [e] at h1
  exact h1
theorem AllP.len {ys : List Str} {h : Str → Str → Int} {qs : List ((Str × Str) × Int)} (A : AllP ys h qs) : qs.length ≤ ys.length * ys.length := by
  have := pairs_len (ys := ys) A.nd fun e he => by
    obtain ⟨x, hx, rfl⟩ := List.mem_map.mp he
    exact ⟨((A.iff x).mp hx).1, ((A.iff x).mp hx).2.1⟩
  rwa [List.length_map] at this
theorem AllP.find {ys : List Str} {h : Str → Str → Int} {qs : List ((Str × Str) × Int)} (A : AllP ys h qs) {x y : Str} (hx : x ∈ ys) (hy : y ∈ ys) (n : x ≠ y) : findP qs x y = some (h x y) :=
  (findP_some A.nd).mpr ((A.iff _).mpr ⟨hx, hy, n, rfl⟩)
/-- the pairs put so far -/
def PreP (ys : List Str) (h : Str → Str → Int) (i j : Nat) (qs : List ((Str × Str) × Int)) : Prop := (qs.map Prod.fst).Nodup ∧ ∀ e, e ∈ qs ↔ ((e.1.1 ∈ ys.take i ∧ e.1.2 ∈ ys) ∨ (ys[i]? = some e.1.1 ∧ e.1.2 ∈ ys.take j)) ∧ e.1.1 ≠ e.1.2 ∧ e.2 = h e.1.1 e.1.2
theorem PreP.row {ys : List Str} {h : Str → Str → Int} {i : Nat} {qs : List ((Str × Str) × Int)} (P : PreP ys h i ys.length qs) (hi : i < ys.length) : PreP ys h (i + 1) 0 qs := by
  refine ⟨P.1, fun e => ?_⟩
  rw [P.2 e, List.take_length, List.take_add_one, List.getElem?_eq_getElem hi]
  simp only [Option.toList_some, List.mem_append, List.mem_singleton, Option.some.injEq, List.take_zero, List.not_mem_nil, and_false, or_false]
  constructor
  · rintro ⟨a | ⟨a, b⟩, c⟩
    · exact ⟨⟨.inl a.1, a.2⟩, c⟩
    · exact ⟨⟨.inr a.symm, b⟩, c⟩
  · rintro ⟨⟨a | a, b⟩, c⟩
    · exact ⟨.inl ⟨a, b⟩, c⟩
    · exact ⟨.inr ⟨a.symm, b⟩, c⟩
theorem PreP.skip {ys : List Str} {h : Str → Str → Int} {i j : Nat} {y : Str} {qs : List ((Str × Str) × Int)} (P : PreP ys h i j qs) (hi : ys[i]? = some y) (hj : ys[j]? = some y) : PreP ys h i (j + 1) qs := by
  refine ⟨P.1, fun e => ?_⟩
  rw [P.2 e, List.take_add_one, hj, hi]
  simp only [Option.toList_some, List.mem_append, List.mem_singleton, Option.some.injEq]
  constructor
  · rintro ⟨a | ⟨a, b⟩, c⟩
    · exact ⟨.inl a, c⟩
    · exact ⟨.inr ⟨a, .inl b⟩, c⟩
  · rintro ⟨a | ⟨a, b | b⟩, c⟩
    · exact ⟨.inl a, c⟩
    · exact ⟨.inr ⟨a, b⟩, c⟩
    · exact absurd (a.symm.trans b.symm) c.1
theorem PreP.new {ys : List Str} {h : Str → Str → Int} {i j : Nat} {x y : Str} {qs : List ((Str × Str) × Int)} (P : PreP ys h i j qs) (nd : ys.Nodup) (hi : ys[i]? = some x) (hj : ys[j]? = some y) (n : x ≠ y) : PreP ys h i (j + 1) (qs ++ [((x, y), h x y)]) ∧ (x, y) ∉ qs.map Prod.fst := by
  have nw : (x, y) ∉ qs.map Prod.fst := fun q => by
    obtain ⟨e, he, q⟩ := List.mem_map.mp q
    obtain ⟨a | a, _⟩ := (P.2 e).mp he
    · rw [q] at a; exact take_nodup nd hi a.1
    · rw [q] at a; exact take_nodup nd hj a.2
  refine ⟨⟨?_, fun e => ?_⟩, nw⟩
  · rw [List.map_append, List.nodup_append]
    refine ⟨P.1, by simp, fun a ha b hb => ?_⟩
    rw [show b = (x, y) by simpa using hb]
    exact fun z => nw (by rw [← z]; exact ha)
  · rw [List.mem_append, P.2 e, List.mem_singleton, List.take_add_one, hj, hi]
    simp only [Option.toList_some, List.mem_append, List.mem_singleton, Option.some.injEq]
    constructor
    · rintro (⟨a | ⟨a, b⟩, c⟩ | rfl)
      · exact ⟨.inl a, c⟩
      · exact ⟨.inr ⟨a, .inl b⟩, c⟩
      · exact ⟨.inr ⟨rfl, .inr rfl⟩, n, rfl⟩
    · rintro ⟨a | ⟨a, b | b⟩, c⟩
      · exact .inl ⟨.inl a, c⟩
      · exact .inl ⟨.inr ⟨a, b⟩, c⟩
      · refine .inr ?_
        obtain ⟨⟨e1, e2⟩, e3⟩ := e
        have a' : x = e1 := a
        have b' : e2 = y := b
        subst a'
        subst b'
        have c' : e3 = h x e2 := c.2
        rw [c']
theorem PreP.len {ys : List Str} {h : Str → Str → Int} {i j : Nat} {qs : List ((Str × Str) × Int)} (P : PreP ys h i j qs) : qs.length ≤ ys.length * ys.length := by
  have := pairs_len (ys := ys) P.1 fun e he => by
    obtain ⟨x, hx, rfl⟩ := List.mem_map.mp he
    obtain ⟨a | a, _⟩ := (P.2 x).mp hx
    · exact ⟨List.mem_of_mem_take a.1, a.2⟩
    · exact ⟨List.mem_of_getElem? a.1, List.mem_of_mem_take a.2⟩
  rwa [List.length_map] at this
theorem PreP.all {ys : List Str} {h : Str → Str → Int} {qs : List ((Str × Str) × Int)} (P : PreP ys h ys.length 0 qs) : AllP ys h qs := by
  refine ⟨P.1, fun e => ?_⟩
  rw [P.2 e, List.take_length]
  simp [and_assoc]
/-- all but T stays -/
def But (T : Addr) (H H' : Hp) : Prop := ∀ b o, b ≠ T → H b = some o → H' b = some o
theorem But.refl {T : Addr} {H : Hp} : But T H H := fun _ _ _ e => e
theorem But.same {T : Addr} {H H1 H2 : Hp} (h : But T H H1) (e : Same H1 H2) : But T H H2 := fun b o n q => e _ _ (h b o n q)
theorem But.put {T : Addr} {H H1 : Hp} {o : HO} (h : But T H H1) : But T H (upd H1 T o) := fun b o n q => by rw [upd_ne n]; exact h b o n q
theorem But.trans {T : Addr} {H H1 H2 : Hp} (h : But T H H1) (e : But T H1 H2) : But T H H2 := fun b o n q => e b o n (h b o n q)
theorem But.same0 {T : Addr} {H H1 : Hp} (h : But T H H1) (n : H T = none) : Same H H1 := fun b o q => h b o (fun z => by rw [z, n] at q; cases q) q
theorem But.seqL {K : PySem.W.Frag} {T : Addr} {H H' : Hp} {a : Addr} {xs : List V} (e : But T H H') (h : SqL K H a xs) (hne : a ≠ T) : SqL K H' a xs := by
  rcases h with (h | ⟨o, h⟩) | h
  · exact .inl (.inl (e _ _ hne h))
  · exact .inl (.inr ⟨o, e _ _ hne h⟩)
  · exact .inr h
theorem dtF_new {qs : List ((Str × Str) × Int)} {x y : Str} {n : Int} (h : (x, y) ∉ qs.map Prod.fst) : putK (dtF qs) [.inr x, .inr y] (.int n) = dtF (qs ++ [((x, y), n)]) := by
  rw [putK_fresh]
  · simp [dtF]
  · intro q
    unfold dtF at q
    rw [List.map_map] at q
    obtain ⟨a, ha, e⟩ := List.mem_map.mp q
    have e' : ([Sum.inr a.1.1, Sum.inr a.1.2] : List Key) = [.inr x, .inr y] := e
    injection e' with e1 e2
    injection e2 with e2 _
    exact h (List.mem_map.mpr ⟨a, ha, Prod.ext (Sum.inr.inj e1) (Sum.inr.inj e2)⟩)
section
variable {P : Program} {w : World} {K : PySem.W.Frag} {mg : Str → Option Value} {base : Heap}
/-- closed prices: their instance -/
def ClAt (C : Addr) (H : Hp) (x dx : Addr) (ys : List Str) (c : Nd → Nd → Int) : Prop := ∃ qs, AllP ys (fun a b => c (some (codeOf a)) (some (codeOf b))) qs ∧ PrAt C H x dx ys ys (fun z => c none (some (codeOf z))) (fun z => c (some (codeOf z)) none) qs
theorem ClAt.same {C : Addr} {H H' : Hp} {x dx : Addr} {ys : List Str} {c : Nd → Nd → Int} (h : ClAt C H x dx ys c) (e : Same H H') : ClAt C H' x dx ys c := by
  obtain ⟨qs, h1, h2⟩ := h
  exact ⟨qs, h1, h2.same e⟩
theorem nS_code {z : Str} (h : ∃ c ∈ ("abcde" : Str).cps.toList, z = ⟨#[c]⟩) : nS (some (codeOf z)) = z := by
  obtain ⟨c, _, rfl⟩ := h
  rfl
theorem code_mem {zs : List Str} (h : ∀ z ∈ zs, ∃ c ∈ ("abcde" : Str).cps.toList, z = ⟨#[c]⟩) {z : Str} (hz : z ∈ zs) : codeOf z ∈ codesOf zs := List.mem_map.mpr ⟨z, hz, rfl⟩
def spCInit (K : PySem.W.Frag) (C : Addr) : Sp := fun vs H Q _ => ∃ x dx T a ys kvs O, vs = [.ref x, .ref T, .ref a] ∧ H x = some (.ins C dx []) ∧ H dx = some (.own x) ∧ dx ≠ x ∧ H T = some (.dT kvs) ∧ H a = some (.lst (ys.map V.str)) ∧ ys.length ≤ 5 ∧ ys.Nodup ∧ (∀ z ∈ ys, ∃ c ∈ ("abcde" : Str).cps.toList, z = ⟨#[c]⟩) ∧
  TabAt (codesOf ys) kvs O ∧ (∀ x y, InL (codesOf ys) x → InL (codesOf ys) y → x ≠ y → ∃ t, O x y = some t) ∧ ∀ H', Kp x dx H H' → ClAt C H' x dx ys (cOf O) → Q .non H'
abbrev N_cinit : List Str := ["self", "table", "signs", "sign", "one", "other"]
theorem sc_cinit : FnScope N_cinit ["self", "table", "signs"] (defScope (inClass (top 25) 1)) := ⟨rfl, rfl, rfl, by decide +kernel, rfl, by decide +kernel, by decide +kernel⟩
theorem f_cinit {C f : Addr} {fd : FuncData} (PC : SlotC K C) (F : FunAt K "__init__" "Closed.__init__" (inClass (top 25) 1) [] f fd) (B : Blt mg) : FnOk P w K mg base CX0 1 f fd ["self", "table", "signs"] (spCInit K C) := by
  refine fnok_of F sc_cinit (fun vs H Q E h => ?_) (fun cdv A outer s H vs Q E hr h => ?_)
  · obtain ⟨_, _, _, _, _, _, _, rfl, _⟩ := h; rfl
  · obtain ⟨x, dx, T, a, ys, kvs, O, rfl, hx, hdx, dxx, hT, ha, l5, nd, sg, TA, tot, hQ⟩ := h
    obtain ⟨p0, s0⟩ := PC.s0
    obtain ⟨p1, s1⟩ := PC.s1
    obtain ⟨p2, s2⟩ := PC.s2
    refine ⟨_, pss_cons (SlX.ps_sl (pv 0) (pe_dp1 (own := [("sign", 3)]) (o0 := .dK []) (g := gName 3) (tt := tYes) rfl (hu_of hr) sc_cinit.nd (pi_list (pv 2))
        (blkOk_by (own := [("sign", 3)]) (N := N_cinit) (sc := defScope (inClass (top 25) 1)) (by decide +kernel)) (fun _ _ _ _ _ => (pg_name (i := 3) sc_cinit.nd rfl (Or.inl rfl))) (fun _ _ _ _ _ => pts_nil) (fun _ _ _ _ _ => pv 3) (fun _ _ _ _ _ => pe_dget (hu_of hr) (pv 1) (pe_tup (pa_cons pe_str (pa_cons (pv 3) pa_nil))) (fun _ _ => rfl)) (.inl rfl)))
      (pss_cons (SlX.ps_sl (pv 0) (pe_dp1 (own := [("sign", 3)]) (o0 := .dK []) (g := gName 3) (tt := tYes) rfl (hu_of hr) sc_cinit.nd (pi_list (pv 2))
        (blkOk_by (own := [("sign", 3)]) (N := N_cinit) (sc := defScope (inClass (top 25) 1)) (by decide +kernel)) (fun _ _ _ _ _ => (pg_name (i := 3) sc_cinit.nd rfl (Or.inl rfl))) (fun _ _ _ _ _ => pts_nil) (fun _ _ _ _ _ => pv 3) (fun _ _ _ _ _ => pe_dget (hu_of hr) (pv 1) (pe_tup (pa_cons (pv 3) (pa_cons pe_str pa_nil))) (fun _ _ => rfl)) (.inl rfl)))
      (pss_one (SlX.ps_sl (pv 0) (pe_dp2 (own := [("one", 4), ("other", 5)]) (vs1 := [5]) (o0 := .dT []) (g := gName 4) (tt := tYes) (g1 := gName 5) rfl (hu_of hr) sc_cinit.nd (pi_list (pv 2))
        (blkOk_by (own := [("one", 4), ("other", 5)]) (N := N_cinit) (sc := defScope (inClass (top 25) 1)) (by decide +kernel)) (by decide) (fun _ _ _ _ _ => (pg_name (i := 4) sc_cinit.nd rfl (Or.inl rfl))) (fun _ _ _ _ _ => pts_nil)
        (fun _ _ _ _ _ => piListK (K := K) rfl (pv 2)) (fun _ _ _ _ _ => (pg_name (i := 5) sc_cinit.nd rfl (Or.inl rfl))) (fun _ _ _ _ _ => pts_one (pt_cmpR op_ne (pv 4) (pv 5) (nomark _))) (fun _ _ _ _ _ => pe_tup (pa_cons (pv 4) (pa_cons (pv 5) pa_nil))) (fun _ _ _ _ _ => pe_dget (hu_of hr) (pv 1) (pe_tup (pa_cons (pv 4) (pa_cons (pv 5) pa_nil))) (fun _ _ => rfl)) (.inr rfl))))), ?_⟩
    have ax : a ≠ x := fun z => by rw [z, hx] at ha; cases ha
    have ad : a ≠ dx := fun z => by rw [z, hdx] at ha; cases ha
    have Tx : T ≠ x := fun z => by rw [z, hx] at hT; cases hT
    have Td : T ≠ dx := fun z => by rw [z, hdx] at hT; cases hT
    have val : ∀ {u v : Nd}, InL (codesOf ys) u → InL (codesOf ys) v → u ≠ v → valV kvs (kN u v) = some (.int (cOf O u v)) := fun {u v} hu hv n => by
      obtain ⟨t, e⟩ := tot u v hu hv n
      rw [TA.vl, cOf, e]; rfl
    have inl : ∀ {z : Str}, z ∈ ys → InL (codesOf ys) (some (codeOf z)) := fun hz => InL.of (code_mem sg hz)
    have two : 2 ≤ sizeLine := by decide
    -- own_put
    refine ⟨_, rfl, a, rfl, ⟨_, SqL.of ha⟩, fun D hD => ?_⟩
    refine dp_signs (SqL.of ha) nd (by omega) hD (fun z => cOf O none (some (codeOf z))) (fun _ _ => rfl) (fun y _ H2 _ Q q => ⟨_, rfl, q⟩) (fun y hy H2 e Q q => ⟨_, rfl, _, rfl, two, fun p hp => ⟨T, _, rfl, .inr ⟨kvs, kN none (some (codeOf y)), p, .inl (by rw [upd_ne (ne_of_none (e _ _ hT) hp)]; exact e _ _ hT), rfl, by rw [upd_same]; show _ = some (HO.tup [.str (nS none), .str (nS (some (codeOf y)))]); rw [nS_code (sg y hy)]; rfl, (val InL.no (inl hy) (fun e => nomatch e)).symm⟩, q _ (same_new hp)⟩⟩) (fun H2 e3 hD2 => ?_)
    refine ⟨_, rfl, x, C, dx, p1, [], 1, rfl, .inl ⟨e3 _ _ hx, rfl⟩, PC.sc, s1, ?_⟩
    have Dx : D ≠ x := (ne_of_none hx hD).symm
    have Dd : D ≠ dx := (ne_of_none hdx hD).symm
    have k3 : Kp x dx H (SlX.slH H2 x C dx (SlX.putS 1 (.ref D) [])) := Kp.sl fun b o _ _ q => e3 _ _ q
    have z3 : Sl2 (SlX.slH H2 x C dx (SlX.putS 1 (.ref D) [])) x C dx (SlX.putS 1 (.ref D) []) := slH_sl2 dxx
    have w3 : (SlX.putS 1 (.ref D) [])[1]? = some (some (.ref D)) := SlX.putS_get _ _ _
    have hD3 : SlX.slH H2 x C dx (SlX.putS 1 (.ref D) []) D = some (.dK (dkF ys fun z => cOf O none (some (codeOf z)))) := by rw [SlX.slH_ne Dx Dd]; exact hD2
    generalize SlX.putS 1 (.ref D) [] = v3 at *
    generalize SlX.slH H2 x C dx v3 = H3 at *
    clear hD hD2 e3
    -- own_out
    have ha3 := k3 _ _ ax ad ha
    have hT3 := k3 _ _ Tx Td hT
    refine ⟨_, rfl, a, rfl, ⟨_, SqL.of ha3⟩, fun D5 hD5 => ?_⟩
    refine dp_signs (SqL.of ha3) nd (by omega) hD5 (fun z => cOf O (some (codeOf z)) none) (fun _ _ => rfl) (fun y _ H2 _ Q q => ⟨_, rfl, q⟩) (fun y hy H2 e Q q => ⟨_, rfl, _, rfl, two, fun p hp => ⟨T, _, rfl, .inr ⟨kvs, kN (some (codeOf y)) none, p, .inl (by rw [upd_ne (ne_of_none (e _ _ hT3) hp)]; exact e _ _ hT3), rfl, by rw [upd_same]; show _ = some (HO.tup [.str (nS (some (codeOf y))), .str (nS none)]); rw [nS_code (sg y hy)]; rfl, (val (inl hy) InL.no (fun e => nomatch e)).symm⟩, q _ (same_new hp)⟩⟩) (fun H4 e4 hD6 => ?_)
    refine ⟨_, rfl, x, C, dx, p0, v3, 0, rfl, slt_same e4 (.inr z3), PC.sc, s0, ?_⟩
    have D5x : D5 ≠ x := (ne_of_none z3.1 hD5).symm
    have D5d : D5 ≠ dx := (ne_of_none z3.2 hD5).symm
    have n5 : D ≠ D5 := ne_of_none hD3 hD5
    have k5 : Kp x dx H (SlX.slH H4 x C dx (SlX.putS 0 (.ref D5) v3)) := (k3.same e4).sl
    have z5 : Sl2 (SlX.slH H4 x C dx (SlX.putS 0 (.ref D5) v3)) x C dx (SlX.putS 0 (.ref D5) v3) := slH_sl2 dxx
    have w5 : (SlX.putS 0 (.ref D5) v3)[0]? = some (some (.ref D5)) := SlX.putS_get _ _ _
    have w5' : (SlX.putS 0 (.ref D5) v3)[1]? = some (some (.ref D)) := (SlX.putS_ne (by decide)).mpr w3
    have hD7 : SlX.slH H4 x C dx (SlX.putS 0 (.ref D5) v3) D5 = some (.dK (dkF ys fun z => cOf O (some (codeOf z)) none)) := by rw [SlX.slH_ne D5x D5d]; exact hD6
    have hD8 : SlX.slH H4 x C dx (SlX.putS 0 (.ref D5) v3) D = some (.dK (dkF ys fun z => cOf O none (some (codeOf z)))) := by rw [SlX.slH_ne Dx Dd]; exact e4 _ _ hD3
    generalize SlX.putS 0 (.ref D5) v3 = v5 at *
    generalize SlX.slH H4 x C dx v5 = H5 at *
    clear hD5 hD6 e4 k3 z3 w3 hD3 ha3 hT3
    -- own_swap
    have ha5 := k5 _ _ ax ad ha
    have hT5 := k5 _ _ Tx Td hT
    have ly : (ys.map V.str).length = ys.length := List.length_map ..
    refine ⟨_, rfl, a, rfl, ⟨_, SqL.of ha5⟩, fun D9 hD9 => ?_⟩
    have big : ys.length * ys.length ≤ 25 := Nat.mul_le_mul l5 l5
    refine ⟨fun i m H' => i + m = ys.length ∧ Same H5 H' ∧ ∃ qs, H' D9 = some (.dT (dtF qs)) ∧ PreP ys (fun u v => cOf O (some (codeOf u)) (some (codeOf v))) i 0 qs, ⟨ys.length, Nat.zero_add _, same_new hD9, [], upd_same, by simp, fun e => by simp⟩, fun i m H' e => ?_⟩
    obtain ⟨em, e6, qs, hq, P⟩ := e
    by_cases hi : i < ys.length
    · have hgi : i < (ys.map V.str).length := by omega
      have gi := List.getElem?_eq_getElem hi
      refine .inr ⟨walk_list.goes i _ hgi (Same.seq e6 (SqL.of ha5)), fun H' => Same H5 H' ∧ ∃ qs, H' D9 = some (.dT (dtF qs)) ∧ PreP ys (fun u v => cOf O (some (codeOf u)) (some (codeOf v))) (i + 1) 0 qs, fun H'' e' => ⟨m - 1, by omega, by omega, e'⟩, fun y H'' hy => ?_⟩
      obtain ⟨rfl, hy2⟩ := walk_list.yields i _ _ _ hgi (Same.seq e6 (SqL.of ha5)) hy
      rw [List.getElem?_map, gi] at hy2
      cases hy2
      refine ⟨rfl, yes_q (iteT ⟨_, rfl, a, rfl, ⟨_, Same.seq e6 (SqL.of ha5)⟩, fun j m H' => j + m = ys.length ∧ Same H5 H' ∧ ∃ qs, H' D9 = some (.dT (dtF qs)) ∧ PreP ys (fun u v => cOf O (some (codeOf u)) (some (codeOf v))) i j qs, ⟨ys.length, Nat.zero_add _, e6, qs, hq, P⟩, fun j m H' e => ?_⟩)⟩
      clear P hq e6 qs
      obtain ⟨em, e6, qs, hq, P⟩ := e
      by_cases hj : j < ys.length
      · have hgj : j < (ys.map V.str).length := by omega
        have gj := List.getElem?_eq_getElem hj
        refine .inr ⟨walk_list.goes j _ hgj (Same.seq e6 (SqL.of ha5)), fun H' => Same H5 H' ∧ ∃ qs, H' D9 = some (.dT (dtF qs)) ∧ PreP ys (fun u v => cOf O (some (codeOf u)) (some (codeOf v))) i (j + 1) qs, fun H'' e' => ⟨m - 1, by omega, by omega, e'⟩, fun y H'' hy => ?_⟩
        obtain ⟨rfl, hy2⟩ := walk_list.yields j _ _ _ hgj (Same.seq e6 (SqL.of ha5)) hy
        rw [List.getElem?_map, gj] at hy2
        cases hy2
        refine ⟨rfl, _, rfl, _, rfl, rfl, _, rfl, ?_⟩
        by_cases n : ys[i] = ys[j]
        · rw [show (!decide (V.str ys[i] = V.str ys[j])) = false by simp [n]]
          refine iteF ⟨e6, qs, hq, P.skip gi (by rw [gj, n])⟩
        · rw [show (!decide (V.str ys[i] = V.str ys[j])) = true by simp [n]]
          have mi : ys[i] ∈ ys := List.getElem_mem hi
          have mj : ys[j] ∈ ys := List.getElem_mem hj
          obtain ⟨P2, nw⟩ := P.new nd gi gj n
          refine iteT ⟨_, rfl, _, rfl, two, fun t1 ht1 => ⟨_, rfl, _, rfl, _, rfl, two, fun t2 ht2 => ?_⟩⟩
          have s1 := same_new (o := .tup [.str ys[i], .str ys[j]]) ht1
          have s2 := same_new (o := .tup [.str ys[i], .str ys[j]]) ht2
          have s12 := s1.trans s2
          refine ⟨T, _, rfl, .inr ⟨kvs, kN (some (codeOf ys[i])) (some (codeOf ys[j])), t2, .inl (s12 _ _ (e6 _ _ hT5)), rfl, ?_, (val (inl mi) (inl mj) (fun e => n ?_)).symm⟩, ?_⟩
          · rw [upd_same]
            show _ = some (HO.tup [.str (nS (some (codeOf ys[i]))), .str (nS (some (codeOf ys[j])))])
            rw [nS_code (sg _ mi), nS_code (sg _ mj)]
          · rw [← nS_code (sg _ mi), e, nS_code (sg _ mj)]
          · refine ⟨_, .inr ⟨_, [.inr ys[i], .inr ys[j]], t1, s12 _ _ hq, rfl, s2 _ _ upd_same, ?_, rfl⟩, fun b o q => ?_, qs ++ [((ys[i], ys[j]), _)], ?_, P2⟩
            · have : 100000 < sizeLine := by decide
              have := P.len
              simp [dtF]
              omega
            · rw [upd_ne (ne_of_none q hD9)]; exact s12 _ _ (e6 _ _ q)
            · rw [upd_same, dtF_new nw]
      · obtain rfl : j = ys.length := by omega
        exact .inl ⟨ly ▸ walk_list.stops _ (Same.seq e6 (SqL.of ha5)), e6, qs, hq, P.row hi⟩
    · obtain rfl : i = ys.length := by omega
      refine .inl ⟨ly ▸ walk_list.stops _ (Same.seq e6 (SqL.of ha5)), ?_⟩
      refine ⟨_, rfl, x, C, dx, p2, v5, 2, rfl, slt_same e6 (.inr z5), PC.sc, s2, ?_⟩
      have D9x : D9 ≠ x := (ne_of_none z5.1 hD9).symm
      have D9d : D9 ≠ dx := (ne_of_none z5.2 hD9).symm
      refine hQ _ (k5.same e6).sl ⟨qs, P.all, D, D5, D9, _, slH_sl2 dxx, (SlX.putS_ne (by decide)).mpr w5', (SlX.putS_ne (by decide)).mpr w5, SlX.putS_get _ _ _, n5, ?_, ?_, ?_⟩
      · rw [SlX.slH_ne Dx Dd]; exact e6 _ _ hD8
      · rw [SlX.slH_ne D5x D5d]; exact e6 _ _ hD7
      · rw [SlX.slH_ne D9x D9d]; exact hq
end
end MN
/-! closed_of -/
namespace MN
open PySem PySem.Spec PyProof.Rows L2
theorem TabAt.congr {L : List Nat} {kvs : List (List Key × V)} {O O' : Nd → Nd → Option Int} (T : TabAt L kvs O) (h : ∀ x y, O' x y = O x y) : TabAt L kvs O' := ⟨T.nd, T.ks, fun x y => by rw [h]; exact T.vl x y⟩
theorem valV_mem' {α : Type} [DecidableEq α] {kvs : List (α × V)} {k : α} {v : V} (h : valV kvs k = some v) : k ∈ kvs.map (·.1) := by
  unfold valV at h
  obtain ⟨q, hq, _⟩ := Option.map_eq_some_iff.mp h
  have h2 : q.1 = k := by simpa using List.find?_some hq
  exact List.mem_map.mpr ⟨q, List.mem_of_find?_eq_some hq, h2⟩
/-- the swap prices alone -/
theorem tab_swaps {ys ys2 : List Str} {g o : Str → Int} {qs : List ((Str × Str) × Int)} (N : PrN ys ys2 g o qs) : TabAt (codesOf ys) (dtF qs) (rOf [] g o qs) := by
  have form : ∀ e ∈ qs, ∃ a b, a ∈ codesOf ys ∧ b ∈ codesOf ys ∧ e.1 = (sgS a, sgS b) := fun e he => by
    obtain ⟨h1, h2, _⟩ := N.sp e he
    refine ⟨codeOf e.1.1, codeOf e.1.2, code_mem N.sg h1, code_mem N.sg h2, Prod.ext ?_ ?_⟩
    · exact (nS_code (N.sg _ h1)).symm
    · exact (nS_code (N.sg _ h2)).symm
  refine ⟨dtF_nodup N.sn, fun k hk => ?_, fun x y => ?_⟩
  · unfold dtF at hk
    rw [List.map_map] at hk
    obtain ⟨e, he, rfl⟩ := List.mem_map.mp hk
    obtain ⟨a, b, ha, hb, q⟩ := form e he
    refine ⟨some a, mem_nd.mpr (InL.of ha), some b, mem_nd.mpr (InL.of hb), ?_⟩
    show [Sum.inr e.1.1, Sum.inr e.1.2] = _
    rw [q]; rfl
  · have nope : ∀ x y : Nd, x = none ∨ y = none → valV (dtF qs) (kN x y) = none := fun x y h => dtF_no fun q => by
      obtain ⟨e, he, q⟩ := List.mem_map.mp q
      obtain ⟨a, b, _, _, q2⟩ := form e he
      rw [q] at q2
      have h1 := nS_inj (x := x) (y := some a) (Prod.mk.inj q2).1
      have h2 := nS_inj (x := y) (y := some b) (Prod.mk.inj q2).2
      rcases h with h | h
      · rw [h] at h1; cases h1
      · rw [h] at h2; cases h2
    cases x with
    | none => rw [nope _ _ (.inl rfl)]; cases y <;> rfl
    | some a =>
      cases y with
      | none => rw [nope _ _ (.inr rfl)]; rfl
      | some b =>
        show _ = (findP qs (sgS a) (sgS b)).map V.int
        cases e : findP qs (sgS a) (sgS b) with
        | some p => exact dtF_val N.sn ((findP_some N.sn).mp e)
        | none =>
          refine dtF_no fun q => ?_
          obtain ⟨z, hz, q⟩ := List.mem_map.mp q
          have := (findP_some (p := z.2) N.sn).mpr (show ((sgS a, sgS b), z.2) ∈ qs from by
            have : z = ((sgS a, sgS b), z.2) := Prod.ext q rfl
            rw [← this]; exact hz)
          rw [e] at this
          cases this
theorem rOf_step {L : List Nat} {g o : Str → Int} {qs : List ((Str × Str) × Int)} {i c : Nat} (h : L[i]? = some c) : ∀ x y, rOf (L.take (i + 1)) g o qs x y = putO (putO (rOf (L.take i) g o qs) none (some c) (g (sgS c))) (some c) none (o (sgS c)) x y := by
  have mem : ∀ a, a ∈ L.take (i + 1) ↔ a ∈ L.take i ∨ a = c := fun a => by rw [List.take_add_one, h]; simp
  intro x y
  cases x with
  | none =>
    cases y with
    | none => simp [rOf, putO]
    | some b =>
      simp only [rOf, putO, mem]
      by_cases e : b = c
      · subst e; simp
      · simp [e]
  | some a =>
    cases y with
    | none =>
      simp only [rOf, putO, mem]
      by_cases e : a = c
      · subst e; simp
      · simp [e]
    | some b => simp [rOf, putO]
/-- amid a phase -/
def midO (m : Nd) (O : Nd → Nd → Option Int) (nd : List Nd) (i j : Nat) : Nd → Nd → Option Int := fun x y => if x ∈ nd.take i ∨ (nd[i]? = some x ∧ y ∈ nd.take j) then ph m O x y else O x y
section
variable {m : Nd} {O : Nd → Nd → Option Int} {nd : List Nd}
theorem ph_col (dg : O m m = none) (x : Nd) : ph m O x m = O x m := by
  unfold ph
  split
  · rfl
  · rw [dg]; cases O x m <;> rfl
theorem ph_row (dg : O m m = none) (y : Nd) : ph m O m y = O m y := by
  unfold ph
  split
  · rfl
  · rw [dg]
theorem mid_col (dg : O m m = none) {i j : Nat} (x : Nd) : midO m O nd i j x m = O x m := by
  unfold midO
  split
  · exact ph_col dg x
  · rfl
theorem mid_row (dg : O m m = none) {i j : Nat} (y : Nd) : midO m O nd i j m y = O m y := by
  unfold midO
  split
  · exact ph_row dg y
  · rfl
theorem mid_new {i j : Nat} {x y : Nd} (n : nd.Nodup) (hi : nd[i]? = some x) (hj : nd[j]? = some y) : midO m O nd i j x y = O x y := by
  unfold midO
  rw [if_neg]
  rintro (h | ⟨_, h⟩)
  · exact take_nodup n hi h
  · exact take_nodup n hj h
theorem mid_step {i j : Nat} {x y : Nd} (n : nd.Nodup) (hi : nd[i]? = some x) (hj : nd[j]? = some y) (a b : Nd) : midO m O nd i (j + 1) a b = if a = x ∧ b = y then ph m O x y else midO m O nd i j a b := by
  unfold midO
  rw [List.take_add_one, hj, hi]
  simp only [Option.toList_some, List.mem_append, List.mem_singleton, Option.some.injEq]
  by_cases e : a = x ∧ b = y
  · obtain ⟨rfl, rfl⟩ := e
    rw [if_pos (.inr ⟨rfl, .inr rfl⟩), if_pos ⟨rfl, rfl⟩]
  · rw [if_neg e]
    by_cases c : a ∈ nd.take i ∨ x = a ∧ b ∈ nd.take j
    · rw [if_pos c, if_pos]
      exact c.imp id fun q => ⟨q.1, .inl q.2⟩
    · rw [if_neg c, if_neg]
      rintro (q | ⟨q1, q2 | q2⟩)
      · exact c (.inl q)
      · exact c (.inr ⟨q1, q2⟩)
      · exact e ⟨q1.symm, q2⟩
theorem mid_rowEnd {i : Nat} (hi : i < nd.length) (a b : Nd) (ph_in : ∀ a b, b ∉ nd → ph m O a b = O a b) : midO m O nd (i + 1) 0 a b = midO m O nd i nd.length a b := by
  unfold midO
  rw [List.take_add_one, List.getElem?_eq_getElem hi, List.take_length]
  simp only [Option.toList_some, List.mem_append, List.mem_singleton, Option.some.injEq, List.take_zero, List.not_mem_nil, and_false, or_false]
  by_cases h1 : a ∈ nd.take i
  · rw [if_pos (.inl h1), if_pos (.inl h1)]
  · by_cases h2 : a = nd[i]
    · rw [if_pos (.inr h2)]
      by_cases h3 : b ∈ nd
      · rw [if_pos (.inr ⟨h2.symm, h3⟩)]
      · rw [if_neg]
        · exact ph_in a b h3
        · rintro (q | q)
          · exact h1 q
          · exact h3 q.2
    · rw [if_neg, if_neg]
      · rintro (q | q)
        · exact h1 q
        · exact h2 q.1.symm
      · rintro (q | q)
        · exact h1 q
        · exact h2 q
end
/-- what lies outside of the nodes is no price -/
structure OutO (L : List Nat) (O : Nd → Nd → Option Int) : Prop where
  ins : ∀ x y t, O x y = some t → x ∈ ndOf L ∧ y ∈ ndOf L
theorem OutO.ph {L : List Nat} {O : Nd → Nd → Option Int} {m : Nd} (h : OutO L O) : OutO L (ph m O) := ⟨fun x y t e => by
  rcases ph_or e with e | ⟨a, b, _, e1, e2, _⟩
  · exact h.ins x y t e
  · exact ⟨(h.ins _ _ _ e1).1, (h.ins _ _ _ e2).2⟩⟩
theorem OutO.no {L : List Nat} {O : Nd → Nd → Option Int} (h : OutO L O) {x y : Nd} (n : ¬ (x ∈ ndOf L ∧ y ∈ ndOf L)) : O x y = none := by
  cases e : O x y with
  | none => rfl
  | some t => exact absurd (h.ins x y t e) n
theorem mid_all {L : List Nat} {O : Nd → Nd → Option Int} {m : Nd} (h : OutO L O) (a b : Nd) : midO m O (ndOf L) (ndOf L).length 0 a b = ph m O a b := by
  unfold midO
  rw [List.take_length]
  by_cases h1 : a ∈ ndOf L
  · rw [if_pos (.inl h1)]
  · rw [if_neg]
    · rw [h.no fun q => h1 q.1, h.ph.no fun q => h1 q.1]
    · rintro (q | q)
      · exact h1 q
      · simp at q
section
variable {P : Program} {w : World} {K : PySem.W.Frag} {mg : Str → Option Value} {base : Heap} {Cp Cc : Addr}
/-- the classes Prices and Closed -/
structure PrC (K : PySem.W.Frag) (mg : Str → Option Value) (Cp Cc : Addr) : Prop where
  sp : SlotC K Cp
  sc : SlotC K Cc
  gp : mg "Prices" = some (.ref Cp)
  gc : mg "Closed" = some (.ref Cc)
  ip : ∃ f fd, Mk K Cp f ∧ FunAt K "__init__" "Prices.__init__" (inClass (top 27) 1) [] f fd
  ic : ∃ f fd, Mk K Cc f ∧ FunAt K "__init__" "Closed.__init__" (inClass (top 25) 1) [] f fd
  si : SlX.SIsi K Cp
  isP : PySem.W.kitOne K (.ref Cp) (.ref Cp) = some true
  con : ∃ g fd, PySem.W.findIn K (.ref Cp) "__contains__" = some (some (.ref g)) ∧ PySem.W.isFn K (.ref g) = true ∧ FunAt K "__contains__" "Prices.__contains__" (inClass (top 27) 14) [] g fd
  clo : ∃ g fd, Meth K Cp "closed" g ∧ FunAt K "closed" "Prices.closed" (inClass (top 27) 8) [] g fd
  pput : ∃ p g fd, PropOf K Cp "put" p g ∧ FunAt K "put" "Prices.put" (inClass (top 27) 4) [] g fd
  pout : ∃ p g fd, PropOf K Cp "out" p g ∧ FunAt K "out" "Prices.out" (inClass (top 27) 5) [] g fd
  pswap : ∃ p g fd, PropOf K Cp "swap" p g ∧ FunAt K "swap" "Prices.swap" (inClass (top 27) 6) [] g fd
def spClosedOf (Cp Cc : Addr) : Sp := fun vs H Q _ => ∃ x dx ys ys2 g o qs, vs = [.ref x] ∧ PrAt Cp H x dx ys ys2 g o qs ∧ PrN ys ys2 g o qs ∧
  ∀ q dq c H', Same H H' → H q = none → H dq = none → Clo (codesOf ys) (rOf (codesOf ys) g o qs) c → ClAt Cc H' q dq ys c → Q (.ref q) H'
abbrev N_closed_of : List Str := ["prices", "signs", "table", "pair", "sign", "nodes", "middle", "one", "other", "price"]
theorem sc_closed_of : FnScope N_closed_of ["prices"] (defScope (top 26)) := ⟨rfl, rfl, rfl, by decide +kernel, rfl, by decide +kernel, by decide +kernel⟩
theorem c_closed_of (A : At K mg "closed_of" (top 26)) (B : Blt mg) (PC : PrC K mg Cp Cc) : Cal P w K mg base 3 "closed_of" (spClosedOf Cp Cc) := by
  obtain ⟨fi, fdi, M0, F⟩ := PC.ic
  have b0 := FunD.bindsN (ps := ["self", "table", "signs"]) F fun _ _ _ _ _ _ us hl => match us, hl with | [_, _, _], _ => rfl
  refine cal_of A sc_closed_of (fun _ _ _ _ _ _ us hl => match us, hl with | [_], _ => rfl) (fun vs H Q E h => ?_) (fun f cdv A outer s H vs Q E hr h => ?_)
  · obtain ⟨_, _, _, _, _, _, _, rfl, _⟩ := h; rfl
  · obtain ⟨x, dx, ys, ys2, g, o, qs, rfl, hP, N, hQ⟩ := h
    obtain ⟨p0, s0⟩ := PC.sp.s0
    obtain ⟨p1, s1⟩ := PC.sp.s1
    obtain ⟨p2, s2⟩ := PC.sp.s2
    refine ⟨_, pss_cons (ps_set (i := 1) sc_closed_of.nd rfl (Or.inl rfl) (pe_callTy (call_list_dK rfl) (by rfl) B.list (by decide +kernel) (pa_cons (SlX.pe_sl (pv 0)) pa_nil)))
      (pss_cons (ps_lock (ps_setDp1 (i := 2) (own := [("pair", 3)]) (o0 := .dT []) (g := gName 3) (tt := tYes) rfl (hu_of hr) sc_closed_of.nd rfl rfl (swD_true rfl rfl rfl (by decide +kernel)) (pi_keys (SlX.pe_sl (pv 0)))
        (blkOk_by (own := [("pair", 3)]) (N := N_closed_of) (sc := defScope (top 26)) (by decide +kernel)) (fun _ _ _ _ _ => (pg_name (i := 3) sc_closed_of.nd rfl (Or.inl rfl))) (fun _ _ _ _ _ => pts_nil) (fun _ _ _ _ _ => pv 3) (fun _ _ _ _ _ => pe_dget (hu_of hr) (peSlK (K := K) rfl (pv 0)) (pv 3) (fun _ _ => rfl)) (.inr rfl)))
      (pss_cons (ps_for PassesOwn.never rfl (pi_list (pv 1)) (pg_name (i := 4) sc_closed_of.nd rfl (Or.inl rfl))
        (pss_cons (ps_dput (hu_of hr) (pv 2) (pe_tup (pa_cons pe_str (pa_cons (pv 4) pa_nil))) (pe_dget (hu_of hr) (SlX.pe_sl (pv 0)) (pv 4) (fun _ _ => rfl)) (by rfl))
        (pss_one (ps_dput (hu_of hr) (pv 2) (pe_tup (pa_cons (pv 4) (pa_cons pe_str pa_nil))) (pe_dget (hu_of hr) (SlX.pe_sl (pv 0)) (pv 4) (fun _ _ => rfl)) (by rfl)))))
      (pss_cons (ps_set (i := 5) sc_closed_of.nd rfl (Or.inl rfl) (pe_lst (pa_cons pe_str (StX.pa_star (pv 1) pa_nil))))
      (pss_cons (ps_for PassesOwn.never rfl (pi_list (pv 5)) (pg_name (i := 6) sc_closed_of.nd rfl (Or.inl rfl))
        (pss_one (ps_for PassesOwn.never rfl (pi_list (pv 5)) (pg_name (i := 7) sc_closed_of.nd rfl (Or.inl rfl))
          (pss_one (ps_for PassesOwn.never rfl (pi_list (pv 5)) (pg_name (i := 8) sc_closed_of.nd rfl (Or.inl rfl))
            (pss_one (ps_if (PW.pt (pw_and (pt_cmpR op_ne (pv 7) (pv 8) (nomark _)) (pw_and (pt_cmp (pc_din (hu_of hr) (pe_tup (pa_cons (pv 7) (pa_cons (pv 6) pa_nil))) (pv 2))) (pw_and1 (pt_cmp (pc_din (hu_of hr) (pe_tup (pa_cons (pv 6) (pa_cons (pv 8) pa_nil))) (pv 2)))))))
              (pss_cons (ps_set (i := 9) sc_closed_of.nd rfl (Or.inl rfl) (pe_op op_add (pe_dget (hu_of hr) (pv 2) (pe_tup (pa_cons (pv 7) (pa_cons (pv 6) pa_nil))) (fun _ _ => rfl)) (pe_dget (hu_of hr) (pv 2) (pe_tup (pa_cons (pv 6) (pa_cons (pv 8) pa_nil))) (fun _ _ => rfl))))
              (pss_one (ps_dput (hu_of hr) (pv 2) (pe_tup (pa_cons (pv 7) (pa_cons (pv 8) pa_nil))) (pe_callB (call_min2 rfl) (by rfl) B.min (by decide +kernel) (pa_cons (pv 9) (pa_cons (pe_dget2 (hu_of hr) (pv 2) (pe_tup (pa_cons (pv 7) (pa_cons (pv 8) pa_nil))) (pv 9) ⟨by rfl, by rfl, by rfl, by rfl⟩) pa_nil))) (by rfl))))
              pss_nil)))))))
      (pss_one (ps_ret (pe_make M0 (f_cinit (P := P) (w := w) (mg := mg) (base := base) PC.sc F B) (hr.mono (by decide)) (by rfl) PC.gc b0 .nil pass0 (pa_cons (pv 2) (pa_cons (pv 1) pa_nil))))))))), ?_⟩
    have hP0 := hP
    obtain ⟨PA, PB, PS, ws, hs, w1, w0, w2, nAB, hA, hB, hS⟩ := hP
    have two : 2 ≤ sizeLine := by decide
    have lz : ys.length ≤ 5 := N.le
    have keyz : (dkF ys g).map (fun kv => kV kv.1) = ys.map V.str := by unfold dkF; rw [List.map_map]; rfl
    have sgn := N.sg
    -- signs
    refine ⟨_, rfl, x, Cp, dx, p1, ws, 1, _, rfl, .inr hs, PC.sp.sc, s1, w1, PA, _, rfl, hA, fun q1 hq1 => ?_⟩
    rw [keyz]
    have e1 := same_new (o := .lst (ys.map V.str)) hq1
    have hsg : upd H q1 (.lst (ys.map V.str)) q1 = some (.lst (ys.map V.str)) := upd_same
    generalize upd H q1 (.lst (ys.map V.str)) = H1 at e1 hsg ⊢
    -- table
    have S1 : Sl2 H1 x Cp dx ws := ⟨e1 _ _ hs.1, e1 _ _ hs.2⟩
    have hS1 := e1 _ _ hS
    refine ⟨PS, _, hS1, trivial, fun od => ?_⟩
    have xS : x ≠ PS := fun z => by
      have q := hs.1
      rw [z, hS] at q
      injection q with q
      unfold SlX.SlO at q
      cases q
    have dS : dx ≠ PS := fun z => by
      have q := hs.2
      rw [z, hS] at q
      cases q
    have S1' : Sl2 (upd H1 PS (.frz od (.dT (dtF qs)))) x Cp dx ws := ⟨by rw [upd_ne xS]; exact S1.1, by rw [upd_ne dS]; exact S1.2⟩
    refine ⟨_, rfl, x, Cp, dx, p2, ws, 2, _, rfl, .inr S1', PC.sp.sc, s2, w2, PS, od, rfl, .inr ⟨_, upd_same, fun T hT0 => ?_⟩⟩
    have TS : T ≠ PS := fun z => by rw [z, upd_same] at hT0; cases hT0
    have hT1 : H1 T = none := by rw [upd_ne TS] at hT0; exact hT0
    have apart : ∀ b u, H1 b = some u → b ≠ T := fun b u q => ne_of_none q hT1
    refine dp_it walk_keysT (fun i H' => Same (upd H1 PS (.frz od (.dT (dtF qs)))) H' ∧ H' T = some (.dT (dtF (qs.take i)))) ⟨same_new hT0, by rw [List.take_zero]; exact upd_same⟩ (fun i H' _ e => e.1 _ _ upd_same) (fun i y Ha Hb hi e hy => ?_) (fun H2' e => ⟨e.1 _ _ upd_same, ?_⟩)
    · obtain ⟨rfl, k, v, b, hk, rfl, hb⟩ := hy
      obtain ⟨ea, eT⟩ := e
      unfold dtF at hk
      rw [List.getElem?_map] at hk
      obtain ⟨⟨⟨z1, z2⟩, n⟩, hz, ek⟩ := Option.map_eq_some_iff.mp hk
      cases ek
      refine ⟨rfl, yes_q (iteT ⟨_, rfl, _, rfl, x, Cp, dx, p2, ws, 2, _, rfl, slt_same ea (.inr S1'), PC.sp.sc, s2, w2, _, rfl, PS, .int n, rfl, .inr ⟨_, [.inr z1, .inr z2], b, .inr ⟨od, ea _ _ upd_same⟩, rfl, hb, (dtF_val N.sn (List.mem_of_getElem? hz)).symm⟩, _, .inr ⟨_, [.inr z1, .inr z2], b, eT, rfl, hb, ?_, rfl⟩, fun c u q => ?_, ?_⟩)⟩
      · have : 100000 < sizeLine := by decide
        have := N.sl
        simp [dtF]
        omega
      · rw [upd_ne (ne_of_none q hT0)]; exact ea _ _ q
      · rw [upd_same, dtF_put N.sn hz]
    obtain ⟨ea, eT⟩ := e
    have e2 : Same H1 (upd H2' PS (.dT (dtF qs))) := fun b u q => by
      by_cases z : b = PS
      · rw [z, upd_same]; rw [z, hS1] at q; exact q
      · rw [upd_ne z]; exact ea _ _ (by rw [upd_ne z]; exact q)
    have hT2 : upd H2' PS (.dT (dtF qs)) T = some (.dT (dtF qs)) := by
      have : (dtF qs).length = qs.length := by simp [dtF]
      rw [upd_ne TS, eT, this, List.take_length]
    generalize upd H2' PS (.dT (dtF qs)) = H2 at e2 hT2 ⊢
    clear ea eT
    have e12 := e1.trans e2
    -- put and out prices
    have gL : ∀ {i : Nat} {z : Str}, ys[i]? = some z → (codesOf ys)[i]? = some (codeOf z) := fun h => by unfold codesOf; rw [List.getElem?_map, h]; rfl
    have bigL : (codesOf ys).length ≤ 5 := by simpa [codesOf] using lz
    have small : ∀ {kvs : List (List Key × V)} {O : Nd → Nd → Option Int}, TabAt (codesOf ys) kvs O → kvs.length < sizeLine := fun {kvs O} T => by
      have h1 := T.len
      have h2 : ((codesOf ys).length + 1) * ((codesOf ys).length + 1) ≤ 6 * 6 := Nat.mul_le_mul (by omega) (by omega)
      have : 100000 < sizeLine := by decide
      omega
    refine ⟨_, rfl, q1, rfl, ⟨_, SqL.of (e2 _ _ hsg)⟩, for_it walk_list (fun i σ H' => (∃ o4, σ = [some (.ref x), some (.ref q1), some (.ref T), none, o4, none, none, none, none, none]) ∧ But T H2 H' ∧ ∃ kvs, H' T = some (.dT kvs) ∧ TabAt (codesOf ys) kvs (rOf ((codesOf ys).take i) g o qs)) ⟨⟨_, rfl⟩, But.refl, _, hT2, by rw [List.take_zero]; exact tab_swaps N⟩ (fun i σ H' _ e => e.2.1.seqL (SqL.of (e2 _ _ hsg)) (apart _ _ hsg)) (fun i y σ Ha Hb hi e hy => ?_) (fun σ H3 e => ?_)⟩
    · obtain ⟨rfl, hy⟩ := hy
      obtain ⟨⟨o4, rfl⟩, eb, kvs, hT3, TA⟩ := e
      rw [List.getElem?_map] at hy
      obtain ⟨z, hz, rfl⟩ := Option.map_eq_some_iff.mp hy
      have mz := List.mem_of_getElem? hz
      have keep : ∀ b u, H b = some u → Hb b = some u := fun b u q => eb b u (apart _ _ (e1 _ _ q)) (e12 _ _ q)
      have inz : some (codeOf z) ∈ ndOf (codesOf ys) := mem_nd.mpr (InL.of (code_mem sgn mz))
      have inn : none ∈ ndOf (codesOf ys) := mem_nd.mpr InL.no
      refine ⟨_, rfl, x, Cp, dx, p1, ws, 1, _, rfl, .inr ⟨keep _ _ hs.1, keep _ _ hs.2⟩, PC.sp.sc, s1, w1, _, rfl, PA, .int (g z), rfl, .inl ⟨_, .inr z, .inl (keep _ _ hA), rfl, (dkF_val N.nd g mz).symm⟩, _, rfl, _, rfl, two, fun t1 ht1 => ?_⟩
      have f1 := same_new (o := .tup [.str "", .str z]) ht1
      refine ⟨T, _, rfl, .inr ⟨kvs, kN none (some (codeOf z)), t1, f1 _ _ hT3, rfl, ?_, small TA, rfl⟩, ?_⟩
      · rw [upd_same]
        show _ = some (HO.tup [.str (nS none), .str (nS (some (codeOf z)))])
        rw [nS_code (sgn z mz)]; rfl
      have T1 := TA.put inn inz (g z)
      have b1 : But T H2 (upd (upd Hb t1 (.tup [.str "", .str z])) T (.dT (putK kvs (kN none (some (codeOf z))) (.int (g z))))) := (eb.same f1).put
      have hT4 : upd (upd Hb t1 (.tup [.str "", .str z])) T (.dT (putK kvs (kN none (some (codeOf z))) (.int (g z)))) T = some (.dT (putK kvs (kN none (some (codeOf z))) (.int (g z)))) := upd_same
      generalize upd (upd Hb t1 (.tup [.str "", .str z])) T (.dT (putK kvs (kN none (some (codeOf z))) (.int (g z)))) = Hc at b1 hT4 ⊢
      have keep2 : ∀ b u, H b = some u → Hc b = some u := fun b u q => b1 b u (apart _ _ (e1 _ _ q)) (e12 _ _ q)
      refine ⟨_, rfl, x, Cp, dx, p0, ws, 0, _, rfl, .inr ⟨keep2 _ _ hs.1, keep2 _ _ hs.2⟩, PC.sp.sc, s0, w0, _, rfl, PB, .int (o z), rfl, .inl ⟨_, .inr z, .inl (keep2 _ _ hB), rfl, (dkF_val (N.pm.nodup_iff.mpr N.nd) o (N.pm.mem_iff.mpr mz)).symm⟩, _, rfl, _, rfl, two, fun t2 ht2 => ?_⟩
      have f2 := same_new (o := .tup [.str z, .str ""]) ht2
      refine ⟨T, _, rfl, .inr ⟨_, kN (some (codeOf z)) none, t2, f2 _ _ hT4, rfl, ?_, small T1, rfl⟩, ⟨_, rfl⟩, (b1.same f2).put, _, upd_same, ?_⟩
      · rw [upd_same]
        show _ = some (HO.tup [.str (nS (some (codeOf z))), .str (nS none)])
        rw [nS_code (sgn z mz)]; rfl
      · refine (T1.put inz inn (o z)).congr fun u v => ?_
        rw [rOf_step (gL hz), show sgS (codeOf z) = z from nS_code (sgn z mz)]
    obtain ⟨⟨o4, rfl⟩, b3, kvs0, hT3, TA0⟩ := e
    rw [List.length_map, show ys.length = (codesOf ys).length by simp [codesOf], List.take_length] at TA0
    -- nodes
    have hsg3 := b3 _ _ (apart _ _ hsg) (e2 _ _ hsg)
    refine ⟨_, rfl, q1, _, rfl, .inr (SqL.of hsg3), ?_, fun Nn hNn => ?_⟩
    · have : 100000 < sizeLine := by decide
      simp
      omega
    have en : V.str "" :: (ys.map V.str ++ []) = (ndOf (codesOf ys)).map fun x => V.str (nS x) := by
      unfold ndOf
      rw [List.map_cons, List.map_map, List.append_nil]
      congr 1
      conv => lhs; rw [← codes_sg sgn]
      rw [List.map_map]; rfl
    have up4 : Same H3 (upd H3 Nn (.lst (V.str "" :: (ys.map V.str ++ [])))) := same_new hNn
    have hN4 : upd H3 Nn (.lst (V.str "" :: (ys.map V.str ++ []))) Nn = some (.lst ((ndOf (codesOf ys)).map fun x => V.str (nS x))) := by rw [upd_same, en]
    have NnT : Nn ≠ T := (ne_of_none hT3 hNn).symm
    have hT4 := up4 _ _ hT3
    have b4 : But T H2 (upd H3 Nn (.lst (V.str "" :: (ys.map V.str ++ [])))) := b3.same up4
    generalize upd H3 Nn (.lst (V.str "" :: (ys.map V.str ++ []))) = H4 at hN4 hT4 b4 ⊢
    clear up4 hNn hsg3 b3 hT3
    have ndn : (ndOf (codesOf ys)).Nodup := nd_nodup (codes_nodup sgn N.nd)
    have rp := rOf_pos N
    generalize hr0 : rOf (codesOf ys) g o qs = r0 at TA0 rp hQ
    have rin : ∀ {x y p}, r0 x y = some p → InL (codesOf ys) x ∧ InL (codesOf ys) y ∧ x ≠ y := fun h => by rw [← hr0] at h; exact rOf_in N h
    have T0 : Tb (codesOf ys) r0 (fun z => z ∈ (ndOf (codesOf ys)).take 0) r0 := by
      refine ⟨fun x => ?_, fun x y t h => .one (rin h).1 (rin h).2.1 h, fun x y p _ _ h => ⟨p, h, Int.le_refl _⟩, fun m x y a b hm => by simp at hm⟩
      cases e : r0 x x with
      | none => rfl
      | some p => exact absurd rfl (rin e).2.2
    have out0 : OutO (codesOf ys) r0 := ⟨fun x y t h => ⟨mem_nd.mpr (rin h).1, mem_nd.mpr (rin h).2.1⟩⟩
    have sqN : ∀ {H' : Hp}, But T H4 H' → SqL K H' Nn ((ndOf (codesOf ys)).map fun x => V.str (nS x)) := fun b => b.seqL (SqL.of hN4) NnT
    have lenN : ((ndOf (codesOf ys)).map fun x => V.str (nS x)).length = (ndOf (codesOf ys)).length := List.length_map ..
    have getN : ∀ {i : Nat} {v : V}, ((ndOf (codesOf ys)).map fun x => V.str (nS x))[i]? = some v → ∃ x, (ndOf (codesOf ys))[i]? = some x ∧ v = .str (nS x) := fun h => by
      rw [List.getElem?_map] at h
      obtain ⟨x, hx, rfl⟩ := Option.map_eq_some_iff.mp h
      exact ⟨x, hx, rfl⟩
    refine ⟨_, rfl, Nn, rfl, ⟨_, sqN But.refl⟩, for_it walk_list (fun k σ H' => (∃ o6 o7 o8 o9, σ = [some (.ref x), some (.ref q1), some (.ref T), none, o4, some (.ref Nn), o6, o7, o8, o9]) ∧ But T H4 H' ∧ ∃ kvs O, H' T = some (.dT kvs) ∧ TabAt (codesOf ys) kvs O ∧ Tb (codesOf ys) r0 (fun z => z ∈ (ndOf (codesOf ys)).take k) O ∧ OutO (codesOf ys) O) ⟨⟨_, _, _, _, rfl⟩, But.refl, _, _, hT4, TA0, T0, out0⟩ (fun i σ H' _ e => sqN e.2.1) (fun k y σ Ha Hb hk e hy => ?_) (fun σ H5 e => ?_)⟩
    · obtain ⟨rfl, hy⟩ := hy
      obtain ⟨⟨o6, o7, o8, o9, rfl⟩, eb, kvs, O, hT5, TA, TT, out⟩ := e
      obtain ⟨m, hm, rfl⟩ := getN hy
      have dg : O m m = none := TT.dg m
      have mN : m ∈ ndOf (codesOf ys) := List.mem_of_getElem? hm
      clear hT4 TA0
      refine ⟨_, rfl, Nn, rfl, ⟨_, sqN eb⟩, for_it walk_list (fun i σ H' => (∃ o7 o8 o9, σ = [some (.ref x), some (.ref q1), some (.ref T), none, o4, some (.ref Nn), some (.str (nS m)), o7, o8, o9]) ∧ But T H4 H' ∧ ∃ kvs, H' T = some (.dT kvs) ∧ TabAt (codesOf ys) kvs (midO m O (ndOf (codesOf ys)) i 0)) ⟨⟨_, _, _, rfl⟩, eb, _, hT5, TA.congr fun a b => by simp [midO]⟩ (fun i σ H' _ e => sqN e.2.1) (fun i y σ Ha Hc hi e hy => ?_) (fun σ H6 e => ?_)⟩
      · obtain ⟨rfl, hy⟩ := hy
        clear TA hT5 eb
        obtain ⟨⟨o7, o8, o9, rfl⟩, eb, kvs, hT5, TA⟩ := e
        obtain ⟨u, hu, rfl⟩ := getN hy
        have uN : u ∈ ndOf (codesOf ys) := List.mem_of_getElem? hu
        refine ⟨_, rfl, Nn, rfl, ⟨_, sqN eb⟩, for_it walk_list (fun j σ H' => (∃ o8 o9, σ = [some (.ref x), some (.ref q1), some (.ref T), none, o4, some (.ref Nn), some (.str (nS m)), some (.str (nS u)), o8, o9]) ∧ But T H4 H' ∧ ∃ kvs, H' T = some (.dT kvs) ∧ TabAt (codesOf ys) kvs (midO m O (ndOf (codesOf ys)) i j)) ⟨⟨_, _, rfl⟩, eb, _, hT5, TA⟩ (fun i σ H' _ e => sqN e.2.1) (fun j y σ Ha Hd hj e hy => ?_) (fun σ H7 e => ?_)⟩
        · obtain ⟨rfl, hy⟩ := hy
          clear TA hT5 eb
          obtain ⟨⟨o8, o9, rfl⟩, eb, kvs, hT5, TA⟩ := e
          obtain ⟨v, hv, rfl⟩ := getN hy
          have vN : v ∈ ndOf (codesOf ys) := List.mem_of_getElem? hv
          have v1 : valV kvs (kN u m) = (O u m).map V.int := by rw [TA.vl, mid_col dg]
          have v2 : valV kvs (kN m v) = (O m v).map V.int := by rw [TA.vl, mid_row dg]
          have v3 : valV kvs (kN u v) = (O u v).map V.int := by rw [TA.vl, mid_new ndn hu hv]
          have stay : ph m O u v = O u v → TabAt (codesOf ys) kvs (midO m O (ndOf (codesOf ys)) i (j + 1)) := fun h => TA.congr fun a b => by
            rw [mid_step ndn hu hv]
            split
            · rename_i q
              rw [h, q.1, q.2, mid_new ndn hu hv]
            · rfl
          refine ⟨_, rfl, _, rfl, rfl, _, rfl, ?_⟩
          by_cases n : u = v
          · rw [show (!decide (V.str (nS u) = V.str (nS v))) = false by simp [n]]
            refine iteF (iteF ⟨⟨_, _, rfl⟩, eb, kvs, hT5, stay ?_⟩)
            unfold ph
            rw [if_pos n]
          · rw [show (!decide (V.str (nS u) = V.str (nS v))) = true by
              have : nS u ≠ nS v := fun e => n (nS_inj e)
              simp [this]]
            refine iteT ⟨_, rfl, _, rfl, two, fun t1 ht1 => ?_⟩
            have f1 := same_new (o := .tup [.str (nS u), .str (nS m)]) ht1
            have g1 : upd Hd t1 (.tup [.str (nS u), .str (nS m)]) t1 = some (.tup ((kN u m).map kV)) := upd_same
            refine ⟨_, rfl, T, (O u m).map V.int, rfl, .inr ⟨kvs, kN u m, t1, .inl (f1 _ _ hT5), rfl, g1, v1.symm⟩, _, rfl, ?_⟩
            have b1 := eb.same f1
            have hT6 := f1 _ _ hT5
            generalize upd Hd t1 (.tup [.str (nS u), .str (nS m)]) = He at b1 hT6 ⊢
            cases e1 : O u m with
            | none =>
              refine iteF (iteF ⟨⟨_, _, rfl⟩, b1, kvs, hT6, stay ?_⟩)
              unfold ph
              rw [if_neg n, e1]
            | some p =>
              refine iteT ⟨_, rfl, _, rfl, two, fun t2 ht2 => ?_⟩
              have f2 := same_new (o := .tup [.str (nS m), .str (nS v)]) ht2
              have g2 : upd He t2 (.tup [.str (nS m), .str (nS v)]) t2 = some (.tup ((kN m v).map kV)) := upd_same
              refine ⟨_, rfl, T, (O m v).map V.int, rfl, .inr ⟨kvs, kN m v, t2, .inl (f2 _ _ hT6), rfl, g2, v2.symm⟩, _, rfl, ?_⟩
              have b2 := b1.same f2
              have hT7 := f2 _ _ hT6
              generalize upd He t2 (.tup [.str (nS m), .str (nS v)]) = Hf at b2 hT7 ⊢
              cases e2 : O m v with
              | none =>
                refine iteF ⟨⟨_, _, rfl⟩, b2, kvs, hT7, stay ?_⟩
                unfold ph
                rw [if_neg n, e1, e2]
              | some q =>
                refine iteT ⟨_, rfl, _, rfl, _, rfl, two, fun t3 ht3 => ?_⟩
                have f3 := same_new (o := .tup [.str (nS u), .str (nS m)]) ht3
                refine ⟨T, .int p, rfl, .inr ⟨kvs, kN u m, t3, .inl (f3 _ _ hT7), rfl, upd_same, by rw [v1, e1]; rfl⟩, _, rfl, _, rfl, _, rfl, two, fun t4 ht4 => ?_⟩
                have f4 := same_new (o := .tup [.str (nS m), .str (nS v)]) ht4
                refine ⟨T, .int q, rfl, .inr ⟨kvs, kN m v, t4, .inl (f4 _ _ (f3 _ _ hT7)), rfl, upd_same, by rw [v2, e2]; rfl⟩, _, _, rfl, rfl, ?_⟩
                have b3 := (b2.same f3).same f4
                have hT8 := f4 _ _ (f3 _ _ hT7)
                generalize upd (upd Hf t3 (.tup [.str (nS u), .str (nS m)])) t4 (.tup [.str (nS m), .str (nS v)]) = Hg at b3 hT8 ⊢
                refine ⟨_, rfl, _, rfl, T, rfl, .inr ⟨kvs, .inl hT8⟩, _, rfl, _, rfl, two, fun t5 ht5 => ?_⟩
                have f5 := same_new (o := .tup [.str (nS u), .str (nS v)]) ht5
                refine ⟨_, rfl, (O u v).map V.int, .inr ⟨kvs, kN u v, t5, .inl (f5 _ _ hT8), rfl, upd_same, v3.symm⟩, p + q, (O u v).getD (p + q), ?_, ?_⟩
                · cases O u v <;> rfl
                refine ⟨_, rfl, _, rfl, _, rfl, two, fun t6 ht6 => ?_⟩
                have f6 := same_new (o := .tup [.str (nS u), .str (nS v)]) ht6
                refine ⟨T, _, rfl, .inr ⟨kvs, kN u v, t6, f6 _ _ (f5 _ _ hT8), rfl, upd_same, small TA, rfl⟩, ⟨_, _, rfl⟩, ((b3.same f5).same f6).put, _, upd_same, ?_⟩
                refine (TA.put uN vN _).congr fun a b => ?_
                rw [mid_step ndn hu hv]
                unfold putO
                split
                · unfold ph
                  rw [if_neg n, e1, e2]
                  cases O u v with
                  | none => simp
                  | some t =>
                    show some (min (p + q) t) = some (if t < p + q then t else p + q)
                    congr 1
                    split <;> omega
                · rfl
        · obtain ⟨⟨o8, o9, rfl⟩, eb, kvs, hT5, TA⟩ := e
          have hi' : i < (ndOf (codesOf ys)).length := by rw [← lenN]; exact hi
          rw [lenN] at TA
          refine ⟨⟨_, _, _, rfl⟩, eb, kvs, hT5, TA.congr fun a b => mid_rowEnd hi' a b fun a b h => ?_⟩
          rw [out.no fun q => h q.2, out.ph.no fun q => h q.2]
      · clear TA hT5 eb
        obtain ⟨⟨o7, o8, o9, rfl⟩, eb, kvs, hT5, TA⟩ := e
        rw [lenN] at TA
        refine ⟨⟨_, _, _, _, rfl⟩, eb, kvs, ph m O, hT5, TA.congr fun a b => (mid_all out a b).symm, ?_, out.ph⟩
        have TP := TT.phase (m := m) rp
        refine ⟨TP.dg, TP.pa, TP.le, fun k' x y a b hk' => TP.tri k' x y a b ?_⟩
        rw [List.take_add_one, hm] at hk'
        simpa using hk'
    · obtain ⟨⟨o6, o7, o8, o9, rfl⟩, eb, kvs, O, hT5, TA, TT, out⟩ := e
      rw [lenN, List.take_length] at TT
      have TL : Tb (codesOf ys) r0 (InL (codesOf ys)) O := ⟨TT.dg, TT.pa, TT.le, fun k' x y a b hk' => TT.tri k' x y a b (mem_nd.mpr hk')⟩
      obtain ⟨CL, tot⟩ := TL.clo rp (by rw [← hr0]; exact rOf_all)
      have sg5 := eb _ _ (apart _ _ hsg) (b4 _ _ (apart _ _ hsg) (e2 _ _ hsg))
      have up0 : ∀ b u, H b = some u → H5 b = some u := fun b u q => eb _ _ (apart _ _ (e1 _ _ q)) (b4 _ _ (apart _ _ (e1 _ _ q)) (e12 _ _ q))
      have fr : ∀ {b}, H5 b = none → H b = none := fun {b} h => by
        cases e : H b with
        | none => rfl
        | some u => rw [up0 _ _ e] at h; cases h
      refine ⟨_, rfl, _, rfl, fun cx cdx hcx hcdx nn => ?_⟩
      have nx : ∀ b u, H5 b = some u → b ≠ cx ∧ b ≠ cdx := fun b u e => ⟨ne_of_none e hcx, ne_of_none e hcdx⟩
      have up : ∀ b u, H5 b = some u → upd (upd H5 cdx (.own cx)) cx (.ins Cc cdx []) b = some u := fun b u e => by
        rw [upd_ne (nx b u e).1, upd_ne (nx b u e).2]; exact e
      refine ⟨cx, cdx, T, q1, ys, kvs, O, rfl, upd_same, by rw [upd_ne nn, upd_same], nn, up _ _ hT5, up _ _ sg5, lz, N.nd, sgn, TA, tot, fun H' kp cl => ⟨rfl, hQ cx cdx (cOf O) H' (fun b u q => ?_) (fr hcx) (fr hcdx) CL cl⟩⟩
      have q5 := up0 _ _ q
      exact kp b u (nx _ _ q5).1 (nx _ _ q5).2 (up _ _ q5)
end
end MN
/-! enumerate(text) -/
namespace MN
open PySem PySem.Spec PyProof.Rows L2
/-- the signs with their places, each in a new pair -/
def Ites (z : Str) : It :=
  ⟨fun i _ => i < z.cps.size, fun i H v H' => ∃ T c, z.cps[i]? = some c ∧ v = .ref T ∧ H T = none ∧ H' = upd H T (.tup [.int (i : Nat), .str ⟨#[c]⟩]), fun i _ => i = z.cps.size⟩
theorem draws_str {prog : Program} {w : World} {A : Around} (hh : A.handled = none) (it : Addr) (x : Str) (t : Tok) (ty : String) (hty : ty = "str_ascii_iterator" ∨ ty = "str_iterator") :
    Draws prog w A it [it] x.cps.size (fun i v => ∃ c u, x.cps[i]? = some c ∧ v = .str ⟨#[c]⟩ u) (fun i h => h.IsStrIter it ty x t i) := by
  rcases hty with rfl | rfl
  · exact Draws.strAscii hh it x t
  · exact Draws.strWide hh it x t
theorem turn_enumS {P : Program} {w : World} {K : PySem.W.Frag} {elts : List Expr} {kk : Nat} {tpos : Pos} (z : Str) (t : Tok) (ty : String) (hty : ty = "str_ascii_iterator" ∨ ty = "str_iterator") (e it : Addr) :
    Turn P w K (.Tuple elts kk tpos) (Ites z) [e, it] e (fun i h => (∃ old, IsEnum h e it ((i : Nat) : Int) old) ∧ h.IsStrIter it ty z t i ∧ e ≠ it) where
  mem := by simp
  obj := fun i h st b hb => by
    obtain ⟨⟨old, he⟩, ⟨o, ho, hc, hd⟩, _⟩ := st
    have e' : b = e ∨ b = it := by simpa using hb
    rcases e' with z | z
    · rw [z]; exact ⟨_, he, fun v q => nomatch q⟩
    · rw [z]; exact ⟨o, ho, fun v q => by rw [hd] at q; cases q⟩
  keep := fun i h h' st k => by
    obtain ⟨⟨old, he⟩, ⟨o, ho, r⟩, hne⟩ := st
    exact ⟨⟨old, k e (by simp) _ he⟩, ⟨o, k it (by simp) o ho, r⟩, hne⟩
  item := by
    intro X hP hw hK hc i pins s σ H E I hf st hg
    subst hP hw hK
    obtain ⟨⟨old, he⟩, hit, hne⟩ := st
    have hel : e < s.heap.objs.size := Heap.lt_size he
    have hil : it < s.heap.objs.size := by obtain ⟨_, q, _⟩ := hit; exact Heap.lt_size q
    refine wpAny_pyNext_enum_itemD (draws_str (A := X.A.in1) (I.ok.hd hc) it z t ty hty) he hit hg hne (by simpa using hne) fun x h' tk hx ho hit' hT hsz hk => ?_
    obtain ⟨c, u, hcx, rfl⟩ := hx
    refine ⟨_, rfl, wpAny_letOwnedTupleGo_enum (s := { s with heap := h', toks := tk + 1 }) ho fun h'' he' sb => ?_⟩
    have hT2 : h''.get? s.heap.objs.size = some { cls := .type "tuple", data := .seq #[.int i tk, .str ⟨#[c]⟩ u] } := (sb.2 _ (Nat.ne_of_gt hel)).trans hT
    have new : ObjOk X.prog X.w (upd H s.heap.objs.size (.tup [.int (i : Nat), .str ⟨#[c]⟩])) h'' s.heap.objs.size (.tup [.int (i : Nat), .str ⟨#[c]⟩]) :=
      ⟨by show 2 ≤ sizeLine; decide, [.int i tk, .str ⟨#[c]⟩ u], .cons ⟨_, rfl⟩ (.cons ⟨_, rfl⟩ .nil), ⟨_, hT2, rfl, _, rfl⟩⟩
    have I1 : L2.Inv X pins σ (upd H s.heap.objs.size (.tup [.int (i : Nat), .str ⟨#[c]⟩])) { s with heap := h'', toks := tk + 1 } :=
      I.turnedNew (ch := [e, it]) (fun b ob hb q => (sb.2 b (fun z => hb (by simp [z]))).trans (hk b ob (fun z => hb (by simp [z])) (fun z => hb (by simp [z])) q)) hf (Nat.le_refl _) new
    refine ⟨.ref s.heap.objs.size, _, I1, rfl, ⟨_, c, hcx, rfl, I.hok.fresh (Nat.le_refl _), rfl⟩, ⟨⟨.str ⟨#[c]⟩ u, ?_⟩, ?_, hne⟩, fun b hb => ?_⟩
    · have e1 : ((i + 1 : Nat) : Int) = (i : Int) + 1 := by omega
      rw [e1]; exact he'
    · obtain ⟨o, ho2, r⟩ := hit'
      exact ⟨o, (sb.2 it (Ne.symm hne)).trans ho2, r⟩
    · have hb' : b < s.heap.objs.size := by
        have e' : b = e ∨ b = it := by simpa using hb
        rcases e' with z | z
        · rw [z]; exact hel
        · rw [z]; exact hil
      rw [upd_ne (Nat.ne_of_lt hb')]
      exact (hf b hb).1
  done := by
    intro X hP hw hK hc i pins s σ H E I hf st hg
    subst hP hw hK
    obtain ⟨⟨old, he⟩, hit, hne⟩ := st
    obtain ⟨f0, f1, f2, f3, f4, f5⟩ := hf it (by simp)
    have hg' : i = z.cps.size := hg
    rw [hg'] at hit he
    exact wpAny_pyNext_enum_endD (draws_str (A := X.A.in1) (I.ok.hd hc) it z t ty hty) he hit fun h' eb => ⟨rfl, I.turned (t' := s.toks) (fun b o hb q => eb b o hb q) f0 f1 f3 f4 f5⟩
  self := fun A i s Q E st h => let ⟨⟨_, he⟩, _⟩ := st; wpAny_pyIter_enum he h
def iEnumS (ta : TA) : TI := fun σ H R => ta σ H fun vs H1 => ∃ z, vs = [.str z] ∧ R (Ites z) H1
theorem pi_enumS {X : Cx} {e : Expr} {ta : TA} {p pos tpos : Pos} {elts : List Expr} {kk : Nat} (hg : Gl X "enumerate") (hm : X.mg "enumerate" = none) (ha : PA X [e] ta) (hs : starEach [e] X.env = [(false, eval e X.env)] := by rfl) :
    PI X (.Tuple elts kk tpos) (.Call (.Name "enumerate" p) [e] [] pos) (iEnumS ta) := by
  refine ⟨fun pins s σ H R I h => ?_⟩
  refine Call_ (ld_blt I hg hm boot_enumerate (PyProof.Rows.callWith_type1 (thn (ha.run pos pins s σ H _ I h) fun us s1 ⟨vs, H1, I1, r1, q1⟩ => ?_) hs rfl))
  obtain ⟨z, ex, q⟩ := q1
  subst ex
  cases r1 with
  | cons r rr =>
    cases rr
    obtain ⟨t, rfl⟩ := (show ∃ t, _ = Value.str z t from r)
    refine call_enumerate_str fun h' he hit hsz hk => wpAny_pyIter_enum he ?_
    have I2 : L2.Inv X pins σ H1 { s1 with heap := h' } := I1.kept (t' := s1.toks) hk
    have hty : strIterType z = "str_ascii_iterator" ∨ strIterType z = "str_iterator" := by
      unfold strIterType
      cases z.cps.all (· < 128)
      · exact .inr rfl
      · exact .inl rfl
    refine ⟨s1.heap.objs.size + 1, [s1.heap.objs.size + 1, s1.heap.objs.size], _, _, H1, rfl, I2, turn_enumS z t (strIterType z) hty (s1.heap.objs.size + 1) s1.heap.objs.size, ⟨⟨.none, he⟩, hit, Nat.succ_ne_self _⟩, fun b hb => ?_, q⟩
    have e' : b = s1.heap.objs.size + 1 ∨ b = s1.heap.objs.size := by simpa using hb
    have hle : s1.heap.objs.size ≤ b := by
      rcases e' with z | z
      · rw [z]; exact Nat.le_add_right _ _
      · rw [z]; exact Nat.le_refl _
    exact I1.fpOk hle (I1.hok.fresh hle)
theorem walk_enumS {z : Str} : Walk (Ites z) z.cps.size (fun _ => True) (fun i H v H' => ∃ T c, z.cps[i]? = some c ∧ v = .ref T ∧ H T = none ∧ H' = upd H T (.tup [.int (i : Nat), .str ⟨#[c]⟩])) :=
  ⟨fun _ _ hi _ => hi, fun _ _ => rfl, fun _ _ _ _ _ _ y => y⟩
/-- min of three numbers -/
theorem call_min3 {X : Cx} (hc : X.calm = true) : CallR X (.builtin "min") (fun xs H Q => ∃ a b c : Int, xs = [.int a, .int b, .int c] ∧ Q (.int (min (min a b) c)) H) := by
  intro pins s σ H xs us Q I r h
  obtain ⟨a, b, c, rfl, q⟩ := h
  refine call_min3Nu hc pins s σ H _ us Q I r ⟨.int a, .int b, .int c, .int (min (min a b) c), rfl, ?_, q⟩
  have two : ∀ a b : Int, nuMin2 (.int a) (.int b) = some (.int (min a b)) := fun a b => by
    show some (if decide (b < a) = true then V.int b else V.int a) = _
    by_cases h : b < a
    · rw [if_pos (decide_eq_true h), Int.min_eq_right (by omega)]
    · rw [if_neg (by simp [h]), Int.min_eq_left (by omega)]
  unfold nuMin3
  rw [two]
  exact two _ _
end MN
/-! require_word, require_prices, Prices.__contains__, require_two -/
namespace MN
open PySem PySem.Spec PyProof.Rows L2
/-- a word by its codes -/
def wS (u : List Nat) : Str := ⟨u.toArray⟩
theorem wS_len (u : List Nat) : (wS u).length = u.length := by simp [wS, Str.length]
theorem wS_cps (u : List Nat) : (wS u).cps.toList = u := rfl
theorem wS_inj {u v : List Nat} (h : wS u = wS v) : u = v := by
  have := congrArg (fun z : Str => z.cps.toList) h
  exact this
theorem wS_app (u v : List Nat) : wS u ++ wS v = wS (u ++ v) := by
  show (⟨u.toArray ++ v.toArray⟩ : Str) = ⟨(u ++ v).toArray⟩
  simp
theorem codes_sgn {zs : List Str} (h : ∀ z ∈ zs, ∃ c ∈ ("abcde" : Str).cps.toList, z = ⟨#[c]⟩) {c : Nat} (hc : c ∈ codesOf zs) : c ∈ ("abcde" : Str).cps.toList := by
  obtain ⟨d, hd, e⟩ := h _ ((mem_codes h).mp hc)
  have := nS_inj (x := some c) (y := some d) e
  cases this
  exact hd
section
variable {P : Program} {w : World} {K : PySem.W.Frag} {mg : Str → Option Value} {base : Heap} {Cp Cc : Addr}
def spReqWord : Sp := fun vs H Q _ => ∃ u : List Nat, vs = [.str (wS u)] ∧ (∀ c ∈ u, c ∈ ("abcde" : Str).cps.toList) ∧ u.length ≤ 1000 ∧ ∀ H', Same H H' → Q .non H'
theorem sc_require_word : FnScope ["value"] ["value"] (defScope (top 17)) := ⟨rfl, rfl, rfl, by decide +kernel, rfl, by decide +kernel, by decide +kernel⟩
theorem c_require_word (A : At K mg "require_word" (top 17)) (B : Blt mg) (G : GlC mg "MAX_WORD" (.int 1000)) (c_is_word : Cal P w K mg base 1 "is_word" (spIsWord K)) : Cal P w K mg base 2 "require_word" spReqWord := by
  refine cal_of A sc_require_word (fun _ _ _ _ _ _ us hl => match us, hl with | [_], _ => rfl) (fun vs H Q E h => ?_) (fun _ cdv A outer s H vs Q E hr h => ?_)
  · obtain ⟨_, rfl, _⟩ := h; rfl
  · obtain ⟨u, rfl, hu, hl, hQ⟩ := h
    have big : 100000 < sizeLine := by decide
    refine ⟨_, (pss_one (ps_if (PW.pt (pw_or (pt_not (pt_val (pe_c c_is_word hr (by decide) (by rfl) (pa_cons (pv 0) pa_nil)))) (pw_or1 (pt_cmpR op_gt (pe_callB call_len_str (by rfl) B.len (by decide +kernel) (pa_cons (pv 0) pa_nil)) (pe_gl (by rfl) G) (nomark _)))))
      (pss_one ps_never)
      pss_nil)), ?_⟩
    refine ⟨_, rfl, _, rfl, .str (by rw [wS_len]; omega), fun H1 e1 => ⟨_, rfl, ?_⟩⟩
    rw [show isWord (.str (wS u)) = true from by
      show isWordS (wS u) = true
      unfold isWordS
      rw [wS_cps, List.all_eq_true]
      intro c hc
      simp only [sgn, decide_eq_true_eq]
      exact hu c hc]
    refine iteF ⟨_, rfl, _, rfl, by rw [wS_len]; omega, _, _, rfl, rfl, _, rfl, ?_⟩
    rw [wS_len, decide_eq_false (by omega)]
    exact iteF (hQ _ e1)
/-! ### require_prices -/
def spReqPrices (Cp : Addr) : Sp := fun vs H Q _ => ∃ x dx ys ys2 g o qs, vs = [.ref x] ∧ PrAt Cp H x dx ys ys2 g o qs ∧ Q .non H
theorem sc_require_prices : FnScope ["value"] ["value"] (defScope (top 28)) := ⟨rfl, rfl, rfl, by decide +kernel, rfl, by decide +kernel, by decide +kernel⟩
theorem c_require_prices (A : At K mg "require_prices" (top 28)) (B : Blt mg) (PC : PrC K mg Cp Cc) : Cal P w K mg base 1 "require_prices" (spReqPrices Cp) := by
  refine cal_of A sc_require_prices (fun _ _ _ _ _ _ us hl => match us, hl with | [_], _ => rfl) (fun vs H Q E h => ?_) (fun _ cdv A outer s H vs Q E hr h => ?_)
  · obtain ⟨_, _, _, _, _, _, _, rfl, _⟩ := h; rfl
  · obtain ⟨x, dx, ys, ys2, g, o, qs, rfl, hP, hQ⟩ := h
    have GF : GlC mg "Prices" (.ref Cp) := ⟨_, PC.gp, rfl⟩
    refine ⟨_, pss_one (ps_if (pt_not (pt_val (pe_callB (SlX.call_isiSl (.ref Cp)) (by rfl) B.isinstance (by decide +kernel) (pa_cons (pv 0) (pa_cons (pe_gl (by rfl) GF) pa_nil))))) (pss_one ps_never) pss_nil), ?_⟩
    obtain ⟨PA, PB, PS, ws, hs, _⟩ := hP
    exact ⟨_, rfl, x, Cp, dx, ws, _, true, rfl, rfl, fun w e => e, .inr hs, PC.sp.sc, PC.si, PC.isP, _, rfl, iteF hQ⟩
/-! ### Prices.__contains__ -/
def spHas (Cp : Addr) : Sp := fun vs H Q _ => ∃ x dx ys ys2 g o qs z, vs = [.ref x, .str z] ∧ PrAt Cp H x dx ys ys2 g o qs ∧ PrN ys ys2 g o qs ∧ z ∈ ys ∧ Q (.bl true) H
theorem sc_has : FnScope ["self", "value"] ["self", "value"] (defScope (inClass (top 27) 14)) := ⟨rfl, rfl, rfl, by decide +kernel, rfl, by decide +kernel, by decide +kernel⟩
theorem f_has {f : Addr} {fd : FuncData} (PC : PrC K mg Cp Cc) (F : FunAt K "__contains__" "Prices.__contains__" (inClass (top 27) 14) [] f fd) (c_is_sign : Cal P w K mg base 1 "is_sign" (spIsSign K)) : FnOk P w K mg base CX0 2 f fd ["self", "value"] (spHas Cp) := by
  refine fnok_of F sc_has (fun vs H Q E h => ?_) (fun cdv A outer s H vs Q E hr h => ?_)
  · obtain ⟨_, _, _, _, _, _, _, _, rfl, _⟩ := h; rfl
  · obtain ⟨x, dx, ys, ys2, g, o, qs, z, rfl, hP, N, hz, hQ⟩ := h
    obtain ⟨p1, s1⟩ := PC.sp.s1
    refine ⟨_, pss_one (ps_ret (pe_and (pe_c c_is_sign hr (by decide) (by rfl) (pa_cons (pv 1) pa_nil)) (pe_one (pe_cmp (pc_din (hu_of hr) (pv 1) (SlX.pe_sl (pv 0))))))), ?_⟩
    obtain ⟨PA, PB, PS, ws, hs, w1, w0, w2, nAB, hA, hB, hS⟩ := hP
    refine ⟨_, rfl, _, rfl, .str (by rw [len_one (N.sg z hz)]; decide), _, rfl, ?_⟩
    rw [isSign_one (N.sg z hz)]
    refine iteT ⟨_, rfl, _, rfl, x, Cp, dx, p1, ws, 1, _, rfl, .inr hs, PC.sp.sc, s1, w1, PA, some (.int (g z)), rfl, .inl ⟨_, .inr z, .inl hA, rfl, (dkF_val N.nd g hz).symm⟩, hQ⟩
theorem r_has (PC : PrC K mg Cp Cc) (c_is_sign : Cal P w K mg base 1 "is_sign" (spIsSign K)) : ∃ g, PySem.W.findIn K (.ref Cp) "__contains__" = some (some (.ref g)) ∧ PySem.W.isFn K (.ref g) = true ∧ FnR P w K mg base CX0 2 g (fun vs H Q E => spHas Cp (vs ++ []) H Q E) := by
  obtain ⟨g, fd, h1, h2, F⟩ := PC.con
  have b := FunD.bindsN (ps := ["self", "value"]) F fun _ _ _ _ _ _ us hl => match us, hl with | [_, _], _ => rfl
  exact ⟨g, h1, h2, (f_has PC F c_is_sign).raw b .nil⟩
/-! ### require_two -/
def spReqTwo (Cp : Addr) : Sp := fun vs H Q _ => ∃ u v x dx ys ys2 g o qs, vs = [.str (wS u), .str (wS v), .ref x] ∧ PrAt Cp H x dx ys ys2 g o qs ∧ PrN ys ys2 g o qs ∧ (∀ c ∈ u, c ∈ codesOf ys) ∧ (∀ c ∈ v, c ∈ codesOf ys) ∧ u.length ≤ 200 ∧ v.length ≤ 200 ∧ ∀ H', Same H H' → Q .non H'
abbrev N_require_two : List Str := ["one", "other", "prices", "sign"]
theorem sc_require_two : FnScope N_require_two ["one", "other", "prices"] (defScope (top 77)) := ⟨rfl, rfl, rfl, by decide +kernel, rfl, by decide +kernel, by decide +kernel⟩
theorem c_require_two (A : At K mg "require_two" (top 77)) (B : Blt mg) (PC : PrC K mg Cp Cc) (G : GlC mg "MAX_SIGNS" (.int 200)) (c_is_sign : Cal P w K mg base 1 "is_sign" (spIsSign K)) (c_require_word : Cal P w K mg base 2 "require_word" spReqWord) (c_require_prices : Cal P w K mg base 1 "require_prices" (spReqPrices Cp)) : Cal P w K mg base 3 "require_two" (spReqTwo Cp) := by
  obtain ⟨gh, h1, h2, h3⟩ := r_has (P := P) (w := w) (base := base) PC c_is_sign
  refine cal_of A sc_require_two (fun _ _ _ _ _ _ us hl => match us, hl with | [_, _, _], _ => rfl) (fun vs H Q E h => ?_) (fun _ cdv A outer s H vs Q E hr h => ?_)
  · obtain ⟨_, _, _, _, _, _, _, _, _, rfl, _⟩ := h; rfl
  · obtain ⟨u, v, x, dx, ys, ys2, g, o, qs, rfl, hP, N, hu, hv, lu, lv, hQ⟩ := h
    refine ⟨_, (pss_cons (ps_expr (pe_c c_require_word hr (by decide) (by rfl) (pa_cons (pv 0) pa_nil)))
      (pss_cons (ps_expr (pe_c c_require_word hr (by decide) (by rfl) (pa_cons (pv 1) pa_nil)))
      (pss_cons (ps_expr (pe_c c_require_prices hr (by decide) (by rfl) (pa_cons (pv 2) pa_nil)))
      (pss_cons (ps_if (pt_val (pe_callB (cr_any rfl) (by rfl) B.any (by decide +kernel) (pa_cons (pe_lc (own := [("sign", 3)]) (g := gName 3) (tt := tYes) (by rfl) sc_require_two.nd (pi_list (pe_callB (cr_sortedX rfl) (by rfl) B.sorted (by decide +kernel) (pa_cons (pe_callTy (cr_setX rfl) (by rfl) B.set (by decide +kernel) (pa_cons (pe_op op_add_str (pv 0) (pv 1)) pa_nil)) pa_nil))) (blkOk_by (own := [("sign", 3)]) (N := N_require_two) (sc := defScope (top 77)) (by decide +kernel)) (fun _ _ _ _ _ => (pg_name (i := 3) sc_require_two.nd rfl (Or.inl rfl))) (fun _ _ _ _ _ => pts_nil) (fun _ _ _ _ _ => (pe_cmpR (op_notInOwn h1 h2 h3 hr pass0) (pv 3) (pv 2) (by rfl)))) pa_nil)))
        (pss_one ps_never)
        pss_nil)
      (pss_one (ps_if (pt_cmpR op_gt (pe_callB (call_max2 rfl) (by rfl) B.max (by decide +kernel) (pa_cons (pe_callB call_len_str (by rfl) B.len (by decide +kernel) (pa_cons (pv 0) pa_nil)) (pa_cons (pe_callB call_len_str (by rfl) B.len (by decide +kernel) (pa_cons (pv 1) pa_nil)) pa_nil))) (pe_gl (by rfl) G) (nomark _))
        (pss_one ps_never)
        pss_nil)))))), ?_⟩
    have big : 100000 < sizeLine := by decide
    refine ⟨_, rfl, u, rfl, fun c hc => codes_sgn N.sg (hu c hc), by omega, fun H1 e1 => ?_⟩
    refine ⟨_, rfl, v, rfl, fun c hc => codes_sgn N.sg (hv c hc), by omega, fun H2 e2 => ?_⟩
    have e12 := e1.trans e2
    refine ⟨_, rfl, x, dx, ys, ys2, g, o, qs, rfl, hP.same e12, ?_⟩
    -- signs without prices
    have kl : (signKeys (wS u ++ wS v)).length ≤ 4000 := by
      rw [wS_app]
      simp [signKeys, wS]
      omega
    refine ⟨_, rfl, _, rfl, _, _, rfl, rfl, by rw [wS_len, wS_len]; omega, _, signKeys (wS u ++ wS v), rfl, .inl ⟨_, rfl, rfl⟩, kl, fun p us nd hl hm hp => ?_⟩
    have keys : ∀ k ∈ us, ∃ z ∈ ys, k = Sum.inr z := fun k hk => by
      have := (hm k).mp hk
      rw [wS_app] at this
      unfold signKeys at this
      obtain ⟨c, hc, rfl⟩ := List.mem_map.mp this
      refine ⟨_, (mem_codes N.sg).mp ?_, rfl⟩
      rcases List.mem_append.mp (show c ∈ u ++ v from hc) with hc | hc
      · exact hu c hc
      · exact hv c hc
    obtain ⟨zs, rfl⟩ : ∃ zs : List Str, us = zs.map Sum.inr := by
      clear nd hl hm hp
      induction us with
      | nil => exact ⟨[], rfl⟩
      | cons k us ih =>
        obtain ⟨zs, rfl⟩ := ih fun k' h => keys k' (List.mem_cons_of_mem _ h)
        obtain ⟨z, _, rfl⟩ := keys k List.mem_cons_self
        exact ⟨z :: zs, rfl⟩
    have zin : ∀ z ∈ zs, z ∈ ys := fun z hz => by
      obtain ⟨z', h', e⟩ := keys _ (List.mem_map.mpr ⟨z, hz, rfl⟩)
      cases e
      exact h'
    have l5 : zs.length ≤ 5 := by
      have h1 := len_sub (m := ys) (l := zs) (by
        rw [List.Nodup, List.pairwise_map] at nd
        exact nd.imp fun {a b} hab e => hab (by rw [e])) zin
      have := N.le
      omega
    have e3 := e12.trans (same_new (o := SetXO P w p (zs.map Sum.inr)) hp)
    refine ⟨p, zs, rfl, upd_same, by omega, fun ws q hws hso hq => ?_⟩
    have e4 := e3.trans (same_new (o := .lst (ws.map V.str)) hq)
    refine ⟨q, rfl, ⟨_, .inl (.inl upd_same)⟩, fun D hD => ?_⟩
    have hP4 := hP.same e4
    refine lc_lstE (.inl (.inl upd_same)) hD (by rw [List.length_map, hws.length_eq]; omega) (fun _ => true) (fun _ => .bl false) (fun _ _ => rfl) (fun _ _ H2 e2 Q q => q _ (Same.refl _)) (fun y hy _ H5 e5 Q q => ?_) (fun H5 e5 h5 => ?_)
    · obtain ⟨z, hz, rfl⟩ := List.mem_map.mp hy
      have hP5 := hP4.same e5
      obtain ⟨PA, PB, PS, vs, hs, _⟩ := id hP5
      exact ⟨_, rfl, _, rfl, x, dx, vs, rfl, .inr hs, x, dx, ys, ys2, g, o, qs, z, rfl, hP5, N, zin z (hws.mem_iff.mp hz), true, rfl, q _ (Same.refl _)⟩
    have bs : (((ws.map V.str).filter fun _ => true).map fun _ => V.bl false) = (List.replicate ws.length false).map V.bl := by
      rw [filter_all, List.map_map, List.map_replicate]
      exact List.map_const' ..
    rw [bs] at h5
    refine ⟨D, _, rfl, .inl (.inl h5), _, rfl, ?_⟩
    rw [show (List.replicate ws.length false).any id = false by simp]
    refine iteF ⟨_, rfl, _, rfl, by rw [wS_len]; omega, _, rfl, _, rfl, by rw [wS_len]; omega, _, _, rfl, _, _, rfl, rfl, _, rfl, ?_⟩
    rw [wS_len, wS_len, decide_eq_false (by split <;> omega)]
    exact iteF (hQ _ (e4.trans e5))
end
end MN
/-! costs_with, cost_table, distance -/
namespace MN
open PySem PySem.Spec PyProof.Rows L2
/-- the costs of a word (turned) to all beginnings of another one -/
def rowV (c : Nd → Nd → Int) (u v : List Nat) : Nat → List V := fun n => (List.range n).map fun j => V.int (Dc c u (v.take j).reverse)
theorem rowV_get {c : Nd → Nd → Int} {u v : List Nat} {n j : Nat} (h : j < n) : (rowV c u v n)[j]? = some (.int (Dc c u (v.take j).reverse)) := by
  unfold rowV
  rw [List.getElem?_map, List.getElem?_range h]; rfl
theorem rowV_len {c : Nd → Nd → Int} {u v : List Nat} {n : Nat} : (rowV c u v n).length = n := by simp [rowV]
theorem rowV_succ {c : Nd → Nd → Int} {u v : List Nat} {n : Nat} : rowV c u v (n + 1) = rowV c u v n ++ [.int (Dc c u (v.take n).reverse)] := by
  unfold rowV
  rw [List.range_succ, List.map_append]; rfl
theorem take_rev {v : List Nat} {j l : Nat} (h : v[j]? = some l) : (v.take (j + 1)).reverse = l :: (v.take j).reverse := by
  rw [List.take_add_one, h]; simp
theorem codeOf_sg (c : Nat) : codeOf (sgS c) = c := rfl
section
variable {P : Program} {w : World} {K : PySem.W.Frag} {mg : Str → Option Value} {base : Heap} {Cp Cc : Addr}
def spCostsWith (Cc : Addr) : Sp := fun vs H Q _ => ∃ q dq a s u v ys c, vs = [.ref q, .ref a, .str (sgS s), .str (wS v)] ∧ ClAt Cc H q dq ys c ∧ ys.Nodup ∧ (∀ x, c x x = 0) ∧ H a = some (.lst (rowV c u v (v.length + 1))) ∧ sgS s ∈ ys ∧ (∀ l ∈ v, sgS l ∈ ys) ∧ v.length ≤ 200 ∧
  ∀ r H', H r = none → Same H H' → H' r = some (.lst (rowV c (s :: u) v (v.length + 1))) → Q (.ref r) H'
abbrev N_costs_with : List Str := ["closed", "ahead", "sign", "other", "row", "j", "letter", "both"]
theorem sc_costs_with : FnScope N_costs_with ["closed", "ahead", "sign", "other"] (defScope (top 78)) := ⟨rfl, rfl, rfl, by decide +kernel, rfl, by decide +kernel, by decide +kernel⟩
theorem c_costs_with (A : At K mg "costs_with" (top 78)) (B : Blt mg) (PC : PrC K mg Cp Cc) : Cal P w K mg base 1 "costs_with" (spCostsWith Cc) := by
  refine cal_of A sc_costs_with (fun _ _ _ _ _ _ us hl => match us, hl with | [_, _, _, _], _ => rfl) (fun vs H Q E h => ?_) (fun _ cdv A outer s H vs Q E hr h => ?_)
  · obtain ⟨_, _, _, _, _, _, _, _, rfl, _⟩ := h; rfl
  · obtain ⟨q, dq, a, s0, u, v, ys, c, rfl, hC, nd, cz, ha, hs0, hv, lv, hQ⟩ := h
    obtain ⟨p0, t0⟩ := PC.sc.s0
    obtain ⟨p1, t1⟩ := PC.sc.s1
    obtain ⟨p2, t2⟩ := PC.sc.s2
    refine ⟨_, (pss_cons (ps_set (i := 4) sc_costs_with.nd rfl (Or.inl rfl) (pe_lst (pa_cons (pe_op op_add (pe_ix ix_list (pv 1) pe_int (fun _ _ => rfl)) (pe_dget (hu_of hr) (SlX.pe_sl (pv 0)) (pv 2) (fun _ _ => rfl))) pa_nil)))
      (pss_cons (ps_for PassesOwn.never rfl (pi_enumS (by rfl) B.enumerate (pa_cons (pv 3) pa_nil)) (pg_tup rfl (pgs_cons (pg_name (i := 5) sc_costs_with.nd rfl (Or.inl rfl)) (pgs_cons (pg_name (i := 6) sc_costs_with.nd rfl (Or.inl rfl)) pgs_nil)))
        (pss_cons (ps_set (i := 7) sc_costs_with.nd rfl (Or.inl rfl) (pe_op op_add (pe_ix ix_list (pv 1) (pv 5) (fun _ _ => rfl)) (pe_ifExp (pt_cmpR op_eq (pv 6) (pv 2) (nomark _)) pe_int (pe_dget (hu_of hr) (SlX.pe_sl (pv 0)) (pe_tup (pa_cons (pv 2) (pa_cons (pv 6) pa_nil))) (fun _ _ => rfl)))))
        (pss_one (ps_expr (pe_append K rfl (pv 4) (pe_callB (call_min3 rfl) (by rfl) B.min (by decide +kernel) (pa_cons (pv 7) (pa_cons (pe_op op_add (pe_ix ix_list (pv 1) (pe_op op_add (pv 5) pe_int) (fun _ _ => rfl)) (pe_dget (hu_of hr) (SlX.pe_sl (pv 0)) (pv 2) (fun _ _ => rfl))) (pa_cons (pe_op op_add (pe_ix ix_list (pv 4) (pv 5) (fun _ _ => rfl)) (pe_dget (hu_of hr) (SlX.pe_sl (pv 0)) (pv 6) (fun _ _ => rfl))) pa_nil)))))))))
      (pss_one (ps_ret (pv 4))))), ?_⟩
    have hC0 := hC
    obtain ⟨qs, AP, PA, PB, PS, ws, hs, w1, w0, w2, nAB, hA, hB, hS⟩ := hC
    have two : 2 ≤ sizeLine := by decide
    have one : 1 ≤ sizeLine := by decide
    have big : 100000 < sizeLine := by decide
    have vB : ∀ l, sgS l ∈ ys → valV (dkF ys fun z => c (some (codeOf z)) none) (.inr (sgS l)) = some (.int (c (some l) none)) := fun l hl => dkF_val nd _ hl
    have vA : ∀ l, sgS l ∈ ys → valV (dkF ys fun z => c none (some (codeOf z))) (.inr (sgS l)) = some (.int (c none (some l))) := fun l hl => dkF_val nd _ hl
    -- row
    refine ⟨_, rfl, a, _, 0, _, rfl, rfl, SqL.of ha, atI_nat (rowV_get (Nat.succ_pos _)), _, rfl, q, Cc, dq, p0, ws, 0, _, rfl, .inr hs, PC.sc.sc, t0, w0, _, rfl, PB, _, rfl, .inl ⟨_, .inr (sgS s0), .inl hB, rfl, (vB s0 hs0).symm⟩, _, _, rfl, rfl, one, fun R hR => ?_⟩
    have e1 := same_new (o := .lst [.int (Dc c u (v.take 0).reverse + c (some s0) none)]) hR
    have hR1 : upd H R (.lst [.int (Dc c u (v.take 0).reverse + c (some s0) none)]) R = some (.lst (rowV c (s0 :: u) v 1)) := by
      rw [upd_same]
      show _ = some (HO.lst [.int (Dc c (s0 :: u) (v.take 0).reverse)])
      rw [List.take_zero, List.reverse_nil]
      simp only [Dc]
    have apart : ∀ b o, H b = some o → b ≠ R := fun b o h => ne_of_none h hR
    refine ⟨_, rfl, wS v, rfl, for_it walk_enumS (fun j σ H' => (∃ o5 o6 o7, σ = [some (.ref q), some (.ref a), some (.str (sgS s0)), some (.str (wS v)), some (.ref R), o5, o6, o7]) ∧ Same H H' ∧ H' R = some (.lst (rowV c (s0 :: u) v (j + 1)))) ⟨⟨_, _, _, rfl⟩, e1, hR1⟩ (fun _ _ _ _ _ => trivial) (fun j y σ Ha Hb hj e hy => ?_) (fun σ H2 e => ?_)⟩
    · obtain ⟨T, l, hl, rfl, hT, rfl⟩ := hy
      obtain ⟨⟨o5, o6, o7, rfl⟩, ea, hRa⟩ := e
      have hl' : v[j]? = some l := by simpa [wS] using hl
      have lj : j < v.length := (List.getElem?_eq_some_iff.mp hl').1
      have ml : sgS l ∈ ys := hv l (List.mem_of_getElem? hl')
      have f1 := same_new (o := .tup [.int (j : Nat), .str (sgS l)]) hT
      have eb := ea.trans f1
      have hRb := f1 _ _ hRa
      refine ⟨T, _, rfl, .inl (.inl upd_same), rfl, _, _, rfl, _, _, rfl, rfl, ?_⟩
      show (tAsg _ _ : TS) _ _ (upd Ha T (.tup [.int (j : Nat), .str (sgS l)]))
      generalize upd Ha T (.tup [.int (j : Nat), .str (sgS l)]) = Hb at eb hRb ⊢
      refine ⟨_, rfl, _, rfl, a, _, _, _, rfl, rfl, SqL.of (eb _ _ ha), atI_nat (rowV_get (by omega)), _, rfl, _, rfl, rfl, _, rfl, ?_⟩
      by_cases n : l = s0
      · subst n
        rw [show decide (V.str (⟨#[l]⟩ : Str) = V.str (sgS l)) = true from decide_eq_true rfl]
        refine iteT ⟨_, _, rfl, rfl, ?_⟩
        have ec := eb
        have hRc := hRb
        have at1 : atI (rowV c u v (v.length + 1)) ((j : Int) + 1) = some (.int (Dc c u (v.take (j + 1)).reverse)) := atI_nat (j := j + 1) (rowV_get (by omega))
        refine ⟨_, rfl, .inl ⟨rfl, _, SqL.of hRc⟩, _, rfl, _, rfl, _, rfl, _, _, rfl, rfl, a, _, _, _, rfl, rfl, SqL.of (ec _ _ ha), at1, _, rfl, q, Cc, dq, p0, ws, 0, _, rfl, .inr ⟨ec _ _ hs.1, ec _ _ hs.2⟩, PC.sc.sc, t0, w0, _, rfl, PB, _, rfl, .inl ⟨_, .inr (sgS l), .inl (ec _ _ hB), rfl, (vB l hs0).symm⟩, _, _, rfl, rfl, ?_⟩
        refine ⟨_, rfl, _, rfl, R, _, _, _, rfl, rfl, SqL.of hRc, atI_nat (rowV_get (Nat.lt_succ_self _)), _, rfl, q, Cc, dq, p1, ws, 1, _, rfl, .inr ⟨ec _ _ hs.1, ec _ _ hs.2⟩, PC.sc.sc, t1, w1, _, rfl, PA, _, rfl, .inl ⟨_, .inr (sgS l), .inl (ec _ _ hA), rfl, (vA l ml).symm⟩, _, _, rfl, rfl, ?_⟩
        refine ⟨_, _, _, rfl, R, _, _, rfl, rfl, hRc, by rw [rowV_len]; omega, ⟨_, _, _, rfl⟩, fun b o z => ?_, ?_⟩
        · rw [upd_ne (apart b o z)]; exact ec _ _ z
        · rw [upd_same, rowV_succ (n := j + 1), take_rev hl']
          simp only [Dc]
          rw [cz]
      · rw [show decide (V.str (⟨#[l]⟩ : Str) = V.str (sgS s0)) = false by
          have : (⟨#[l]⟩ : Str) ≠ sgS s0 := fun e => n (Option.some.inj (nS_inj (x := some l) (y := some s0) e))
          simp [this]]
        refine iteF ⟨_, rfl, q, Cc, dq, p2, ws, 2, _, rfl, .inr ⟨eb _ _ hs.1, eb _ _ hs.2⟩, PC.sc.sc, t2, w2, _, rfl, _, rfl, two, fun t ht => ?_⟩
        have f2 := same_new (o := .tup [.str (sgS s0), .str (sgS l)]) ht
        have ec := eb.trans f2
        refine ⟨PS, .int (c (some s0) (some l)), rfl, .inr ⟨_, [.inr (sgS s0), .inr (sgS l)], t, .inl (ec _ _ hS), rfl, upd_same, (dtF_val AP.nd ((AP.iff _).mpr ⟨hs0, ml, fun e => n (Option.some.inj (nS_inj (x := some s0) (y := some l) e)).symm, rfl⟩)).symm⟩, _, _, rfl, rfl, ?_⟩
        have hRc := f2 _ _ hRb
        have at1 : atI (rowV c u v (v.length + 1)) ((j : Int) + 1) = some (.int (Dc c u (v.take (j + 1)).reverse)) := atI_nat (j := j + 1) (rowV_get (by omega))
        refine ⟨_, rfl, .inl ⟨rfl, _, SqL.of hRc⟩, _, rfl, _, rfl, _, rfl, _, _, rfl, rfl, a, _, _, _, rfl, rfl, SqL.of (ec _ _ ha), at1, _, rfl, q, Cc, dq, p0, ws, 0, _, rfl, .inr ⟨ec _ _ hs.1, ec _ _ hs.2⟩, PC.sc.sc, t0, w0, _, rfl, PB, _, rfl, .inl ⟨_, .inr (sgS s0), .inl (ec _ _ hB), rfl, (vB s0 hs0).symm⟩, _, _, rfl, rfl, ?_⟩
        refine ⟨_, rfl, _, rfl, R, _, _, _, rfl, rfl, SqL.of hRc, atI_nat (rowV_get (Nat.lt_succ_self _)), _, rfl, q, Cc, dq, p1, ws, 1, _, rfl, .inr ⟨ec _ _ hs.1, ec _ _ hs.2⟩, PC.sc.sc, t1, w1, _, rfl, PA, _, rfl, .inl ⟨_, .inr (sgS l), .inl (ec _ _ hA), rfl, (vA l ml).symm⟩, _, _, rfl, rfl, ?_⟩
        refine ⟨_, _, _, rfl, R, _, _, rfl, rfl, hRc, by rw [rowV_len]; omega, ⟨_, _, _, rfl⟩, fun b o z => ?_, ?_⟩
        · rw [upd_ne (apart b o z)]; exact ec _ _ z
        · rw [upd_same, rowV_succ (n := j + 1), take_rev hl']
          simp only [Dc]
    · obtain ⟨⟨o5, o6, o7, rfl⟩, e2, hR2⟩ := e
      have : (wS v).cps.size = v.length := by simp [wS]
      rw [this] at hR2
      exact ⟨_, rfl, hQ R H2 hR e2 hR2⟩
/-! ### cost_table -/
def spCostTable (Cc : Addr) : Sp := fun vs H Q _ => ∃ q dq u v ys c, vs = [.ref q, .str (wS u), .str (wS v)] ∧ ClAt Cc H q dq ys c ∧ ys.Nodup ∧ (∀ x, c x x = 0) ∧ (∀ l ∈ u, sgS l ∈ ys) ∧ (∀ l ∈ v, sgS l ∈ ys) ∧ u.length ≤ 200 ∧ v.length ≤ 200 ∧
  ∀ t rs r H', Same H H' → H' t = some (.lst (rs ++ [.ref r])) → H' r = some (.lst (rowV c u.reverse v (v.length + 1))) → Q (.ref t) H'
abbrev N_cost_table : List Str := ["closed", "one", "other", "first", "letter", "table", "sign"]
theorem sc_cost_table : FnScope N_cost_table ["closed", "one", "other"] (defScope (top 79)) := ⟨rfl, rfl, rfl, by decide +kernel, rfl, by decide +kernel, by decide +kernel⟩
theorem c_cost_table (A : At K mg "cost_table" (top 79)) (B : Blt mg) (PC : PrC K mg Cp Cc) (c_costs_with : Cal P w K mg base 1 "costs_with" (spCostsWith Cc)) : Cal P w K mg base 2 "cost_table" (spCostTable Cc) := by
  refine cal_of A sc_cost_table (fun _ _ _ _ _ _ us hl => match us, hl with | [_, _, _], _ => rfl) (fun vs H Q E h => ?_) (fun _ cdv A outer s H vs Q E hr h => ?_)
  · obtain ⟨_, _, _, _, _, _, rfl, _⟩ := h; rfl
  · obtain ⟨q, dq, u, v, ys, c, rfl, hC, nd, cz, hu, hv, lu, lv, hQ⟩ := h
    obtain ⟨p1, t1⟩ := PC.sc.s1
    refine ⟨_, (pss_cons (ps_set (i := 3) sc_cost_table.nd rfl (Or.inl rfl) (pe_lst (pa_cons pe_int pa_nil)))
      (pss_cons (ps_for PassesOwn.never rfl (pi_str (pv 2)) (pg_name (i := 4) sc_cost_table.nd rfl (Or.inl rfl))
        (pss_one (ps_expr (pe_append K rfl (pv 3) (pe_op op_add (pe_ix ix_list (pv 3) (pe_un un_neg pe_int) (fun _ _ => rfl)) (pe_dget (hu_of hr) (SlX.pe_sl (pv 0)) (pv 4) (fun _ _ => rfl)))))))
      (pss_cons (ps_set (i := 5) sc_cost_table.nd rfl (Or.inl rfl) (pe_lst (pa_cons (pv 3) pa_nil)))
      (pss_cons (ps_for PassesOwn.never rfl (pi_str (pv 1)) (pg_name (i := 6) sc_cost_table.nd rfl (Or.inl rfl))
        (pss_one (ps_expr (pe_append K rfl (pv 5) (pe_c c_costs_with hr (by decide) (by rfl) (pa_cons (pv 0) (pa_cons (pe_ix ix_list (pv 5) (pe_un un_neg pe_int) (fun _ _ => rfl)) (pa_cons (pv 6) (pa_cons (pv 2) pa_nil)))))))))
      (pss_one (ps_ret (pv 5))))))), ?_⟩
    have hC0 := hC
    obtain ⟨qs, AP, PA, PB, PS, ws, hs, w1, w0, w2, nAB, hA, hB, hS⟩ := hC
    have one : 1 ≤ sizeLine := by decide
    have big : 100000 < sizeLine := by decide
    have vA : ∀ l, sgS l ∈ ys → valV (dkF ys fun z => c none (some (codeOf z))) (.inr (sgS l)) = some (.int (c none (some l))) := fun l hl => dkF_val nd _ hl
    have sz : ∀ z : List Nat, (wS z).cps.size = z.length := fun z => by simp [wS]
    refine ⟨one, fun R hR => ?_⟩
    have e1 := same_new (o := .lst [.int 0]) hR
    have hR1 : upd H R (.lst [.int 0]) R = some (.lst (rowV c [] v 1)) := by
      rw [upd_same]
      show _ = some (HO.lst [.int (Dc c [] (v.take 0).reverse)])
      rw [List.take_zero, List.reverse_nil]
      simp only [Dc]
    have apart : ∀ b o, H b = some o → b ≠ R := fun b o h => ne_of_none h hR
    refine ⟨_, rfl, wS v, rfl, for_it walk_str (fun j σ H' => (∃ o4, σ = [some (.ref q), some (.str (wS u)), some (.str (wS v)), some (.ref R), o4, none, none]) ∧ Same H H' ∧ H' R = some (.lst (rowV c [] v (j + 1)))) ⟨⟨_, rfl⟩, e1, hR1⟩ (fun _ _ _ _ _ => trivial) (fun j y σ Ha Hb hj e hy => ?_) (fun σ H2 e => ?_)⟩
    · obtain ⟨rfl, l, hl, rfl⟩ := hy
      obtain ⟨⟨o4, rfl⟩, ea, hRa⟩ := e
      have hl' : v[j]? = some l := by simpa [wS] using hl
      have lj : j < v.length := (List.getElem?_eq_some_iff.mp hl').1
      have ml : sgS l ∈ ys := hv l (List.mem_of_getElem? hl')
      refine ⟨_, rfl, .inl ⟨rfl, _, SqL.of hRa⟩, _, rfl, _, rfl, R, _, _, _, rfl, rfl, SqL.of hRa, by rw [rowV_succ]; exact atI_last _ _, _, rfl, q, Cc, dq, p1, ws, 1, _, rfl, .inr ⟨ea _ _ hs.1, ea _ _ hs.2⟩, PC.sc.sc, t1, w1, _, rfl, PA, _, rfl, .inl ⟨_, .inr (sgS l), .inl (ea _ _ hA), rfl, (vA l ml).symm⟩, _, _, rfl, rfl, R, _, _, rfl, rfl, hRa, by rw [rowV_len]; omega, ⟨_, rfl⟩, fun b o z => ?_, ?_⟩
      · rw [upd_ne (apart b o z)]; exact ea _ _ z
      · rw [upd_same, rowV_succ (n := j + 1), take_rev hl']
        simp only [Dc]
    obtain ⟨⟨o4, rfl⟩, e2, hR2⟩ := e
    rw [sz] at hR2
    refine ⟨_, rfl, one, fun T hT => ?_⟩
    have f3 := same_new (o := .lst [.ref R]) hT
    have apT : ∀ b o, H2 b = some o → b ≠ T := fun b o h => ne_of_none h hT
    refine ⟨_, rfl, wS u, rfl, for_it walk_str (fun i σ H' => (∃ o6, σ = [some (.ref q), some (.str (wS u)), some (.str (wS v)), some (.ref R), o4, some (.ref T), o6]) ∧ But T H2 H' ∧ ∃ rs r, rs.length = i ∧ r ≠ T ∧ H' T = some (.lst (rs ++ [.ref r])) ∧ H' r = some (.lst (rowV c (u.take i).reverse v (v.length + 1)))) ⟨⟨_, rfl⟩, But.refl.same f3, [], R, rfl, apT _ _ hR2, upd_same, by rw [List.take_zero]; exact f3 _ _ hR2⟩ (fun _ _ _ _ _ => trivial) (fun i y σ Ha Hb hi e hy => ?_) (fun σ H4 e => ?_)⟩
    · obtain ⟨rfl, l, hl, rfl⟩ := hy
      obtain ⟨⟨o6, rfl⟩, eb, rs, r, lr, nr, hTa, hra⟩ := e
      have hl' : u[i]? = some l := by simpa [wS] using hl
      have li : i < u.length := (List.getElem?_eq_some_iff.mp hl').1
      have ml : sgS l ∈ ys := hu l (List.mem_of_getElem? hl')
      have up : Same H Hb := fun b o z => eb b o (apT _ _ (e2 _ _ z)) (e2 _ _ z)
      refine ⟨_, rfl, .inl ⟨rfl, _, SqL.of hTa⟩, _, rfl, _, rfl, _, rfl, T, _, _, _, rfl, rfl, SqL.of hTa, atI_last _ _, _, rfl, _, rfl, q, dq, r, l, _, v, ys, c, rfl, hC0.same up, nd, cz, hra, ml, hv, lv, fun r2 Hc hr2 ec hr2c => ?_⟩
      have nT : r2 ≠ T := (ne_of_none hTa hr2).symm
      refine ⟨T, _, _, rfl, rfl, ec _ _ hTa, by rw [List.length_append, lr]; simp; omega, ⟨_, rfl⟩, (eb.same ec).put, rs ++ [.ref r], r2, by rw [List.length_append, lr]; rfl, nT, upd_same, ?_⟩
      rw [upd_ne nT, hr2c, take_rev hl']
    · obtain ⟨⟨o6, rfl⟩, eb, rs, r, lr, nr, hTa, hra⟩ := e
      rw [sz, List.take_length] at hra
      exact ⟨_, rfl, hQ T rs r H4 (fun b o z => eb b o (apT _ _ (e2 _ _ z)) (e2 _ _ z)) hTa hra⟩
/-! ### distance -/
def spDistance (Cp : Addr) : Sp := fun vs H Q _ => ∃ u v x dx ys ys2 g o qs, vs = [.str (wS u), .str (wS v), .ref x] ∧ PrAt Cp H x dx ys ys2 g o qs ∧ PrN ys ys2 g o qs ∧ (∀ c ∈ u, c ∈ codesOf ys) ∧ (∀ c ∈ v, c ∈ codesOf ys) ∧ u.length ≤ 200 ∧ v.length ≤ 200 ∧
  ∀ c H', Clo (codesOf ys) (rOf (codesOf ys) g o qs) c → Same H H' → Q (.int (Dc c u.reverse v.reverse)) H'
theorem sc_distance : FnScope ["one", "other", "prices"] ["one", "other", "prices"] (defScope (top 80)) := ⟨rfl, rfl, rfl, by decide +kernel, rfl, by decide +kernel, by decide +kernel⟩
theorem c_distance (A : At K mg "distance" (top 80)) (B : Blt mg) (PC : PrC K mg Cp Cc) (c_require_two : Cal P w K mg base 3 "require_two" (spReqTwo Cp)) (c_closed_of : Cal P w K mg base 3 "closed_of" (spClosedOf Cp Cc)) (c_cost_table : Cal P w K mg base 2 "cost_table" (spCostTable Cc)) : Cal P w K mg base 4 "distance" (spDistance Cp) := by
  refine cal_of A sc_distance (fun _ _ _ _ _ _ us hl => match us, hl with | [_, _, _], _ => rfl) (fun vs H Q E h => ?_) (fun _ cdv A outer s H vs Q E hr h => ?_)
  · obtain ⟨_, _, _, _, _, _, _, _, _, rfl, _⟩ := h; rfl
  · obtain ⟨u, v, x, dx, ys, ys2, g, o, qs, rfl, hP, N, hu, hv, lu, lv, hQ⟩ := h
    refine ⟨_, (pss_cons (ps_expr (pe_c c_require_two hr (by decide) (by rfl) (pa_cons (pv 0) (pa_cons (pv 1) (pa_cons (pv 2) pa_nil)))))
      (pss_one (ps_ret (pe_ix ix_list (pe_ix ix_list (pe_c c_cost_table hr (by decide) (by rfl) (pa_cons (pe_c c_closed_of hr (by decide) (by rfl) (pa_cons (pv 2) pa_nil)) (pa_cons (pv 0) (pa_cons (pv 1) pa_nil)))) (pe_un un_neg pe_int) (fun _ _ => rfl)) (pe_un un_neg pe_int) (fun _ _ => rfl))))), ?_⟩
    refine ⟨_, rfl, _, rfl, _, rfl, u, v, x, dx, ys, ys2, g, o, qs, rfl, hP, N, hu, hv, lu, lv, fun H1 e1 => ?_⟩
    refine ⟨_, rfl, x, dx, ys, ys2, g, o, qs, rfl, hP.same e1, N, fun q dq c H2 e2 _ _ CL hC => ?_⟩
    refine ⟨_, rfl, _, rfl, q, dq, u, v, ys, c, rfl, hC, N.nd, CL.z, fun l hl => (mem_codes N.sg).mp (hu l hl), fun l hl => (mem_codes N.sg).mp (hv l hl), lu, lv, fun t rs r H3 e3 ht hr3 => ?_⟩
    refine ⟨_, rfl, t, _, _, _, rfl, rfl, SqL.of ht, atI_last _ _, _, rfl, r, _, _, _, rfl, rfl, SqL.of hr3, by rw [rowV_succ]; exact atI_last _ _, ?_⟩
    rw [List.take_length]
    exact hQ c H3 CL ((e1.trans e2).trans e3)
end
end MN
/-! Prices called by keywords; closed, put, out, swap of prices -/
namespace MN
open PySem PySem.Spec PyProof.Rows L2
section
variable {X : Cx} {CX : CXT} {k : Nat} {f C : Addr} {fd : FuncData} {ps ks : List Str} {sp : Sp} {E : XK} {x : Str} {p pos : Pos} {kws : List Keyword} {tk : TA} {g : List Value → List Value → List Value} {gV : List V → List V → List V}
/-- a class of the module, called by keywords alone -/
theorem pe_makeKG (M : Mk X.K C f) (F : FnOk X.prog X.w X.K X.mg X.base CX k f fd ps sp) (hr : Room (k + 1) X.A) (hg : Gl X x) (hm : X.mg x = some (.ref C)) (hb : KBn X.K fd ps 1 ks g gV) (hx : Passes CX X E) (hkw : PK X kws tk)
    (hall : (backToKw pos (keywordEach kws X.env)).all (·.1.isSome) = true := by rfl) (hks : (backToKw pos (keywordEach kws X.env)).filterMap (·.1) = ks := by rfl) (hdb : (x == ("__debug__" : Str)) = false := by decide)
    (hpl : ((backTo pos (starEach [] X.env)).any (·.1) || (backToKw pos (keywordEach kws X.env)).any (·.1.isNone)) = false := by rfl) :
    PE X (.Call (.Name x p) [] kws pos) (tMakeK C 0 ks.length sp gV E tNil tk) := by
  refine ⟨fun pins s σ H Q I h => ?_⟩
  refine wpAny_Call_Name_kw (ld_glob I hg hm ?_ hdb)
  refine PySem.W.callWith_KW0 (h₀ := X.base) I.ok.mod.kin M.kp hall ?_ hpl
  refine thn (hkw.run pos pins s σ _ _ I h) fun ws s2 ⟨zs, H2, I2, rz, l1, l2, q2⟩ => ⟨I2.kIn, ?_⟩
  rw [hks]
  exact run_makeK (us := []) (vs := []) M F hr hb hx I2 .nil rz rfl l2 q2
end
section
variable {P : Program} {w : World} {K : PySem.W.Frag} {mg : Str → Option Value} {base : Heap} {Cp Cc : Addr}
theorem kb_pinit {f : Addr} {fd : FuncData} (F : FunAt K "__init__" "Prices.__init__" (inClass (top 27) 1) [] f fd) : KBn K fd ["self", "put", "out", "swap"] 1 ["put", "out", "swap"] (fun us ws => us ++ ws) (fun us ws => us ++ ws) := by
  obtain ⟨oc, od, dV, kV, doc, pm, an, cdv, ct, osl, rfl, lk, hcd, hD, hK⟩ := F.ex
  rcases hD with ⟨_, rfl⟩ | ⟨e, _⟩
  · refine ⟨fun s us ws X l1 l2 => ?_, fun r1 r2 => r1.append r2⟩
    match us, ws, l1, l2 with
    | [_], [_, _, _], _, _ => exact .of_eq rfl
  · exact absurd rfl e
abbrev gC (c : Nd → Nd → Int) : Str → Int := fun z => c none (some (codeOf z))
abbrev oC (c : Nd → Nd → Int) : Str → Int := fun z => c (some (codeOf z)) none
abbrev sC (c : Nd → Nd → Int) : Str → Str → Int := fun a b => c (some (codeOf a)) (some (codeOf b))
theorem AllP.perm {ys : List Str} {h : Str → Str → Int} {qs qs' : List ((Str × Str) × Int)} (A : AllP ys h qs) (p : qs'.Perm qs) : AllP ys h qs' := ⟨(p.map _).nodup_iff.mpr A.nd, fun e => by rw [p.mem_iff]; exact A.iff e⟩
theorem AllP.permY {ys ys' : List Str} {h : Str → Str → Int} {qs : List ((Str × Str) × Int)} (A : AllP ys h qs) (p : ys'.Perm ys) : AllP ys' h qs := ⟨A.nd, fun e => by rw [p.mem_iff, p.mem_iff]; exact A.iff e⟩
/-- closed prices are good prices -/
theorem clo_good {ys ys2 : List Str} {g o : Str → Int} {qs qs' : List ((Str × Str) × Int)} {c : Nd → Nd → Int} (N : PrN ys ys2 g o qs) (C : Clo (codesOf ys) (rOf (codesOf ys) g o qs) c) (A : AllP ys (sC c) qs') : PrN ys ys (gC c) (oC c) qs' := by
  have inl : ∀ {z : Str}, z ∈ ys → InL (codesOf ys) (some (codeOf z)) := fun hz => InL.of (code_mem N.sg hz)
  have sgc : ∀ {z : Str}, z ∈ ys → sgS (codeOf z) = z := fun {z} hz => nS_code (N.sg z hz)
  have pg : ∀ z ∈ ys, 1 ≤ gC c z ∧ gC c z ≤ 9 := fun z hz => by
    refine ⟨C.pos _ _ InL.no (inl hz) (fun e => nomatch e), ?_⟩
    have h1 := C.le none (some (codeOf z)) (g z) InL.no (inl hz) (by show (if _ then _ else _) = _; rw [if_pos (code_mem N.sg hz), sgc hz])
    have h2 := (N.pg z hz).2
    show c none (some (codeOf z)) ≤ 9
    omega
  have po : ∀ z ∈ ys, 1 ≤ oC c z ∧ oC c z ≤ 9 := fun z hz => by
    refine ⟨C.pos _ _ (inl hz) InL.no (fun e => nomatch e), ?_⟩
    have h1 := C.le (some (codeOf z)) none (o z) (inl hz) InL.no (by show (if _ then _ else _) = _; rw [if_pos (code_mem N.sg hz), sgc hz])
    have h2 := (N.po z hz).2
    show c (some (codeOf z)) none ≤ 9
    omega
  refine ⟨N.sg, N.nd, N.pos, N.le, List.Perm.refl _, pg, po, A.nd, fun e he => ?_, ?_⟩
  · obtain ⟨h1, h2, h3, h4⟩ := (A.iff e).mp he
    refine ⟨h1, h2, h3, ?_, ?_⟩
    · rw [h4]
      exact C.pos _ _ (inl h1) (inl h2) fun q => h3 (by rw [← sgc h1, ← sgc h2, Option.some.inj q])
    · rw [h4]
      have := C.tri (some (codeOf e.1.1)) none (some (codeOf e.1.2)) (inl h1) InL.no (inl h2)
      have a1 := (po _ h1).2
      have a2 := (pg _ h2).2
      show c (some (codeOf e.1.1)) (some (codeOf e.1.2)) ≤ 18
      have a1' : c (some (codeOf e.1.1)) none ≤ 9 := a1
      have a2' : c none (some (codeOf e.1.2)) ≤ 9 := a2
      omega
  · have h1 := A.len
    have h2 : ys.length * ys.length ≤ 5 * 5 := Nat.mul_le_mul N.le N.le
    omega
/-- the prices of closed prices, by nodes -/
theorem rOf_clo {ys ys' : List Str} {qs' : List ((Str × Str) × Int)} {c : Nd → Nd → Int} (sg : ∀ z ∈ ys, ∃ c ∈ ("abcde" : Str).cps.toList, z = ⟨#[c]⟩) (pm : ys'.Perm ys) (A : AllP ys (sC c) qs') : ∀ x y, InL (codesOf ys) x → InL (codesOf ys) y → rOf (codesOf ys') (gC c) (oC c) qs' x y = if x = y then none else some (c x y) := by
  have mem : ∀ {a}, a ∈ codesOf ys → a ∈ codesOf ys' := fun h => (pm.map _).mem_iff.mpr h
  intro x y hx hy
  cases x with
  | none =>
    cases y with
    | none => simp [rOf]
    | some b =>
      show (if b ∈ codesOf ys' then some (c none (some (codeOf (sgS b)))) else none) = _
      rw [if_pos (mem (hy b rfl)), if_neg (fun e => nomatch e), codeOf_sg]
  | some a =>
    cases y with
    | none =>
      show (if a ∈ codesOf ys' then some (c (some (codeOf (sgS a))) none) else none) = _
      rw [if_pos (mem (hx a rfl)), if_neg (fun e => nomatch e), codeOf_sg]
    | some b =>
      show findP qs' (sgS a) (sgS b) = _
      by_cases e : a = b
      · subst e
        rw [if_pos rfl]
        cases q : findP qs' (sgS a) (sgS a) with
        | none => rfl
        | some p => exact absurd rfl ((A.iff _).mp ((findP_some A.nd).mp q)).2.2.1
      · rw [if_neg fun q => e (Option.some.inj q), A.find ((mem_codes sg).mp (hx a rfl)) ((mem_codes sg).mp (hy b rfl)) fun q => e (Option.some.inj (nS_inj (x := some a) (y := some b) q))]
        rfl
/-- closed prices, closed again -/
theorem clo_again {ys ys2 ys' : List Str} {g o : Str → Int} {qs qs' : List ((Str × Str) × Int)} {c c' : Nd → Nd → Int} (N : PrN ys ys2 g o qs) (C : Clo (codesOf ys) (rOf (codesOf ys) g o qs) c) (pm : ys'.Perm ys) (A : AllP ys (sC c) qs') (C' : Clo (codesOf ys') (rOf (codesOf ys') (gC c) (oC c) qs') c') : ∀ x y, InL (codesOf ys) x → InL (codesOf ys) y → c' x y = c x y :=
  C.same ((C'.perm fun a => ((pm.map _).mem_iff).symm).congr fun x y hx hy => (rOf_clo N.sg pm A x y hx hy).symm)
def spPClosed (Cp : Addr) : Sp := fun vs H Q _ => ∃ x dx ys ys2 g o qs, vs = [.ref x] ∧ PrAt Cp H x dx ys ys2 g o qs ∧ PrN ys ys2 g o qs ∧
  ∀ y dy ys' ys2' qs' c H', Same H H' → Clo (codesOf ys) (rOf (codesOf ys) g o qs) c → PrAt Cp H' y dy ys' ys2' (gC c) (oC c) qs' → PrN ys' ys2' (gC c) (oC c) qs' → ys'.Perm ys → AllP ys (sC c) qs' → Q (.ref y) H'
abbrev N_pclosed : List Str := ["self", "found"]
theorem sc_pclosed : FnScope N_pclosed ["self"] (defScope (inClass (top 27) 8)) := ⟨rfl, rfl, rfl, by decide +kernel, rfl, by decide +kernel, by decide +kernel⟩
theorem f_pclosed {f : Addr} {fd : FuncData} (PC : PrC K mg Cp Cc) (F : FunAt K "closed" "Prices.closed" (inClass (top 27) 8) [] f fd) (B : Blt mg) (c_are_prices : Cal P w K mg base 3 "are_prices" spAreP) (c_closed_of : Cal P w K mg base 3 "closed_of" (spClosedOf Cp Cc)) : FnOk P w K mg base CX0 6 f fd ["self"] (spPClosed Cp) := by
  obtain ⟨fi, fdi, M, Fi⟩ := PC.ip
  refine fnok_of F sc_pclosed (fun vs H Q E h => ?_) (fun cdv A outer s H vs Q E hr h => ?_)
  · obtain ⟨_, _, _, _, _, _, _, rfl, _⟩ := h; rfl
  · obtain ⟨x, dx, ys, ys2, g, o, qs, rfl, hP, N, hQ⟩ := h
    obtain ⟨p0, s0⟩ := PC.sc.s0
    obtain ⟨p1, s1⟩ := PC.sc.s1
    obtain ⟨p2, s2⟩ := PC.sc.s2
    refine ⟨_, pss_cons (ps_set (i := 1) sc_pclosed.nd rfl (Or.inl rfl) (pe_c c_closed_of hr (by decide) (by rfl) (pa_cons (pv 0) pa_nil)))
      (pss_one (ps_ret (pe_makeKG M (f_pinit (P := P) (w := w) (mg := mg) (base := base) PC.sp Fi B c_are_prices) (hr.mono (by decide)) (by rfl) PC.gp (kb_pinit Fi) pass0 (pk_cons (SlX.pe_sl (pv 1)) (pk_cons (SlX.pe_sl (pv 1)) (pk_cons (SlX.pe_sl (pv 1)) pk_nil)))))), ?_⟩
    refine ⟨_, rfl, x, dx, ys, ys2, g, o, qs, rfl, hP, N, fun q dq c H1 e1 _ _ CL hC => ?_⟩
    obtain ⟨qs1, AP, PA, PB, PS, ws, hs, w1, w0, w2, nAB, hA, hB, hS⟩ := hC
    refine ⟨_, rfl, q, Cc, dq, p1, ws, 1, _, rfl, .inr hs, PC.sc.sc, s1, w1, _, rfl, q, Cc, dq, p0, ws, 0, _, rfl, .inr hs, PC.sc.sc, s0, w0, _, rfl, q, Cc, dq, p2, ws, 2, _, rfl, .inr hs, PC.sc.sc, s2, w2, rfl, rfl, fun y dy hy hdy n => ?_⟩
    have nx : ∀ b u, H1 b = some u → b ≠ y ∧ b ≠ dy := fun b u e => ⟨ne_of_none e hy, ne_of_none e hdy⟩
    have up : ∀ b u, H1 b = some u → upd (upd H1 dy (.own y)) y (.ins Cp dy []) b = some u := fun b u e => by
      rw [upd_ne (nx b u e).1, upd_ne (nx b u e).2]; exact e
    refine ⟨y, dy, PA, PB, PS, ys, ys, gC c, oC c, qs1, rfl, upd_same, by rw [upd_ne n, upd_same], n, up _ _ hA, up _ _ hB, up _ _ hS, nAB, clo_good N CL AP, fun H2 ys' ys2' qs' k2 hP2 N2 pm _ pq => ⟨rfl, hQ y dy ys' ys2' qs' c H2 (fun b u z => ?_) CL hP2 N2 pm (AP.perm pq)⟩⟩
    have z1 := e1 _ _ z
    exact k2 b u (nx _ _ z1).1 (nx _ _ z1).2 (up _ _ z1)
theorem r_pclosed (PC : PrC K mg Cp Cc) (B : Blt mg) (c_are_prices : Cal P w K mg base 3 "are_prices" spAreP) (c_closed_of : Cal P w K mg base 3 "closed_of" (spClosedOf Cp Cc)) : ∃ g, Meth K Cp "closed" g ∧ FnR P w K mg base CX0 6 g (fun vs H Q E => spPClosed Cp (vs ++ []) H Q E) := by
  obtain ⟨g, fd, h1, F⟩ := PC.clo
  have b := FunD.bindsN (ps := ["self"]) F fun _ _ _ _ _ _ us hl => match us, hl with | [_], _ => rfl
  exact ⟨g, h1, (f_pclosed PC F B c_are_prices c_closed_of).raw b .nil⟩
end
end MN
/-! the classes Prices and Closed in the head's run -/
namespace MN
open PySem PySem.Spec PyProof.Rows L2
theorem slB_at {K : PySem.W.Frag} {C : Addr} {f : Str} {i : Nat} (h : slB K C f = true) (hi : PySem.W.slotIn K (He.ma K C f) C = some i) : ∃ p, SlX.Slot1 K C f p i := by
  obtain ⟨h1, h⟩ := He.ba h
  obtain ⟨h2, h⟩ := He.ba h
  obtain ⟨h3, h⟩ := He.ba h
  obtain ⟨h4, h5⟩ := He.ba h
  rw [hi] at h5
  exact ⟨_, He.eqO_ok h1, He.eqO_ok h2, of_decide_eq_true h3, of_decide_eq_true h4, hi, of_decide_eq_true h5⟩
def slotCB (K : PySem.W.Frag) (C : Addr) : Bool := scB K C && ((slB K C "own_out" && decide (PySem.W.slotIn K (He.ma K C "own_out") C = some 0)) && ((slB K C "own_put" && decide (PySem.W.slotIn K (He.ma K C "own_put") C = some 1)) && (slB K C "own_swap" && decide (PySem.W.slotIn K (He.ma K C "own_swap") C = some 2))))
theorem slotCB_ok {K : PySem.W.Frag} {C : Addr} (h : slotCB K C = true) : SlotC K C := by
  obtain ⟨h0, h⟩ := He.ba h
  obtain ⟨h1, h⟩ := He.ba h
  obtain ⟨h2, h3⟩ := He.ba h
  obtain ⟨a1, b1⟩ := He.ba h1
  obtain ⟨a2, b2⟩ := He.ba h2
  obtain ⟨a3, b3⟩ := He.ba h3
  exact ⟨scB_ok h0, slB_at a1 (of_decide_eq_true b1), slB_at a2 (of_decide_eq_true b2), slB_at a3 (of_decide_eq_true b3)⟩
def propB (K : PySem.W.Frag) (C : Addr) (f : Str) : Bool := He.eqO (PySem.W.findIn K (.ref C) f) (some (some (.ref (He.ma K C f)))) && (He.eqO (PySem.W.specialIn K (.ref (He.ma K C f)) "__get__") (some (some (.builtin "property.__get__"))) && (decide (PySem.W.takesIn K (.ref (He.ma K C f)) = some true) && (match PySem.W.recIn K (He.ma K C f) "property" with
  | some (.ref _ :: _) => true
  | _ => false)))
theorem propB_ok {K : PySem.W.Frag} {C : Addr} {f : Str} (h : propB K C f = true) : PropOf K C f (He.ma K C f) (He5.wf K C "property" f) := by
  obtain ⟨h1, h⟩ := He.ba h
  obtain ⟨h2, h⟩ := He.ba h
  obtain ⟨h3, h4⟩ := He.ba h
  refine ⟨He.eqO_ok h1, He.eqO_ok h2, of_decide_eq_true h3, ?_⟩
  unfold He5.wf
  split at h4
  · rename_i g r e
    exact ⟨r, by rw [e]⟩
  · cases h4
abbrev gP (K : PySem.W.Frag) : Addr := He.ga K "Prices"
def prB (K : PySem.W.Frag) : Bool := slotCB K (gP K) && (slotCB K (He.ga K "Closed") && ((He.Fa.mkr "Prices").ok K && ((He.Fa.mkr "Closed").ok K && (siB K (gP K) && (decide (PySem.W.kitOne K (.ref (gP K)) (.ref (gP K)) = some true) && (He.eqO (PySem.W.findIn K (.ref (gP K)) "__contains__") (some (some (.ref (He.ma K (gP K) "__contains__")))) && (PySem.W.isFn K (.ref (He.ma K (gP K) "__contains__")) && ((He.Fa.meth "Prices" "closed").ok K && (propB K (gP K) "put" && (propB K (gP K) "out" && propB K (gP K) "swap"))))))))))
theorem prB_ok {K : PySem.W.Frag} {mg : Str → Option Value} {f1 f2 f3 f4 f5 f6 f7 : FuncData} (h : prB K = true) (gp : mg "Prices" = some (.ref (He.ga K "Prices"))) (gc : mg "Closed" = some (.ref (He.ga K "Closed")))
    (F1 : FunAt K "__init__" "Prices.__init__" (inClass (top 27) 1) [] (He.ma K (gP K) "__init__") f1) (F2 : FunAt K "__init__" "Closed.__init__" (inClass (top 25) 1) [] (He.ma K (He.ga K "Closed") "__init__") f2) (F3 : FunAt K "__contains__" "Prices.__contains__" (inClass (top 27) 14) [] (He.ma K (gP K) "__contains__") f3)
    (F4 : FunAt K "closed" "Prices.closed" (inClass (top 27) 8) [] (He.ma K (gP K) "closed") f4) (F5 : FunAt K "put" "Prices.put" (inClass (top 27) 4) [] (He5.wf K (gP K) "property" "put") f5) (F6 : FunAt K "out" "Prices.out" (inClass (top 27) 5) [] (He5.wf K (gP K) "property" "out") f6) (F7 : FunAt K "swap" "Prices.swap" (inClass (top 27) 6) [] (He5.wf K (gP K) "property" "swap") f7) :
    PrC K mg (He.ga K "Prices") (He.ga K "Closed") := by
  obtain ⟨e1, h⟩ := He.ba h
  obtain ⟨e2, h⟩ := He.ba h
  obtain ⟨e3, h⟩ := He.ba h
  obtain ⟨e4, h⟩ := He.ba h
  obtain ⟨e5, h⟩ := He.ba h
  obtain ⟨e6, h⟩ := He.ba h
  obtain ⟨e7, h⟩ := He.ba h
  obtain ⟨e8, h⟩ := He.ba h
  obtain ⟨e9, h⟩ := He.ba h
  obtain ⟨e10, h⟩ := He.ba h
  obtain ⟨e11, e12⟩ := He.ba h
  exact ⟨slotCB_ok e1, slotCB_ok e2, gp, gc, ⟨_, f1, He.mkr_ok e3, F1⟩, ⟨_, f2, He.mkr_ok e4, F2⟩, siB_ok e5, of_decide_eq_true e6, ⟨_, f3, He.eqO_ok e7, e8, F3⟩, ⟨_, f4, He.meth_ok e9, F4⟩, ⟨_, _, f5, propB_ok e10, F5⟩, ⟨_, _, f6, propB_ok e11, F6⟩, ⟨_, _, f7, propB_ok e12, F7⟩⟩
end MN
/-! the draws of the laws k05 .. k09: rates, priced -/
namespace MN
open PySem PySem.Spec PyProof.Rows L2
theorem getElem?_mem_take {α : Type} {l : List α} {k i : Nat} {a : α} (h : l[k]? = some a) (hk : k < i) : a ∈ l.take i := by
  refine List.mem_iff_getElem?.mpr ⟨k, ?_⟩
  rw [List.getElem?_take, if_pos hk]; exact h
section
variable {K : PySem.W.Frag} {l p D : Addr} {H1 : Hp} {σ : L2.St} {vs : List Nat} {te : TE} {j : Nat} {Qd : Hp → Prop} {W : Int} {zs : List Str}
/-- [(z, a drawn number) for z in signs] -/
theorem lc_draws (hl : SqL K H1 l (strsV zs)) (nlp : l ≠ p) (nd : zs.Nodup) (l5 : zs.length ≤ 1000) (hp : Pot H1 p) (hD : H1 D = none) (hw : ∀ z ∈ zs, wipe ((wipe σ vs).set j (some (.str z))) vs = wipe σ vs)
    (he : ∀ z ∈ zs, ∀ H2, Ex p H1 H2 → ∀ Q : VK, (∀ n H3 T, 1 ≤ n → n ≤ W → Ex p H2 H3 → H3 T = none → Q (.ref T) (upd H3 T (.tup [.str z, .int n]))) → te ((wipe σ vs).set j (some (.str z))) H2 Q)
    (hd : ∀ H' ts g, Ex p H1 H' → H' D = some (.lst (ts.map V.ref)) → (∀ z ∈ zs, 1 ≤ g z ∧ g z ≤ W) → Paired (fun t (kv : Key × V) => SqT K H' t [kV kv.1, kv.2]) ts (dkF zs g) → Qd H') : LcGoal (Itl K l) (gName j) tYes te vs σ H1 D Qd := by
  have nDp : D ≠ p := by
    obtain ⟨_, _, _, e⟩ := hp
    exact (ne_of_none e hD).symm
  refine lc_it walk_list (fun i H' => Ex p H1 H' ∧ ∃ (ts : List Addr) (g : Str → Int), ts.length = i ∧ H' D = some (.lst (ts.map V.ref)) ∧ (∀ z ∈ zs.take i, 1 ≤ g z ∧ g z ≤ W) ∧ ∀ (k : Nat) (t : Addr), ts[k]? = some t → t ≠ p ∧ t ≠ D ∧ ∃ z, zs[k]? = some z ∧ H' t = some (.tup [.str z, .int (g z)])) ⟨(Ex.refl hp).new hD, [], fun _ => 1, rfl, upd_same, by simp, by simp⟩ (fun i H' _ e => e.1.seqL hl nlp) (fun i x Ha Hb hi e y => ?_) (fun H' e => ?_)
  · obtain ⟨rfl, hx⟩ := y
    obtain ⟨ex, ts, g, lt, hDa, gb, at_⟩ := e
    have hx' : (zs.map V.str)[i]? = some x := hx
    rw [List.getElem?_map] at hx'
    obtain ⟨z, hz, rfl⟩ := Option.map_eq_some_iff.mp hx'
    have mz := List.mem_of_getElem? hz
    have nz := take_nodup nd hz
    refine ⟨hw z mz, yes_q (iteT (he z mz _ ex _ fun n H3 T n1 n2 ex3 hT => ⟨ts.map V.ref, ?_, ?_, ?_, ts ++ [T], fun y => if y = z then n else g y, ?_, ?_, fun y hy => ?_, fun k t ht => ?_⟩))⟩
    · have := ex3.keep _ _ nDp hDa
      rw [upd_ne (ne_of_none this hT)]; exact this
    · have : 100000 < sizeLine := by decide
      have : i < (strsV zs).length := hi
      simp [strsV] at this
      rw [List.length_map]
      omega
    · exact ((ex.trans ex3).new hT).put hD nDp
    · rw [List.length_append, lt]; rfl
    · rw [upd_same, List.map_append]; rfl
    · show 1 ≤ (if y = z then n else g y) ∧ (if y = z then n else g y) ≤ W
      rw [List.take_add_one, hz] at hy
      by_cases e : y = z
      · rw [if_pos e]; exact ⟨n1, n2⟩
      · rw [if_neg e]
        refine gb y ?_
        simpa [e] using hy
    · have hDc := ex3.keep _ _ nDp hDa
      by_cases hk : k < ts.length
      · rw [List.getElem?_append_left hk] at ht
        obtain ⟨a1, a2, y, hy, hty⟩ := at_ k t ht
        have q3 := ex3.keep _ _ a1 hty
        refine ⟨a1, a2, y, hy, ?_⟩
        rw [upd_ne a2, upd_ne (ne_of_none q3 hT), q3]
        show _ = some (HO.tup [V.str y, V.int (if y = z then n else g y)])
        rw [if_neg]
        intro e
        exact nz (by rw [← e]; exact getElem?_mem_take hy (by omega))
      · have hk2 : k = ts.length := by
          have := (List.getElem?_eq_some_iff.mp ht).1
          rw [List.length_append, List.length_singleton] at this
          omega
        subst hk2
        rw [List.getElem?_append_right (Nat.le_refl _), Nat.sub_self] at ht
        cases (show some T = some t from ht)
        obtain ⟨_, _, _, e3⟩ := ex3.pot
        refine ⟨(ne_of_none e3 hT).symm, (ne_of_none hDc hT).symm, z, by rw [lt]; exact hz, ?_⟩
        rw [upd_ne (ne_of_none hDc hT).symm, upd_same]
        show _ = some (HO.tup [V.str z, V.int (if z = z then n else g z)])
        rw [if_pos rfl]
  · obtain ⟨ex, ts, g, lt, hDa, gb, at_⟩ := e
    have lz : (strsV zs).length = zs.length := by simp [strsV]
    rw [lz] at lt gb
    rw [List.take_length] at gb
    refine hd H' ts g ex hDa gb (paired_of (by simp [dkF, lt]) fun k t kv ht hkv => ?_)
    obtain ⟨_, _, z, hz, htz⟩ := at_ k t ht
    unfold dkF at hkv
    rw [List.getElem?_map, hz] at hkv
    cases hkv
    exact .inl (.inl htz)
end
/-- swap prices drawn so far -/
structure SubP (zs : List Str) (i j : Nat) (ps : List ((Str × Str) × Int)) : Prop where
  nd : (ps.map Prod.fst).Nodup
  ks : ∀ e ∈ ps, (e.1.1 ∈ zs.take i ∨ (zs[i]? = some e.1.1 ∧ e.1.2 ∈ zs.take j)) ∧ e.1.1 ∈ zs ∧ e.1.2 ∈ zs ∧ e.1.1 ≠ e.1.2 ∧ 1 ≤ e.2 ∧ e.2 ≤ 18
theorem SubP.next {zs : List Str} {i j : Nat} {ps : List ((Str × Str) × Int)} (S : SubP zs i j ps) : SubP zs i (j + 1) ps :=
  ⟨S.nd, fun e he => ⟨(S.ks e he).1.imp id fun q => ⟨q.1, by rw [List.take_add_one]; exact List.mem_append_left _ q.2⟩, (S.ks e he).2⟩⟩
theorem SubP.row {zs : List Str} {i j : Nat} {ps : List ((Str × Str) × Int)} (S : SubP zs i j ps) : SubP zs (i + 1) 0 ps :=
  ⟨S.nd, fun e he => ⟨.inl (by
    rw [List.take_add_one]
    rcases (S.ks e he).1 with q | q
    · exact List.mem_append_left _ q
    · rw [q.1]; exact List.mem_append_right _ (by simp)), (S.ks e he).2⟩⟩
theorem SubP.new {zs : List Str} {i j : Nat} {ps : List ((Str × Str) × Int)} {x y : Str} {n : Int} (S : SubP zs i j ps) (nd : zs.Nodup) (hi : zs[i]? = some x) (hj : zs[j]? = some y) (ne : x ≠ y) (n1 : 1 ≤ n) (n2 : n ≤ 18) : SubP zs i (j + 1) (ps ++ [((x, y), n)]) ∧ (x, y) ∉ ps.map Prod.fst := by
  have nw : (x, y) ∉ ps.map Prod.fst := fun q => by
    obtain ⟨e, he, q⟩ := List.mem_map.mp q
    rcases (S.ks e he).1 with a | a
    · rw [q] at a; exact take_nodup nd hi a
    · rw [q] at a; exact take_nodup nd hj a.2
  refine ⟨⟨?_, fun e he => ?_⟩, nw⟩
  · rw [List.map_append, List.nodup_append]
    refine ⟨S.nd, by simp, fun a ha b hb => ?_⟩
    rw [show b = (x, y) by simpa using hb]
    exact fun z => nw (by rw [← z]; exact ha)
  · rcases List.mem_append.mp he with he | he
    · exact S.next.ks e he
    · rw [List.mem_singleton.mp he]
      exact ⟨.inr ⟨hi, by rw [List.take_add_one, hj]; simp⟩, List.mem_of_getElem? hi, List.mem_of_getElem? hj, ne, n1, n2⟩
theorem SubP.len {zs : List Str} {i j : Nat} {ps : List ((Str × Str) × Int)} (S : SubP zs i j ps) : ps.length ≤ zs.length * zs.length := by
  have := pairs_len (ys := zs) S.nd fun e he => by
    obtain ⟨x, hx, rfl⟩ := List.mem_map.mp he
    exact ⟨(S.ks x hx).2.1, (S.ks x hx).2.2.1⟩
  rwa [List.length_map] at this
end MN
/-! priced; all words up to a length; slices of words -/
namespace MN
open PySem PySem.Spec PyProof.Rows L2
/-- a drawn table: the dicts of put, out and swap prices -/
structure TblAt (H : Hp) (t : Addr) (zs : List Str) (g o : Str → Int) (ps : List ((Str × Str) × Int)) (A B S : Addr) : Prop where
  t : H t = some (.lst [.ref A, .ref B, .ref S])
  a : H A = some (.dK (dkF zs g))
  b : H B = some (.dK (dkF zs o))
  s : H S = some (.dT (dtF ps))
theorem TblAt.same {H H' : Hp} {t A B S : Addr} {zs : List Str} {g o : Str → Int} {ps : List ((Str × Str) × Int)} (h : TblAt H t zs g o ps A B S) (e : Same H H') : TblAt H' t zs g o ps A B S := ⟨e _ _ h.t, e _ _ h.a, e _ _ h.b, e _ _ h.s⟩
theorem boot_list0 : bootBuiltins "list" = some (.type "list") := by decide +kernel
def wordsV (ws : List (List Nat)) : List V := ws.map fun u => V.str (wS u)
def lvlU (L : List Nat) : Nat → List (List Nat)
  | 0 => [[]]
  | n + 1 => (lvlU L n).flatMap fun u => L.map fun a => u ++ [a]
def allU (L : List Nat) (n : Nat) : List (List Nat) := (List.range (n + 1)).flatMap (lvlU L)
theorem mem_lvlU {L : List Nat} : ∀ {n : Nat} {u : List Nat}, u ∈ lvlU L n ↔ u.length = n ∧ ∀ a ∈ u, a ∈ L
  | 0, u => by
    simp only [lvlU, List.mem_singleton]
    constructor
    · rintro rfl; simp
    · rintro ⟨h, _⟩; exact List.eq_nil_of_length_eq_zero h
  | n + 1, u => by
    simp only [lvlU, List.mem_flatMap, List.mem_map]
    constructor
    · rintro ⟨v, hv, a, ha, rfl⟩
      obtain ⟨h1, h2⟩ := mem_lvlU.mp hv
      refine ⟨by simp [h1], fun b hb => ?_⟩
      rcases List.mem_append.mp hb with hb | hb
      · exact h2 b hb
      · rw [List.mem_singleton.mp hb]; exact ha
    · rintro ⟨h1, h2⟩
      have hne : u ≠ [] := fun e => by rw [e] at h1; simp at h1
      refine ⟨u.dropLast, mem_lvlU.mpr ⟨by simp [h1], fun a ha => h2 a (List.dropLast_subset _ ha)⟩, u.getLast hne, h2 _ (List.getLast_mem hne), List.dropLast_concat_getLast hne⟩
theorem mem_allU {L : List Nat} {n : Nat} {u : List Nat} : u ∈ allU L n ↔ u.length ≤ n ∧ ∀ a ∈ u, a ∈ L := by
  unfold allU
  rw [List.mem_flatMap]
  constructor
  · rintro ⟨k, hk, hu⟩
    have := List.mem_range.mp hk
    obtain ⟨h1, h2⟩ := mem_lvlU.mp hu
    exact ⟨by omega, h2⟩
  · rintro ⟨h1, h2⟩
    exact ⟨u.length, List.mem_range.mpr (by omega), mem_lvlU.mpr ⟨rfl, h2⟩⟩
theorem flatMap_const {α β : Type} {f : α → List β} {k : Nat} : ∀ {l : List α}, (∀ a ∈ l, (f a).length = k) → (l.flatMap f).length = l.length * k
  | [], _ => by simp
  | a :: l, h => by
    rw [List.flatMap_cons, List.length_append, h a List.mem_cons_self, flatMap_const fun b hb => h b (List.mem_cons_of_mem _ hb), List.length_cons, Nat.succ_mul]
    omega
theorem lvlU_len {L : List Nat} : ∀ n, (lvlU L n).length = L.length ^ n
  | 0 => rfl
  | n + 1 => by
    show ((lvlU L n).flatMap fun u => L.map fun a => u ++ [a]).length = _
    rw [flatMap_const (k := L.length) fun u _ => by simp, lvlU_len n, Nat.pow_succ]
theorem lvlU_le {L : List Nat} (h : L.length ≤ 3) {n : Nat} (hn : n ≤ 8) : (lvlU L n).length ≤ 6561 := by
  rw [lvlU_len]
  exact Nat.le_trans (Nat.pow_le_pow_left h n) (Nat.le_trans (Nat.pow_le_pow_right (by decide) hn) (by decide))
theorem allU_succ {L : List Nat} {n : Nat} : allU L (n + 1) = allU L n ++ lvlU L (n + 1) := by
  unfold allU
  rw [List.range_succ (n := n + 1), List.flatMap_append]
  simp
theorem allU_le {L : List Nat} (h : L.length ≤ 3) : ∀ {n : Nat}, n ≤ 8 → (allU L n).length ≤ (n + 1) * 6561
  | 0, _ => by simp [allU, lvlU]
  | n + 1, hn => by
    rw [allU_succ, List.length_append]
    have h1 := allU_le h (n := n) (by omega)
    have h2 := lvlU_le h hn
    omega
end MN
/-! are_useful -/
namespace MN
open PySem PySem.Spec PyProof.Rows L2
section
variable {P : Program} {w : World} {K : PySem.W.Frag} {mg : Str → Option Value} {base : Heap}
/-- each state but the first has a move from a lesser one; all numbers are states -/
def Tree (ms : List Mv) : Prop := (∀ m ∈ ms, ∀ q ∈ m, q.2 < ms.length) ∧ ∀ i, 0 < i → i < ms.length → ∃ j m, j < i ∧ ms[j]? = some m ∧ ∃ q ∈ m, q.2 = i
def intsV (l : List Nat) : List V := l.map fun (i : Nat) => V.int (i : Int)
def moreOf (ms : List Mv) (met : List Nat) : List Nat := met.flatMap fun s => (ms.getD s []).map (·.2)
theorem moreOf_length {ms : List Mv} (h : ∀ m ∈ ms, m.length ≤ 5) : ∀ met : List Nat, (moreOf ms met).length ≤ 5 * met.length
  | [] => Nat.le_refl _
  | s :: met => by
    have ih := moreOf_length h met
    have e : moreOf ms (s :: met) = (ms.getD s []).map (·.2) ++ moreOf ms met := by simp [moreOf]
    have h5 : (ms.getD s []).length ≤ 5 := by
      rw [List.getD_eq_getElem?_getD]
      cases q : ms[s]? with
      | none => exact Nat.zero_le _
      | some m => exact h m (List.mem_of_getElem? q)
    rw [e, List.length_append, List.length_map, List.length_cons]
    omega
/-- what lies behind met and is not in it -/
def newOf (ms : List Mv) (met : List Nat) (ns : List Int) : List Nat := (ns.map Int.toNat).filter fun i => !decide (i ∈ met)
theorem moreOf_mem {ms : List Mv} {met : List Nat} {i : Nat} : i ∈ moreOf ms met ↔ ∃ s ∈ met, ∃ q ∈ ms.getD s [], q.2 = i := by
  simp [moreOf, List.mem_flatMap]
theorem moreOf_lt {ms : List Mv} {met : List Nat} (h : ∀ m ∈ ms, ∀ q ∈ m, q.2 < ms.length) {i : Nat} (hi : i ∈ moreOf ms met) : i < ms.length := by
  obtain ⟨s, _, q, hq, rfl⟩ := moreOf_mem.mp hi
  rw [List.getD_eq_getElem?_getD] at hq
  cases e : ms[s]? with
  | none => rw [e] at hq; cases hq
  | some m => rw [e] at hq; exact h m (List.mem_of_getElem? e) q hq
/-- closed: all states -/
theorem met_all {ms : List Mv} {met : List Nat} (hT : Tree ms) (m0 : 0 ∈ met) (hc : ∀ i ∈ moreOf ms met, i ∈ met) : ∀ i, i < ms.length → i ∈ met := by
  intro i
  induction i using Nat.strongRecOn with
  | ind i ih =>
    intro hi
    rcases Nat.eq_zero_or_pos i with rfl | h0
    · exact m0
    · obtain ⟨j, m, hj, hm, q, hq, rfl⟩ := hT.2 i h0 hi
      refine hc _ (moreOf_mem.mpr ⟨j, ih j hj (by omega), q, ?_, rfl⟩)
      rw [List.getD_eq_getElem?_getD, hm]
      exact hq
theorem met_len {ms : List Mv} {met : List Nat} (nd : met.Nodup) (lt : ∀ s ∈ met, s < ms.length) (h : ∀ i, i < ms.length → i ∈ met) : met.length = ms.length := by
  have h1 := nodup_sub (l' := List.range ms.length) nd fun x hx => List.mem_range.mpr (lt x hx)
  have h2 := nodup_sub (l' := met) (List.nodup_range (n := ms.length)) fun x hx => h x (List.mem_range.mp hx)
  rw [List.length_range] at h1 h2
  omega
theorem inV_ints (i : Nat) : ∀ l : List Nat, inV (.int (i : Int)) (intsV l) = decide (i ∈ l)
  | [] => rfl
  | j :: l => by
    have ih := inV_ints i l
    unfold inV at ih ⊢
    rw [intsV, List.map_cons, List.any_cons]
    rw [intsV] at ih
    rw [ih]
    by_cases e : i = j
    · subst e; simp [eqV]
    · have : ¬ (j : Int) = (i : Int) := by omega
      simp [eqV, e, this]
theorem ints_nat (l : List Nat) : intsV l = (l.map fun (i : Nat) => (i : Int)).map V.int := by simp [intsV]
theorem dp_ints {K : PySem.W.Frag} {H : Hp} : ∀ l : List Nat, DpAll K H (intsV l) (l.map fun (i : Nat) => PyData.int (i : Int))
  | [] => .nil
  | i :: l => .cons (.int _) (dp_ints l)
def lkOf (ds : List Addr) (ms : List Mv) : List (Addr × HO) := (ds.zip ms).map fun p => (p.1, .dK (mvK p.2))
theorem lkOf_fst {ds : List Addr} {ms : List Mv} (h : ds.length = ms.length) : (lkOf ds ms).map (·.1) = ds := by
  rw [lkOf, List.map_map]
  exact List.map_fst_zip (Nat.le_of_eq h)
theorem lkOf_at {H : Hp} {ds : List Addr} {ms : List Mv} (h : DctsAt H ds ms) : ∀ p ∈ lkOf ds ms, H p.1 = some p.2 ∧ Mut (some p.2) := fun p hp => by
  obtain ⟨q, hq, rfl⟩ := List.mem_map.mp hp
  obtain ⟨i, hi⟩ := List.getElem?_of_mem hq
  obtain ⟨h1, h2⟩ := List.getElem?_zip_eq_some.mp hi
  exact ⟨h.2 i _ _ h1 h2, trivial⟩
def spAreUseful (K : PySem.W.Frag) : Sp := fun vs H Q _ => ∃ M L ds ms ls, vs = [.ref M, .ref L] ∧ MovesAt K H M ds ms ∧ ds.Nodup ∧ SqL K H L (ls.map V.bl) ∧ ls.length = ms.length ∧ 0 < ms.length ∧ ms.length ≤ 40 ∧ (∀ m ∈ ms, m.length ≤ 5) ∧ Tree ms ∧
  (∀ k, stepU ms (stepN ms k ls) = stepN ms k ls → ∀ b ∈ stepN ms k ls, b = true) ∧ ∀ H', Same H H' → Q (.bl true) H'
abbrev N_are_useful : List Str := ["moves", "lasts", "met", "more", "state", "to"]
theorem sc_are_useful : FnScope N_are_useful ["moves", "lasts"] (defScope (top 32)) := ⟨rfl, rfl, rfl, by decide +kernel, rfl, by decide +kernel, by decide +kernel⟩
theorem c_are_useful (A : At K mg "are_useful" (top 32)) (B : Blt mg) (c_useful_states : Cal P w K mg base 1 "useful_states" (spUseful K)) : Cal P w K mg base 2 "are_useful" (spAreUseful K) := by
  refine cal_of A sc_are_useful (fun _ _ _ _ _ _ us hl => match us, hl with | [_, _], _ => rfl) (fun vs H Q E h => ?_) (fun _ cdv A outer s H vs Q E hr h => ?_)
  · obtain ⟨_, _, _, _, _, rfl, _⟩ := h; rfl
  · obtain ⟨M, L, ds, ms, ls, rfl, hM, hnd, hL, hlen, hpos, h40, h5, hT, hU, hQ⟩ := h
    refine ⟨_, (pss_cons (ps_set (i := 2) sc_are_useful.nd rfl (Or.inr rfl) (pe_lst (pa_cons pe_int pa_nil)))
      (pss_one (ps_while PassesOwn.never (pt_val pe_bl)
        (pss_cons (ps_locks (ps_setLc2 (i := 3) (own := [("state", 4), ("to", 5)]) (vs1 := [5]) (g := gName 4) (g1 := gName 5) (tt := tYes) (tt1 := tYes) (by rfl) sc_are_useful.nd rfl rfl (sw_true rfl rfl rfl (by decide +kernel)) (pi_list (pv 2)) (blkOk_by (own := [("state", 4), ("to", 5)]) (N := N_are_useful) (sc := defScope (top 32)) (by decide +kernel)) (by decide) (fun _ _ _ _ _ => (pg_name (i := 4) sc_are_useful.nd rfl (Or.inl rfl))) (fun _ _ _ _ _ => pts_nil)
          (fun _ _ _ _ _ => pi_values (pe_ix (ixLK (K := K) rfl) (pv 0) (pv 4) (fun _ _ => rfl))) (fun _ _ _ _ _ => (pg_name (i := 5) sc_are_useful.nd rfl (Or.inl rfl))) (fun _ _ _ _ _ => pts_nil) (fun _ _ _ _ _ => pv 5)))
        (pss_cons (ps_setLc (i := 3) (own := [("state", 4)]) (g := gName 4) (by rfl) sc_are_useful.nd rfl rfl (sw_true rfl rfl rfl (by decide +kernel)) (pi_list (pe_callB (cr_sortedSet rfl) (by rfl) B.sorted (by decide +kernel) (pa_cons (pe_callTy (cr_setL rfl) (by rfl) B.set (by decide +kernel) (pa_cons (pv 3) pa_nil)) pa_nil))) (blkOk_by (own := [("state", 4)]) (N := N_are_useful) (sc := defScope (top 32)) (by decide +kernel)) (fun _ _ _ _ _ => (pg_name (i := 4) sc_are_useful.nd rfl (Or.inl rfl))) (fun _ _ _ _ _ => pts_one (pt_cmpR (notInSeqK (K := K) rfl) (pv 4) (pv 2) (by rfl))) (fun _ _ _ _ _ => (pv 4)))
        (pss_cons (ps_if (pt_cmpR (op_eqD hr.units) (pv 3) (pe_lst pa_nil) (nomark _))
          (pss_one (ps_ret (pe_and (pe_cmpR op_eq (pe_callB call_len_seq (by rfl) B.len (by decide +kernel) (pa_cons (pv 2) pa_nil)) (pe_callB call_len_seq (by rfl) B.len (by decide +kernel) (pa_cons (pv 0) pa_nil)) (nomark _)) (pe_one (pe_callB (cr_all rfl) (by rfl) B.all (by decide +kernel) (pa_cons (pe_c c_useful_states hr (by decide) (by rfl) (pa_cons (pv 0) (pa_cons (pv 1) pa_nil))) pa_nil))))))
          pss_nil)
        (pss_one (ps_expr (pe_bm PySem.F.plainAttrs_list PySem.F.slot_list_extend PySem.F.type_list_extend mt_extend (pv 2) (pa_cons (pv 3) pa_nil)))))))))), ?_⟩
    refine ⟨(show 1 ≤ sizeLine by decide), fun p0 hp0 => ?_⟩
    refine ⟨fun m σ H' => ∃ (met : List Nat) (p : Addr) (o3 o4 o5 : Option V), σ = [some (.ref M), some (.ref L), some (.ref p), o3, o4, o5] ∧ m = ms.length - met.length ∧ met.Nodup ∧ (∀ s ∈ met, s < ms.length) ∧ 0 ∈ met ∧ met.length ≤ ms.length ∧ Same H H' ∧ H p = none ∧ H' p = some (.lst (intsV met)),
      ⟨_, [0], p0, _, _, _, rfl, rfl, by simp, by simpa using hpos, by simp, hpos, same_new hp0, hp0, upd_same⟩, fun m σ H1 w => ?_⟩
    obtain ⟨met, p, o3, o4, o5, rfl, rfl, mnd, mlt, m0, mle, s1, hp, u1⟩ := w
    have hM1 := hM.same s1
    refine ⟨_, rfl, iteT ⟨_, fun σ' H' n => n, ?_⟩⟩
    refine ⟨_, lockS_of (lkOf ds ms) _ _ (lkOf_at hM1.2) (by rw [lkOf_fst hM.2.1]; exact hnd) fun ks hks => ?_⟩
    have kfst : ks.map (·.1) = ds := by rw [← lkOf_fst hM.2.1, ← hks, List.map_map]; rfl
    have knd : (ks.map (·.1)).Nodup := by rw [kfst]; exact hnd
    have kat : ∀ k ∈ ks, H1 k.1 = some k.2.1 := fun k hk => by
      have := lkOf_at hM1.2 (k.1, k.2.1) (by rw [← hks]; exact List.mem_map.mpr ⟨k, hk, rfl⟩)
      exact this.1
    have poff : p ∉ ks.map (·.1) := fun q => by
      obtain ⟨k, hk, rfl⟩ := List.mem_map.mp q
      have h1 := lkOf_at hM1.2 (k.1, k.2.1) (by rw [← hks]; exact List.mem_map.mpr ⟨k, hk, rfl⟩)
      have h2 : (k.1, k.2.1) ∈ lkOf ds ms := by rw [← hks]; exact List.mem_map.mpr ⟨k, hk, rfl⟩
      obtain ⟨q', _, e⟩ := List.mem_map.mp h2
      have h3 := h1.1
      rw [u1] at h3
      have e2 : (HO.dK (mvK q'.2)) = k.2.1 := congrArg Prod.snd e
      rw [← e2] at h3
      cases h3
    have off : ∀ b o, H1 b = some o → (∀ kvs, o ≠ .dK kvs) → fzH ks H1 b = some o := fun b o hb ho => by
      rw [fzH_off ks H1 fun q => ?_]
      · exact hb
      · obtain ⟨k, hk, rfl⟩ := List.mem_map.mp q
        have h2 : (k.1, k.2.1) ∈ lkOf ds ms := by rw [← hks]; exact List.mem_map.mpr ⟨k, hk, rfl⟩
        obtain ⟨q', _, e⟩ := List.mem_map.mp h2
        have h3 := kat k hk
        rw [hb] at h3
        have e2 : (HO.dK (mvK q'.2)) = k.2.1 := congrArg Prod.snd e
        exact ho _ ((Option.some.inj h3).trans e2.symm)
    have hMf : SqL K (fzH ks H1) M (ds.map V.ref) := by
      rcases hM1.1 with (h | ⟨o, h⟩) | h
      · exact .inl (.inl (off _ _ h (fun _ z => by cases z)))
      · exact .inl (.inr ⟨o, off _ _ h (fun _ z => by cases z)⟩)
      · exact .inr h
    have pf : fzH ks H1 p = some (.lst (intsV met)) := by rw [fzH_off ks H1 poff]; exact u1
    refine ⟨_, rfl, p, rfl, ⟨_, SqL.of pf⟩, fun Dl hDl => ?_⟩
    refine lc2_out (walk_list (xs := intsV met)) (fun i H' => Same (fzH ks H1) H' ∧ H' Dl = some (.lst (intsV (moreOf ms (met.take i))))) ⟨same_new hDl, by rw [List.take_zero]; exact upd_same⟩ (fun i H' _ e => Same.seq e.1 (SqL.of pf)) (fun i x H2 H2' hi e y => ?_) (fun H2 e => ?_)
    · obtain ⟨rfl, hx⟩ := y
      rw [intsV, List.getElem?_map] at hx
      obtain ⟨st, hst, rfl⟩ := Option.map_eq_some_iff.mp hx
      have slt : st < ms.length := mlt st (List.mem_of_getElem? hst)
      have sld : st < ds.length := by rw [hM.2.1]; exact slt
      have tk : met.take (i + 1) = met.take i ++ [st] := by rw [List.take_add_one, hst]; rfl
      have mo : moreOf ms (met.take (i + 1)) = moreOf ms (met.take i) ++ (ms[st]).map (·.2) := by
        rw [tk, moreOf, List.flatMap_append]
        simp [moreOf, slt]
      have hdm : (ds[st], HO.dK (mvK ms[st])) ∈ lkOf ds ms := by
        refine List.mem_map.mpr ⟨(ds[st], ms[st]), ?_, rfl⟩
        exact List.mem_of_getElem? (i := st) (List.getElem?_zip_eq_some.mpr ⟨List.getElem?_eq_getElem sld, List.getElem?_eq_getElem slt⟩)
      obtain ⟨k, hk, ek⟩ : ∃ k ∈ ks, (k.1, k.2.1) = (ds[st], HO.dK (mvK ms[st])) := by
        rw [← hks] at hdm
        obtain ⟨k, hk, e⟩ := List.mem_map.mp hdm
        exact ⟨k, hk, e⟩
      have ek1 : k.1 = ds[st] := congrArg Prod.fst ek
      have ek2 : k.2.1 = HO.dK (mvK ms[st]) := congrArg Prod.snd ek
      have fz := fzH_at ks H1 knd k hk
      rw [ek1, ek2] at fz
      refine ⟨rfl, yes_q (iteT ⟨_, rfl, _, rfl, M, _, _, .ref ds[st], rfl, rfl, Same.seq e.1 hMf, atI_nat ?_, ds[st], k.2.2, _, rfl, e.1 _ _ fz, ?_⟩)⟩
      · rw [List.getElem?_map, List.getElem?_eq_getElem sld]; rfl
      · refine lc2_in walk_values (fun j H' => Same (fzH ks H1) H' ∧ H' Dl = some (.lst (intsV (moreOf ms (met.take i) ++ ((ms[st]).take j).map (·.2))))) ⟨e.1, by rw [e.2]; simp⟩ (fun j H' _ q => q.1 _ _ fz) (fun j x H3 H3' hj q y => ?_) (fun H3 q => ⟨q.1, ?_⟩)
        · obtain ⟨rfl, kk, hkk⟩ := y
          rw [mvK, List.getElem?_map] at hkk
          obtain ⟨q0, hq0, e0⟩ := Option.map_eq_some_iff.mp hkk
          cases e0
          refine ⟨rfl, yes_q (iteT ⟨_, rfl, _, q.2, ?_, fun b' o' z => ?_, ?_⟩)⟩
          · have l1 := moreOf_length h5 (met.take i)
            have l2 : (met.take i).length ≤ met.length := List.length_take_le' _ _
            have l3 : ((ms[st]).take j).length ≤ (ms[st]).length := List.length_take_le' _ _
            have l4 := h5 ms[st] (List.getElem_mem slt)
            have l5 : 100000 < sizeLine := by decide
            rw [intsV, List.length_map, List.length_append, List.length_map]
            omega
          · rw [upd_ne (ne_of_none z hDl)]
            exact q.1 _ _ z
          · rw [upd_same, List.take_add_one, hq0]
            simp [intsV]
        · rw [q.2, mo]
          have : ((ms[st]).take (mvK ms[st]).length) = ms[st] := List.take_of_length_le (by simp [mvK])
          rw [this]
    · obtain ⟨s12, kf⟩ := thaw_same knd kat rfl e.1
      have doff : Dl ∉ ks.map (·.1) := fun q => by
        obtain ⟨k, hk, rfl⟩ := List.mem_map.mp q
        rw [fzH_at ks H1 knd k hk] at hDl
        cases hDl
      have uD : thaw ks H2 Dl = some (.lst (intsV (moreOf ms met))) := by
        have e2 := e.2
        rw [show (intsV met).length = met.length by simp [intsV], List.take_length] at e2
        rw [thaw_off ks H2 doff]
        exact e2
      refine lkD_nx ks _ _ _ knd kf ?_
      have s2 := s1.trans s12
      generalize thaw ks H2 = H3 at s2 s12 uD ⊢
      have hM3 := hM.same s2
      have mlt3 : ∀ i ∈ moreOf ms met, i < ms.length := fun i hi => moreOf_lt hT.1 hi
      have mlen := moreOf_length h5 met
      refine ⟨_, rfl, Dl, (moreOf ms met).map (fun (i : Nat) => (i : Int)), rfl, SqL.of (by rw [← ints_nat]; exact uD), by simp; omega, fun S1 c hS1 _ hc => ?_⟩
      have hc40 : c ≤ 40 := Nat.le_trans (hc ms.length fun n hn => by
        obtain ⟨i, hi, rfl⟩ := List.mem_map.mp hn
        have := mlt3 i hi
        omega) h40
      obtain ⟨s4, u4⟩ := laid (SetO _ S1 (fun j => decide (j ∈ (moreOf ms met).map (fun (i : Nat) => (i : Int)))) c) hS1
      generalize upd H3 S1 (SetO _ S1 (fun j => decide (j ∈ (moreOf ms met).map (fun (i : Nat) => (i : Int)))) c) = H4 at s4 u4 ⊢
      refine ⟨S1, _, _, rfl, u4, by omega, fun ns q1 hns hmem hnl hq1 => ?_⟩
      obtain ⟨s5, u5⟩ := laid (.lst (ns.map V.int)) hq1
      generalize upd H4 q1 (.lst (ns.map V.int)) = H5 at s5 u5 ⊢
      have s35 := s4.trans s5
      have s15 := s12.trans s35
      have nsm : ∀ k : Int, k ∈ ns ↔ ∃ i ∈ moreOf ms met, (i : Int) = k := fun k => by
        rw [hmem k, decide_eq_true_iff, List.mem_map]
      have ens : ns.map V.int = intsV (ns.map Int.toNat) := by
        rw [intsV, List.map_map]
        refine List.map_congr_left fun k hk => ?_
        obtain ⟨i, _, rfl⟩ := (nsm k).mp hk
        rfl
      have nsn : (ns.map Int.toNat).Nodup := by
        refine (List.pairwise_map.mpr (hns.imp_of_mem fun {a b} ha hb h => ?_))
        obtain ⟨i, _, rfl⟩ := (nsm a).mp ha
        obtain ⟨j, _, rfl⟩ := (nsm b).mp hb
        simp
        omega
      have nsi : ∀ i : Nat, i ∈ ns.map Int.toNat ↔ i ∈ moreOf ms met := fun i => by
        rw [List.mem_map]
        constructor
        · rintro ⟨k, hk, rfl⟩
          obtain ⟨j, hj, rfl⟩ := (nsm k).mp hk
          exact hj
        · intro hi
          exact ⟨i, (nsm i).mpr ⟨i, hi, rfl⟩, rfl⟩
      rw [ens] at u5
      generalize ns.map Int.toNat = nn at u5 nsn nsi
      have flt : ∀ l : List Nat, (intsV l).all flatV = true := fun l => by
        rw [intsV, List.all_map]
        exact List.all_eq_true.mpr fun _ _ => rfl
      have nnl : nn.length ≤ 40 := Nat.le_trans (nodup_sub (l' := List.range ms.length) nsn fun x hx => List.mem_range.mpr (mlt3 x ((nsi x).mp hx))) (by rw [List.length_range]; exact h40)
      refine ⟨q1, rfl, ⟨_, SqL.of u5⟩, fun D2 hD2 => lc_lst (SqL.of u5) hD2 (by simp [intsV]; omega) (fun x => !inV x (intsV met)) (fun x => x) (fun x _ => rfl) (fun x hx acc Q q => ?_) (fun x hx _ acc Q q => ⟨_, rfl, q⟩) ?_⟩
      · obtain ⟨z, hz, rfl⟩ := List.mem_map.mp hx
        exact ⟨_, rfl, _, rfl, p, _, rfl, .inl (seqL_upd (SqL.of (s15 _ _ u1)) hD2), rfl, flt _, _, rfl, q⟩
      have ef : ((intsV nn).filter fun x => !inV x (intsV met)).map (fun x => x) = intsV (nn.filter fun i => !decide (i ∈ met)) := by
        rw [List.map_id', show intsV nn = nn.map (fun (i : Nat) => V.int (i : Int)) from rfl, List.filter_map]
        refine congrArg (List.map fun (i : Nat) => V.int (i : Int)) (List.filter_congr fun i _ => ?_)
        rw [Function.comp_apply, inV_ints]
      rw [ef]
      obtain ⟨s6, u6⟩ := laid (.lst (intsV (nn.filter fun i => !decide (i ∈ met)))) hD2
      generalize upd H5 D2 (.lst (intsV (nn.filter fun i => !decide (i ∈ met)))) = H6 at s6 u6 ⊢
      have s16 := s15.trans s6
      have mem6 : ∀ i, i ∈ nn.filter (fun i => !decide (i ∈ met)) ↔ i ∈ moreOf ms met ∧ i ∉ met := fun i => by
        rw [List.mem_filter, nsi]
        simp
      have nd6 : (nn.filter fun i => !decide (i ∈ met)).Nodup := nsn.filter _
      generalize nn.filter (fun i => !decide (i ∈ met)) = nw at u6 mem6 nd6
      refine ⟨_, rfl, (by show 0 ≤ sizeLine; decide), fun E1 hE1 => ?_⟩
      obtain ⟨s7, u7⟩ := laid (.lst []) hE1
      generalize upd H6 E1 (.lst []) = H7 at s7 u7 ⊢
      have s17 := s16.trans s7
      have shI : ∀ l : List Nat, SeqAt.shaped (.list (l.map fun (i : Nat) => PyData.int (i : Int))) = true := fun l => shapedL fun d hd => by
        obtain ⟨i, _, rfl⟩ := List.mem_map.mp hd
        exact ⟨by rw [PyData.canLay0], by rw [PyData.depth]; omega⟩
      refine ⟨_, _, .lst (SqL.of (s7 _ _ u6)) (dp_ints nw), .lst (SqL.of u7) .nil, shI nw, shI [], _, rfl, ?_⟩
      have s7' := s1.trans s17
      have met' : met.length ≤ ms.length := mle
      cases nw with
      | nil =>
        rw [show PyData.eqv (.list (([] : List Nat).map fun (i : Nat) => PyData.int (i : Int))) (.list []) = true from eqv_self (shI [])]
        have all := met_all hT m0 fun i hi => Classical.byContradiction fun hn => by
          have := (mem6 i).mpr ⟨hi, hn⟩
          cases this
        have ml := met_len mnd mlt all
        refine iteT ⟨_, rfl, p, _, rfl, .inl (SqL.of (s17 _ _ u1)), _, rfl, M, _, rfl, .inl (hM.same s7').1, rfl, _, rfl, ?_⟩
        rw [decide_eq_true (show V.int ((intsV met).length : Nat) = V.int ((ds.map V.ref).length : Nat) by rw [intsV, List.length_map, List.length_map, hM.2.1, ml])]
        refine iteT ⟨_, rfl, _, rfl, M, L, ds, ms, ls, rfl, hM.same s7', Same.seq s7' hL, hlen, by omega, fun m hm => ⟨by have := h5 m hm; omega, hT.1 m hm⟩, fun p8 k H8 _ s8 fx u8 => ?_⟩
        refine ⟨p8, stepN ms k ls, rfl, SqL.of u8, ?_⟩
        rw [show (stepN ms k ls).all id = true from List.all_eq_true.mpr fun b hb => hU k fx b hb]
        exact hQ _ (s7'.trans s8)
      | cons n0 nw =>
        have en : PyData.eqv (.list ((n0 :: nw).map fun (i : Nat) => PyData.int (i : Int))) (.list []) = false := by
          simp [PyData.eqv, PyData.eqvAll]
        rw [en]
        refine iteF ⟨_, rfl, .inl ⟨rfl, _, SqL.of (s17 _ _ u1)⟩, _, rfl, p, _, intsV met, intsV (n0 :: nw), rfl, rfl, s17 _ _ u1, s7 _ _ u6, ?_, ?_⟩
        · have : 100000 < sizeLine := by decide
          have l9 := nodup_sub (l' := List.range ms.length) nd6 fun x hx => List.mem_range.mpr (mlt3 x ((mem6 x).mp hx).1)
          rw [List.length_range] at l9
          simp only [intsV, List.length_map]
          omega
        · have nd9 : (met ++ n0 :: nw).Nodup := List.nodup_append.mpr ⟨mnd, nd6, fun a ha b hb e => ((mem6 b).mp hb).2 (e ▸ ha)⟩
          have lt9 : ∀ s ∈ met ++ n0 :: nw, s < ms.length := fun s hs => by
            rcases List.mem_append.mp hs with hs | hs
            · exact mlt s hs
            · exact mlt3 s ((mem6 s).mp hs).1
          have le9 := nodup_sub (l' := List.range ms.length) nd9 fun x hx => List.mem_range.mpr (lt9 x hx)
          rw [List.length_range] at le9
          refine ⟨_, ?_, met ++ n0 :: nw, p, _, _, _, rfl, rfl, nd9, lt9, List.mem_append_left _ m0, le9, fun b o q => ?_, hp, ?_⟩
          · simp only [List.length_append, List.length_cons] at le9 ⊢
            omega
          · rw [upd_ne (ne_of_none q hp)]
            exact s7' _ _ q
          · rw [upd_same]
            simp [intsV]
end
end MN
/-! states of forms: is_state, are_states, in_order; the class Form -/
namespace MN
open PySem PySem.Spec PyProof.Rows L2
/-- a comprehension over a tuple of pairs -/
theorem lc_pairs {K : PySem.W.Frag} {a D : Addr} {H1 : Hp} {σ : L2.St} {vs : List Nat} {te : TE} {j1 j2 : Nat} {Qd : Hp → Prop} (ts : List Addr) (ps : List (V × V)) (hl : ts.length = ps.length) (hs : SqT K H1 a (ts.map V.ref)) (hz : ts.length ≤ 1000) (hD : H1 D = none)
    (hp : ∀ (i : Nat) (t : Addr) (p : V × V), ts[i]? = some t → ps[i]? = some p → SqT K H1 t [p.1, p.2]) (hw : ∀ p ∈ ps, wipe (((wipe σ vs).set j1 (some p.1)).set j2 (some p.2)) vs = wipe σ vs)
    (R : Nat → V → Hp → Prop) (hR : ∀ k v H H', (∀ b o, b ≠ D → H b = some o → H' b = some o) → R k v H → R k v H')
    (he : ∀ (i : Nat) (p : V × V), ps[i]? = some p → ∀ H2, Same H1 H2 → (∃ o, H2 D = some o) → ∀ Q : VK, (∀ y H3, Same H2 H3 → R i y H3 → Q y H3) → te (((wipe σ vs).set j1 (some p.1)).set j2 (some p.2)) H2 Q)
    (hd : ∀ H' outs, Same H1 H' → H' D = some (.lst outs) → outs.length = ps.length → (∀ (k : Nat) (v : V), outs[k]? = some v → R k v H') → Qd H') :
    LcGoal (Itt K a) (gTup K 2 (gCons (gName j1) (gCons (gName j2) gNil))) tYes te vs σ H1 D Qd := by
  refine lc_it walk_tup (fun i H' => Same H1 H' ∧ ∃ outs, H' D = some (.lst outs) ∧ outs.length = i ∧ ∀ (k : Nat) (v : V), outs[k]? = some v → R k v H') ⟨same_new hD, [], upd_same, rfl, fun k v z => by simp at z⟩ (fun i H' _ e => Same.seqT e.1 hs) (fun i x H H' hi e y => ?_) (fun H' e => ?_)
  · obtain ⟨rfl, hx⟩ := y
    obtain ⟨e1, outs, e2, e3, e4⟩ := e
    rw [List.getElem?_map] at hx
    obtain ⟨t, ht, rfl⟩ := Option.map_eq_some_iff.mp hx
    rw [List.length_map] at hi
    have hip : i < ps.length := by omega
    have hpi : ps[i]? = some ps[i] := List.getElem?_eq_getElem hip
    refine ⟨t, _, rfl, Same.seqT e1 (hp i t _ ht hpi), rfl, _, _, rfl, _, _, rfl, rfl, hw _ (List.getElem_mem hip), yes_q (iteT ?_)⟩
    refine he i _ hpi _ e1 ⟨_, e2⟩ _ fun y H3 s3 r3 => ⟨outs, s3 _ _ e2, ?_, fun b o q => ?_, _, upd_same, by rw [List.length_append, e3]; rfl, fun k v z => ?_⟩
    · have : 1000000 < sizeLine := by decide
      omega
    · rw [upd_ne (ne_of_none q hD)]
      exact s3 _ _ (e1 _ _ q)
    · have up : ∀ b o, b ≠ D → H3 b = some o → upd H3 D (.lst (outs ++ [y])) b = some o := fun b o n q => by rw [upd_ne n]; exact q
      rcases Nat.lt_or_ge k outs.length with hk | hk
      · rw [List.getElem?_append_left hk] at z
        exact hR _ _ _ _ (fun b o n q => up b o n (s3 _ _ q)) (e4 k v z)
      · rw [List.getElem?_append_right hk] at z
        have hk2 : k - outs.length = 0 := by
          have := (List.getElem?_eq_some_iff.mp z).1
          simp at this
          omega
        rw [hk2] at z
        obtain rfl : y = v := by simpa using z
        obtain rfl : k = i := by omega
        exact hR _ _ _ _ up r3
  · obtain ⟨e1, outs, e2, e3, e4⟩ := e
    rw [List.length_map] at e3
    exact hd H' outs e1 e2 (by omega) e4
theorem rep_bl {α : Type} {n : Nat} : ∀ (l : List α), l.length = n → l.map (fun _ => V.bl true) = List.replicate n (V.bl true) := fun l h => by
  subst h
  exact List.map_const' ..
section
variable {P : Program} {w : World} {K : PySem.W.Frag} {mg : Str → Option Value} {base : Heap}
/-- moves of a state: signs, each once, and states below n -/
structure MvOk (n : Nat) (m : Mv) : Prop where
  len : m.length ≤ 5
  sg : ∀ q ∈ m, isSign (.str q.1) = true
  to : ∀ q ∈ m, q.2 < n
  nd : (m.map (·.1)).Nodup
theorem sign_len {z : Str} (h : isSign (.str z) = true) : z.length = 1 := by
  simp [isSign] at h
  exact h.1
/-! ### is_state -/
def spIsState (K : PySem.W.Frag) : Sp := fun vs H Q _ => ∃ t d m l n, vs = [.ref t, .int (n : Nat)] ∧ SqT K H t [.ref d, .bl l] ∧ H d = some (.dK (mvK m)) ∧ MvOk n m ∧ n ≤ 1000 ∧ ∀ H', Same H H' → Q (.bl true) H'
abbrev N_is_state : List Str := ["value", "many", "moves", "last", "sign", "to"]
theorem sc_is_state : FnScope N_is_state ["value", "many"] (defScope (top 48)) := ⟨rfl, rfl, rfl, by decide +kernel, rfl, by decide +kernel, by decide +kernel⟩
theorem c_is_state (A : At K mg "is_state" (top 48)) (B : Blt mg) (c_is_sign : Cal P w K mg base 1 "is_sign" (spIsSign K)) (c_is_integer : Cal P w K mg base 1 "is_integer" (spIsInt K)) : Cal P w K mg base 2 "is_state" (spIsState K) := by
  refine cal_of A sc_is_state (fun _ _ _ _ _ _ us hl => match us, hl with | [_, _], _ => rfl) (fun vs H Q E h => ?_) (fun _ cdv A outer s H vs Q E hr h => ?_)
  · obtain ⟨_, _, _, _, _, rfl, _⟩ := h; rfl
  · obtain ⟨t, d, m, l, n, rfl, ht, hd, hm, hn, hQ⟩ := h
    refine ⟨_, (pss_cons (ps_if (PW.pt (pw_or (pt_not (pt_val (pe_callB call_isS (by rfl) B.isinstance (by decide +kernel) (pa_cons (pv 0) (pa_cons (pe_bltn (v := .ty "tuple") (by rfl) B.tuple (by decide +kernel) rfl) pa_nil))))) (pw_or1 (pt_cmpR op_ne (pe_callB call_len_seq (by rfl) B.len (by decide +kernel) (pa_cons (pv 0) pa_nil)) pe_int (nomark _)))))
        (pss_one (ps_ret pe_bl))
        pss_nil)
      (pss_cons (ps_asg (pv 0) (pg_tup rfl (pgs_cons (pg_name (i := 2) sc_is_state.nd rfl (Or.inl rfl)) (pgs_cons (pg_name (i := 3) sc_is_state.nd rfl (Or.inl rfl)) pgs_nil))))
      (pss_cons (ps_if (PW.pt (pw_or (pt_not (pt_val (pe_callB call_isS (by rfl) B.isinstance (by decide +kernel) (pa_cons (pv 2) (pa_cons (pe_bltn (v := .ty "dict") (by rfl) B.dict (by decide +kernel) rfl) pa_nil))))) (pw_or (pt_not (pt_val (pe_callB call_isS (by rfl) B.isinstance (by decide +kernel) (pa_cons (pv 3) (pa_cons (pe_bltn (v := .ty "bool") (by rfl) B.bool (by decide +kernel) rfl) pa_nil))))) (pw_or1 (pt_not (pt_val (pe_callB (cr_all rfl) (by rfl) B.all (by decide +kernel) (pa_cons (pe_lock (pe_lc (own := [("sign", 4)]) (g := gName 4) (tt := tYes) (by rfl) sc_is_state.nd (pi_keys (pv 2)) (blkOk_by (own := [("sign", 4)]) (N := N_is_state) (sc := defScope (top 48)) (by decide +kernel)) (fun _ _ _ _ _ => (pg_name (i := 4) sc_is_state.nd rfl (Or.inl rfl))) (fun _ _ _ _ _ => pts_nil) (fun _ _ _ _ _ => (pe_c c_is_sign hr (by decide) (by rfl) (pa_cons (pv 4) pa_nil))))) pa_nil))))))))
        (pss_one (ps_ret pe_bl))
        pss_nil)
      (pss_one (ps_ret (pe_callB (cr_all rfl) (by rfl) B.all (by decide +kernel) (pa_cons (pe_lock (pe_lc (own := [("to", 5)]) (g := gName 5) (tt := tYes) (by rfl) sc_is_state.nd (pi_values (pv 2)) (blkOk_by (own := [("to", 5)]) (N := N_is_state) (sc := defScope (top 48)) (by decide +kernel)) (fun _ _ _ _ _ => (pg_name (i := 5) sc_is_state.nd rfl (Or.inl rfl))) (fun _ _ _ _ _ => pts_nil) (fun _ _ _ _ _ => (pe_and (pe_c c_is_integer hr (by decide) (by rfl) (pa_cons (pv 5) pa_nil)) (pe_one (pe_chain op_le op_lt pe_int (pv 5) (pv 1))))))) pa_nil))))))), ?_⟩
    refine ⟨_, rfl, _, _, true, rfl, .ty (tyT ht) (by decide +kernel), _, rfl, iteF ?_⟩
    refine ⟨_, rfl, t, _, rfl, .inr ht, rfl, _, rfl, iteF ?_⟩
    refine ⟨_, rfl, t, _, rfl, ht, rfl, _, _, rfl, _, _, rfl, rfl, ?_⟩
    refine ⟨_, rfl, _, _, true, rfl, .ty (.base (.dK hd)) (by decide +kernel), _, rfl, iteF ?_⟩
    refine ⟨_, rfl, _, _, true, rfl, .ty (.base (.bl l)) (by decide +kernel), _, rfl, iteF ?_⟩
    refine ⟨d, _, hd, trivial, fun od => ⟨_, rfl, d, od, rfl, .inl ⟨_, upd_same, fun D hD => ?_⟩⟩⟩
    have ml : m.length ≤ 5 := hm.len
    refine lc_keysL hd hD (by simp [mvK]; omega) (fun _ => true) (fun _ => .bl true) (fun x _ => rfl) (fun x _ H3 _ _ Q q => q) (fun x hx _ H3 f3 k3 Q q => ?_) (fun H3 f3 s3 h3 => ⟨f3, ?_⟩)
    · obtain ⟨kv, hkv, rfl⟩ := List.mem_map.mp hx
      obtain ⟨q0, hq0, rfl⟩ := List.mem_map.mp hkv
      have e := hm.sg q0 hq0
      refine ⟨_, rfl, .str q0.1, rfl, ValOk.str (by rw [sign_len e]; decide), ?_⟩
      rw [e]
      exact q
    · refine ⟨D, List.replicate m.length true, rfl, .inl (.inl ?_), ?_⟩
      · rw [h3, filter_all, List.map_replicate]
        exact congrArg (fun l => some (HO.lst l)) (rep_bl _ (by simp [mvK]))
      · rw [show (List.replicate m.length true).all id = true by simp]
        refine ⟨_, rfl, iteF ?_⟩
        generalize upd H3 d (.dK (mvK m)) = H4 at s3 ⊢
        have hd4 := s3 _ _ hd
        refine ⟨d, _, hd4, trivial, fun od => ⟨_, rfl, d, od, _, rfl, upd_same, fun D2 hD2 => ?_⟩⟩
        refine lc_valsL hd4 hD2 (by simp [mvK]; omega) (fun _ => true) (fun _ => .bl true) (fun x _ => rfl) (fun x _ H3 _ _ Q q => q) (fun x hx _ H5 f5 k5 Q q => ?_) (fun H5 f5 s5 h5 => ⟨f5, ?_⟩)
        · obtain ⟨kv, hkv, rfl⟩ := List.mem_map.mp hx
          obtain ⟨q0, hq0, rfl⟩ := List.mem_map.mp hkv
          have e := hm.to q0 hq0
          refine ⟨_, rfl, .int (q0.2 : Nat), rfl, .inl ⟨_, rfl, ?_⟩⟩
          rw [isInt_of (by omega) (by omega)]
          refine ⟨_, rfl, iteT ⟨_, rfl, _, _, rfl, rfl, _, rfl, ?_⟩⟩
          rw [decide_eq_true (show (0 : Int) ≤ (q0.2 : Nat) by omega)]
          refine iteT ⟨_, rfl, _, _, rfl, rfl, ?_⟩
          have e2 : decide (((q0.2 : Nat) : Int) < (n : Nat)) = true := decide_eq_true (by omega)
          show Q (.bl (decide (((q0.2 : Nat) : Int) < (n : Nat)))) H5
          rw [e2]
          exact q
        · refine ⟨D2, List.replicate m.length true, rfl, .inl (.inl ?_), ?_⟩
          · rw [h5, filter_all, List.map_replicate]
            exact congrArg (fun l => some (HO.lst l)) (rep_bl _ (by simp [mvK]))
          · rw [show (List.replicate m.length true).all id = true by simp]
            exact hQ _ (s3.trans s5)
end
end MN
/-! are_states, in_order, Form.__init__, Form.__len__ -/
namespace MN
open PySem PySem.Spec PyProof.Rows L2
section
variable {P : Program} {w : World} {K : PySem.W.Frag} {mg : Str → Option Value} {base : Heap}
/-- a tuple of states -/
structure StsAt (K : PySem.W.Frag) (H : Hp) (T : Addr) (ts ds : List Addr) (ms : List Mv) (ls : List Bool) : Prop where
  tup : SqT K H T (ts.map V.ref)
  lt : ts.length = ms.length
  ll : ls.length = ms.length
  dc : DctsAt H ds ms
  pr : ∀ (i : Nat) t d l, ts[i]? = some t → ds[i]? = some d → ls[i]? = some l → SqT K H t [.ref d, .bl l]
theorem StsAt.same {H H' : Hp} {T : Addr} {ts ds : List Addr} {ms : List Mv} {ls : List Bool} (h : StsAt K H T ts ds ms ls) (e : Same H H') : StsAt K H' T ts ds ms ls := ⟨Same.seqT e h.tup, h.lt, h.ll, h.dc.same e, fun i t d l h1 h2 h3 => Same.seqT e (h.pr i t d l h1 h2 h3)⟩
/-- what a form's states must be -/
structure StsOk (ms : List Mv) (ls : List Bool) : Prop where
  pos : 0 < ms.length
  few : ms.length ≤ 8
  mv : ∀ m ∈ ms, MvOk ms.length m
  tree : Tree ms
  use : ∀ k, stepU ms (stepN ms k ls) = stepN ms k ls → ∀ b ∈ stepN ms k ls, b = true
def pairsOf (ds : List Addr) (ls : List Bool) : List (V × V) := (ds.zip ls).map fun p => (.ref p.1, .bl p.2)
theorem pairsOf_get {ds : List Addr} {ls : List Bool} {i : Nat} {p : V × V} (h : (pairsOf ds ls)[i]? = some p) : ∃ d l, ds[i]? = some d ∧ ls[i]? = some l ∧ p = (.ref d, .bl l) := by
  rw [pairsOf, List.getElem?_map] at h
  obtain ⟨q, hq, rfl⟩ := Option.map_eq_some_iff.mp h
  obtain ⟨h1, h2⟩ := List.getElem?_zip_eq_some.mp hq
  exact ⟨_, _, h1, h2, rfl⟩
theorem StsAt.pairs {H : Hp} {T : Addr} {ts ds : List Addr} {ms : List Mv} {ls : List Bool} (h : StsAt K H T ts ds ms ls) : ts.length = (pairsOf ds ls).length ∧ ∀ (i : Nat) (t : Addr) (p : V × V), ts[i]? = some t → (pairsOf ds ls)[i]? = some p → SqT K H t [p.1, p.2] := by
  refine ⟨?_, fun i t p h1 h2 => ?_⟩
  · have := h.dc.1
    have := h.lt
    have := h.ll
    simp [pairsOf]
    omega
  · obtain ⟨d, l, h3, h4, rfl⟩ := pairsOf_get h2
    exact h.pr i t d l h1 h3 h4
def spAreStates (K : PySem.W.Frag) : Sp := fun vs H Q _ => ∃ T ts ds ms ls, vs = [.ref T] ∧ StsAt K H T ts ds ms ls ∧ ds.Nodup ∧ StsOk ms ls ∧ ∀ H', Same H H' → Q (.bl true) H'
abbrev N_are_states : List Str := ["value", "pair", "moves", "last"]
theorem sc_are_states : FnScope N_are_states ["value"] (defScope (top 49)) := ⟨rfl, rfl, rfl, by decide +kernel, rfl, by decide +kernel, by decide +kernel⟩
theorem c_are_states (A : At K mg "are_states" (top 49)) (B : Blt mg) (G : GlC mg "MAX_WRITTEN" (.int 8)) (c_is_state : Cal P w K mg base 2 "is_state" (spIsState K)) (c_are_useful : Cal P w K mg base 2 "are_useful" (spAreUseful K)) : Cal P w K mg base 3 "are_states" (spAreStates K) := by
  refine cal_of A sc_are_states (fun _ _ _ _ _ _ us hl => match us, hl with | [_], _ => rfl) (fun vs H Q E h => ?_) (fun _ cdv A outer s H vs Q E hr h => ?_)
  · obtain ⟨_, _, _, _, _, rfl, _⟩ := h; rfl
  · obtain ⟨T, ts, ds, ms, ls, rfl, hS, hnd, hO, hQ⟩ := h
    refine ⟨_, (pss_cons (ps_if (PW.pt (pw_or (pt_not (pt_val (pe_callB call_isS (by rfl) B.isinstance (by decide +kernel) (pa_cons (pv 0) (pa_cons (pe_bltn (v := .ty "tuple") (by rfl) B.tuple (by decide +kernel) rfl) pa_nil))))) (pw_or1 (pt_not (pt_chain op_le op_le pe_int (pe_callB call_len_seq (by rfl) B.len (by decide +kernel) (pa_cons (pv 0) pa_nil)) (pe_gl (by rfl) G))))))
        (pss_one (ps_ret pe_bl))
        pss_nil)
      (pss_cons (ps_if (pt_not (pt_val (pe_callB (cr_all rfl) (by rfl) B.all (by decide +kernel) (pa_cons (pe_lc (own := [("pair", 1)]) (g := gName 1) (tt := tYes) (by rfl) sc_are_states.nd (pi_tup (pv 0)) (blkOk_by (own := [("pair", 1)]) (N := N_are_states) (sc := defScope (top 49)) (by decide +kernel)) (fun _ _ _ _ _ => (pg_name (i := 1) sc_are_states.nd rfl (Or.inl rfl))) (fun _ _ _ _ _ => pts_nil) (fun _ _ _ _ _ => (pe_c c_is_state hr (by decide) (by rfl) (pa_cons (pv 1) (pa_cons (pe_callB (lenK (K := K) rfl) (by rfl) B.len (by decide +kernel) (pa_cons (pv 0) pa_nil)) pa_nil))))) pa_nil))))
        (pss_one (ps_ret pe_bl))
        pss_nil)
      (pss_one (ps_ret (pe_c c_are_useful hr (by decide) (by rfl) (pa_cons (pe_lc (own := [("moves", 2), ("last", 3)]) (tt := tYes) (by rfl) sc_are_states.nd (pi_tup (pv 0)) (blkOk_by (own := [("moves", 2), ("last", 3)]) (N := N_are_states) (sc := defScope (top 49)) (by decide +kernel)) (fun _ _ _ _ _ => (pg_tupK (K := K) (n := 2) rfl rfl (pgs_cons (pg_name (i := 2) sc_are_states.nd rfl (Or.inl rfl)) (pgs_cons (pg_name (i := 3) sc_are_states.nd rfl (Or.inl rfl)) pgs_nil)))) (fun _ _ _ _ _ => pts_nil) (fun _ _ _ _ _ => (pv 2))) (pa_cons (pe_lc (own := [("moves", 2), ("last", 3)]) (tt := tYes) (by rfl) sc_are_states.nd (pi_tup (pv 0)) (blkOk_by (own := [("moves", 2), ("last", 3)]) (N := N_are_states) (sc := defScope (top 49)) (by decide +kernel)) (fun _ _ _ _ _ => (pg_tupK (K := K) (n := 2) rfl rfl (pgs_cons (pg_name (i := 2) sc_are_states.nd rfl (Or.inl rfl)) (pgs_cons (pg_name (i := 3) sc_are_states.nd rfl (Or.inl rfl)) pgs_nil)))) (fun _ _ _ _ _ => pts_nil) (fun _ _ _ _ _ => (pv 3))) pa_nil))))))), ?_⟩
    have lts := hS.lt
    have p0 := hO.pos
    have p8 := hO.few
    refine ⟨_, rfl, _, _, true, rfl, .ty (tyT hS.tup) (by decide +kernel), _, rfl, iteF ?_⟩
    refine ⟨_, rfl, T, _, rfl, .inr hS.tup, _, _, rfl, rfl, _, rfl, ?_⟩
    rw [decide_eq_true (show (1 : Int) ≤ ((ts.map V.ref).length : Nat) by rw [List.length_map]; omega)]
    refine iteT ⟨_, _, rfl, rfl, _, rfl, ?_⟩
    rw [decide_eq_true (show (((ts.map V.ref).length : Nat) : Int) ≤ 8 by rw [List.length_map]; omega)]
    refine iteF ?_
    refine ⟨_, rfl, T, rfl, ⟨_, hS.tup⟩, fun D hD => lc_tplE hS.tup hD (by rw [List.length_map]; omega) (fun _ => true) (fun _ => .bl true) (fun x _ => rfl) (fun x _ H2 e2 Q q => q _ (Same.refl _)) (fun x hx _ H2 e2 Q q => ?_) (fun H2 e2 u2 => ?_)⟩
    · obtain ⟨t, ht, rfl⟩ := List.mem_map.mp hx
      obtain ⟨i, hi⟩ := List.getElem?_of_mem ht
      have il : i < ms.length := by have := (List.getElem?_eq_some_iff.mp hi).1; omega
      have hS2 := hS.same e2
      have dl : i < ds.length := by rw [hS.dc.1]; exact il
      have li : i < ls.length := by rw [hS.ll]; exact il
      have h1 := List.getElem?_eq_getElem dl
      have h2 := List.getElem?_eq_getElem li
      have h3 := List.getElem?_eq_getElem il
      refine ⟨_, rfl, _, rfl, T, _, rfl, .inr hS2.tup, t, ds[i], ms[i], ls[i], ms.length, ?_, hS2.pr i t _ _ hi h1 h2, hS2.dc.2 i _ _ h1 h3, hO.mv _ (List.getElem_mem il), by omega, fun H3 e3 => q _ e3⟩
      rw [List.length_map, lts]
      rfl
    · refine ⟨D, List.replicate ts.length true, rfl, .inl (.inl ?_), ?_⟩
      · rw [u2, filter_all, List.map_replicate]
        exact congrArg (fun l => some (HO.lst l)) (rep_bl _ (by simp))
      · rw [show (List.replicate ts.length true).all id = true by simp]
        refine ⟨_, rfl, iteF ?_⟩
        have hS2 := hS.same e2
        obtain ⟨pl, pp⟩ := hS2.pairs
        refine ⟨_, rfl, T, rfl, ⟨_, hS2.tup⟩, fun D3 hD3 => lc_pairs ts (pairsOf ds ls) pl hS2.tup (by omega) hD3 pp (fun p _ => rfl) (fun k v _ => ∃ d, ds[k]? = some d ∧ v = .ref d) (fun _ _ _ _ _ r => r) (fun i p hp H4 e4 _ Q q => ?_) (fun H4 outs e4 u4 l4 r4 => ?_)⟩
        · obtain ⟨d, l, h1, h2, rfl⟩ := pairsOf_get hp
          exact ⟨_, rfl, q _ _ (Same.refl _) ⟨d, h1, rfl⟩⟩
        · have eo : outs = ds.map V.ref := by
            refine List.ext_getElem? fun k => ?_
            rw [List.getElem?_map]
            cases h : outs[k]? with
            | none =>
              have : outs.length ≤ k := List.getElem?_eq_none_iff.mp h
              have : ds.length ≤ k := by have := hS.dc.1; omega
              rw [List.getElem?_eq_none this]; rfl
            | some v =>
              obtain ⟨d, h1, rfl⟩ := r4 k v h
              rw [h1]; rfl
          subst eo
          have hS4 := hS2.same e4
          obtain ⟨pl, pp⟩ := hS4.pairs
          refine ⟨_, rfl, T, rfl, ⟨_, hS4.tup⟩, fun D5 hD5 => lc_pairs ts (pairsOf ds ls) pl hS4.tup (by omega) hD5 pp (fun p _ => rfl) (fun k v _ => ∃ l, ls[k]? = some l ∧ v = .bl l) (fun _ _ _ _ _ r => r) (fun i p hp H5 e5 _ Q q => ?_) (fun H5 outs e5 u5 l5 r5 => ?_)⟩
          · obtain ⟨d, l, h1, h2, rfl⟩ := pairsOf_get hp
            exact ⟨_, rfl, q _ _ (Same.refl _) ⟨l, h2, rfl⟩⟩
          · have eo : outs = ls.map V.bl := by
              refine List.ext_getElem? fun k => ?_
              rw [List.getElem?_map]
              cases h : outs[k]? with
              | none =>
                have : outs.length ≤ k := List.getElem?_eq_none_iff.mp h
                have : ls.length ≤ k := by have := hS.ll; omega
                rw [List.getElem?_eq_none this]; rfl
              | some v =>
                obtain ⟨d, h1, rfl⟩ := r5 k v h
                rw [h1]; rfl
            subst eo
            exact ⟨D3, D5, ds, ms, ls, rfl, ⟨SqL.of (e5 _ _ u4), (hS4.same e5).dc⟩, hnd, SqL.of u5, hS.ll, p0, by omega, fun m hm => (hO.mv m hm).len, hO.tree, hO.use, fun H6 e6 => hQ _ (((e2.trans e4).trans e5).trans e6)⟩
/-! ### in_order -/
theorem valV_mem {m : Mv} {z : Str} (h : z ∈ m.map (·.1)) : ∃ i : Nat, valV (mvK m) (.inr z) = some (.int (i : Int)) := by
  induction m with
  | nil => cases h
  | cons q m ih =>
    by_cases e : q.1 = z
    · exact ⟨q.2, valV_pos (p := ((.inr q.1 : Key), V.int (q.2 : Int))) (by rw [e])⟩
    · have h' : z ∈ m.map (·.1) := by
        rcases List.mem_cons.mp h with h | h
        · exact absurd h.symm e
        · exact h
      obtain ⟨i, hi⟩ := ih h'
      exact ⟨i, (valV_neg (p := ((.inr q.1 : Key), V.int (q.2 : Int))) fun z' => e (Sum.inr.inj z')).trans hi⟩
def spInOrder : Sp := fun vs H Q _ => ∃ d m, vs = [.ref d] ∧ H d = some (.dK (mvK m)) ∧ m.length ≤ 5 ∧ ∀ q H' kvs, H q = none → Same H H' → H' q = some (.dK kvs) → Q (.ref q) H'
abbrev N_in_order : List Str := ["moves", "sign"]
theorem sc_in_order : FnScope N_in_order ["moves"] (defScope (top 50)) := ⟨rfl, rfl, rfl, by decide +kernel, rfl, by decide +kernel, by decide +kernel⟩
theorem c_in_order (A : At K mg "in_order" (top 50)) (B : Blt mg) : Cal P w K mg base 1 "in_order" spInOrder := by
  refine cal_of A sc_in_order (fun _ _ _ _ _ _ us hl => match us, hl with | [_], _ => rfl) (fun vs H Q E h => ?_) (fun _ cdv A outer s H vs Q E hr h => ?_)
  · obtain ⟨_, _, rfl, _⟩ := h; rfl
  · obtain ⟨d, m, rfl, hd, h5, hQ⟩ := h
    refine ⟨_, pss_one (ps_ret (pe_dc (own := [("sign", 1)]) (g := gName 1) (tt := tYes) rfl sc_in_order.nd (pi_list (pe_callB (call_sortedD rfl) (by rfl) B.sorted (by decide +kernel) (pa_cons (pv 0) pa_nil)))
        (blkOk_by (own := [("sign", 1)]) (N := N_in_order) (sc := defScope (top 50)) (by decide +kernel)) (fun _ _ _ _ _ => (pg_name (i := 1) sc_in_order.nd rfl (Or.inl rfl))) (fun _ _ _ _ _ => pts_nil) (fun _ _ _ _ _ => pv 1) (fun _ _ _ _ _ => pe_dget (hu_of hr) (pv 0) (pv 1) (fun _ _ => rfl)))), ?_⟩
    refine ⟨_, rfl, d, mvK m, m.map (·.1), rfl, .inl hd, by simp [mvK], by rw [List.length_map]; omega, fun ys p hys _ hp => ?_⟩
    have hyl : ys.length ≤ 5 := by rw [hys.length_eq, List.length_map]; exact h5
    obtain ⟨s1, u1⟩ := laid (.lst (ys.map V.str)) hp
    generalize upd H p (.lst (ys.map V.str)) = H1 at s1 u1 ⊢
    refine ⟨p, rfl, ⟨_, SqL.of u1⟩, fun D hD => ?_⟩
    refine dc_it walk_list (fun i H' => Same H1 H' ∧ ∃ kvs, H' D = some (.dK kvs) ∧ kvs.length ≤ i) ⟨same_new hD, _, upd_same, Nat.le_refl _⟩ (fun i H' _ e => Same.seq e.1 (SqL.of u1)) (fun i y H' H2 hi e hy => ?_) (fun H2 e => ?_)
    · obtain ⟨rfl, hy⟩ := hy
      obtain ⟨e3, kvs, hk, hl⟩ := e
      obtain ⟨z, hz, rfl⟩ := List.mem_map.mp (List.mem_of_getElem? hy)
      obtain ⟨n, hn⟩ := valV_mem (hys.mem_iff.mp hz)
      refine ⟨rfl, yes_q (iteT ⟨_, rfl, _, rfl, _, rfl, d, .int n, rfl, .inl ⟨mvK m, .inr z, .inl (e3 _ _ (s1 _ _ hd)), rfl, hn.symm⟩, kvs, .inr z, rfl, hk, ?_, fun b o q => ?_, _, upd_same, ?_⟩)⟩
      · have : 100000 < sizeLine := by decide
        rw [List.length_map] at hi
        omega
      · rw [upd_ne (ne_of_none q hD)]; exact e3 _ _ q
      · have := putK_le kvs (.inr z) (.int n)
        omega
    · obtain ⟨e3, kvs, hk, hl⟩ := e
      exact hQ D H2 kvs (s1.free hD) (s1.trans e3) hk
end
end MN
/-! the class Form: its maker, its length; what is required of forms -/
namespace MN
open PySem PySem.Spec PyProof.Rows L2
section
variable {P : Program} {w : World} {K : PySem.W.Frag} {mg : Str → Option Value} {base : Heap} {C p0 p1 : Addr} {i0 i1 : Nat}
structure FormC (K : PySem.W.Frag) (C p0 p1 : Addr) (i0 i1 : Nat) : Prop where
  sc : SlX.SCls K C
  si : SlX.SIsi K C
  s0 : SlX.Slot1 K C "own_moves" p0 i0
  s1 : SlX.Slot1 K C "own_lasts" p1 i1
  ne : i0 ≠ i1
  isF : PySem.W.kitOne K (.ref C) (.ref C) = some true
  ini : ∃ f fd, Mk K C f ∧ FunAt K "__init__" "Form.__init__" (inClass (top 51) 1) [] f fd
  len : ∃ g fd, PySem.W.findIn K (.ref C) "__len__" = some (some (.ref g)) ∧ PySem.W.isFn K (.ref g) = true ∧ FunAt K "__len__" "Form.__len__" (inClass (top 51) 24) [] g fd
/-- a form: n states, which of them are last -/
structure FormAt (K : PySem.W.Frag) (C : Addr) (i0 i1 : Nat) (H : Hp) (x dx M L : Addr) (n : Nat) (ls : List Bool) : Prop where
  ex : ∃ ws, SlX.Slt H x C dx ws ∧ ws[i0]? = some (some (.ref M)) ∧ ws[i1]? = some (some (.ref L))
  mv : ∃ xs, SqL K H M xs ∧ xs.length = n
  la : SqL K H L (ls.map V.bl)
  ll : ls.length = n
theorem FormAt.same {H H' : Hp} {x dx M L : Addr} {n : Nat} {ls : List Bool} (h : FormAt K C i0 i1 H x dx M L n ls) (e : Same H H') : FormAt K C i0 i1 H' x dx M L n ls := by
  obtain ⟨⟨ws, h1, h2, h3⟩, ⟨xs, h4, h5⟩, h6, h7⟩ := h
  exact ⟨⟨ws, slt_same e h1, h2, h3⟩, ⟨xs, Same.seq e h4, h5⟩, Same.seq e h6, h7⟩
/-! ### what is apart from a new instance -/
theorem kp_seqT {x dx : Addr} {H H' : Hp} {t : Addr} {xs : List V} (k : Kp x dx H H') (hx : H x = some (.ins C dx [])) (hd : H dx = some (.own x)) (h : SqT K H t xs) : SqT K H' t xs := by
  rcases h with (h | ⟨o, h⟩) | h
  · exact .inl (.inl (k _ _ (fun e => by rw [e, hx] at h; cases h) (fun e => by rw [e, hd] at h; cases h) h))
  · exact .inl (.inr ⟨o, k _ _ (fun e => by rw [e, hx] at h; cases h) (fun e => by rw [e, hd] at h; cases h) h⟩)
  · exact .inr h
theorem kp_sts {x dx : Addr} {H H' : Hp} {T : Addr} {ts ds : List Addr} {ms : List Mv} {ls : List Bool} (k : Kp x dx H H') (hx : H x = some (.ins C dx [])) (hd : H dx = some (.own x)) (h : StsAt K H T ts ds ms ls) : StsAt K H' T ts ds ms ls := by
  refine ⟨kp_seqT k hx hd h.tup, h.lt, h.ll, ⟨h.dc.1, fun i d m h1 h2 => ?_⟩, fun i t d l h1 h2 h3 => kp_seqT k hx hd (h.pr i t d l h1 h2 h3)⟩
  have q := h.dc.2 i d m h1 h2
  exact k _ _ (fun e => by rw [e, hx] at q; cases q) (fun e => by rw [e, hd] at q; cases q) q
/-! ### Form.__init__ -/
def spFormInit (K : PySem.W.Frag) (C : Addr) (i0 i1 : Nat) : Sp := fun vs H Q _ => ∃ x dx T ts ds ms ls, vs = [.ref x, .ref T] ∧ H x = some (.ins C dx []) ∧ H dx = some (.own x) ∧ dx ≠ x ∧ StsAt K H T ts ds ms ls ∧ ds.Nodup ∧ StsOk ms ls ∧
  ∀ H' M L, Kp x dx H H' → H M = none → H L = none → FormAt K C i0 i1 H' x dx M L ms.length ls → Q .non H'
abbrev N_finit : List Str := ["self", "states", "moves", "last"]
theorem sc_finit : FnScope N_finit ["self", "states"] (defScope (inClass (top 51) 1)) := ⟨rfl, rfl, rfl, by decide +kernel, rfl, by decide +kernel, by decide +kernel⟩
theorem f_finit {f : Addr} {fd : FuncData} (FC : FormC K C p0 p1 i0 i1) (F : FunAt K "__init__" "Form.__init__" (inClass (top 51) 1) [] f fd) (B : Blt mg) (c_are_states : Cal P w K mg base 3 "are_states" (spAreStates K)) (c_in_order : Cal P w K mg base 1 "in_order" spInOrder) : FnOk P w K mg base CX0 4 f fd ["self", "states"] (spFormInit K C i0 i1) := by
  refine fnok_of F sc_finit (fun vs H Q E h => ?_) (fun cdv A outer s H vs Q E hr h => ?_)
  · obtain ⟨x, dx, T, ts, ds, ms, ls, rfl, _⟩ := h; rfl
  · obtain ⟨x, dx, T, ts, ds, ms, ls, rfl, hx, hdx, dxx, hS, hnd, hO, hQ⟩ := h
    refine ⟨_, pss_cons (ps_if (pt_not (pt_val (pe_c c_are_states hr (by decide) (by rfl) (pa_cons (pv 1) pa_nil)))) (pss_one ps_never) pss_nil)
      (pss_cons (SlX.ps_sl (pv 0) (pe_lc (own := [("moves", 2), ("last", 3)]) (tt := tYes) (by rfl) sc_finit.nd (pi_tup (pv 1)) (blkOk_by (own := [("moves", 2), ("last", 3)]) (N := N_finit) (sc := defScope (inClass (top 51) 1)) (by decide +kernel)) (fun _ _ _ _ _ => (pg_tupK (K := K) (n := 2) rfl rfl (pgs_cons (pg_name (i := 2) sc_finit.nd rfl (Or.inl rfl)) (pgs_cons (pg_name (i := 3) sc_finit.nd rfl (Or.inl rfl)) pgs_nil)))) (fun _ _ _ _ _ => pts_nil) (fun _ _ _ _ _ => (pe_c c_in_order hr (by decide) (by rfl) (pa_cons (pv 2) pa_nil)))))
      (pss_one (SlX.ps_sl (pv 0) (pe_lc (own := [("moves", 2), ("last", 3)]) (tt := tYes) (by rfl) sc_finit.nd (pi_tup (pv 1)) (blkOk_by (own := [("moves", 2), ("last", 3)]) (N := N_finit) (sc := defScope (inClass (top 51) 1)) (by decide +kernel)) (fun _ _ _ _ _ => (pg_tupK (K := K) (n := 2) rfl rfl (pgs_cons (pg_name (i := 2) sc_finit.nd rfl (Or.inl rfl)) (pgs_cons (pg_name (i := 3) sc_finit.nd rfl (Or.inl rfl)) pgs_nil)))) (fun _ _ _ _ _ => pts_nil) (fun _ _ _ _ _ => (pv 3)))))), ?_⟩
    refine ⟨_, rfl, T, ts, ds, ms, ls, rfl, hS, hnd, hO, fun H1 e1 => ⟨_, rfl, iteF ?_⟩⟩
    have p8 := hO.few
    have lts := hS.lt
    have hS1 := hS.same e1
    obtain ⟨pl, pp⟩ := hS1.pairs
    refine ⟨_, rfl, T, rfl, ⟨_, hS1.tup⟩, fun D hD => lc_pairs ts (pairsOf ds ls) pl hS1.tup (by omega) hD pp (fun p _ => rfl) (fun k v _ => True) (fun _ _ _ _ _ r => r) (fun i p hp H2 e2 _ Q q => ?_) (fun H2 outs e2 u2 l2 _ => ?_)⟩
    · obtain ⟨d, l, h1, h2, rfl⟩ := pairsOf_get hp
      have il : i < ms.length := by rw [← hS.dc.1]; exact (List.getElem?_eq_some_iff.mp h1).1
      have h3 := List.getElem?_eq_getElem il
      exact ⟨_, rfl, d, ms[i], rfl, e2 _ _ (hS1.dc.2 i _ _ h1 h3), (hO.mv _ (List.getElem_mem il)).len, fun q1 H3 kvs _ e3 _ => q _ _ e3 trivial⟩
    · have hx2 := e2 _ _ (e1 _ _ hx)
      have hd2 := e2 _ _ (e1 _ _ hdx)
      refine ⟨_, rfl, x, C, dx, p0, [], i0, rfl, .inl ⟨hx2, rfl⟩, FC.sc, FC.s0, ?_⟩
      have k2 : Kp x dx H H2 := fun b o _ _ q => e2 _ _ (e1 _ _ q)
      have k23 : Kp x dx H2 (SlX.slH H2 x C dx (SlX.putS i0 (.ref D) [])) := Kp.sl fun b o _ _ q => q
      have k3 : Kp x dx H (SlX.slH H2 x C dx (SlX.putS i0 (.ref D) [])) := k2.sl
      have z3 : SlX.Slt (SlX.slH H2 x C dx (SlX.putS i0 (.ref D) [])) x C dx (SlX.putS i0 (.ref D) []) := SlX.slH_slt dxx
      have Dx : D ≠ x := fun z => by rw [z, e1 _ _ hx] at hD; cases hD
      have Dd : D ≠ dx := fun z => by rw [z, e1 _ _ hdx] at hD; cases hD
      have u3 := k23 _ _ Dx Dd u2
      have hS3 : StsAt K _ T ts ds ms ls := kp_sts k23 hx2 hd2 (hS1.same e2)
      generalize SlX.slH H2 x C dx (SlX.putS i0 (.ref D) []) = H3 at *
      obtain ⟨pl, pp⟩ := hS3.pairs
      refine ⟨_, rfl, T, rfl, ⟨_, hS3.tup⟩, fun D5 hD5 => lc_pairs ts (pairsOf ds ls) pl hS3.tup (by omega) hD5 pp (fun p _ => rfl) (fun k v _ => ∃ l, ls[k]? = some l ∧ v = .bl l) (fun _ _ _ _ _ r => r) (fun i p hp H5 e5 _ Q q => ?_) (fun H5 outs5 e5 u5 l5 r5 => ?_)⟩
      · obtain ⟨d, l, h1, h2, rfl⟩ := pairsOf_get hp
        exact ⟨_, rfl, q _ _ (Same.refl _) ⟨l, h2, rfl⟩⟩
      · have eo : outs5 = ls.map V.bl := by
          refine List.ext_getElem? fun k => ?_
          rw [List.getElem?_map]
          cases h : outs5[k]? with
          | none =>
            have : outs5.length ≤ k := List.getElem?_eq_none_iff.mp h
            have : ls.length ≤ k := by have := hS.ll; omega
            rw [List.getElem?_eq_none this]; rfl
          | some v =>
            obtain ⟨d, h1, rfl⟩ := r5 k v h
            rw [h1]; rfl
        subst eo
        have z5 := slt_same e5 z3
        have xi : ∃ o, H3 x = some o := by
          rcases z3 with ⟨h, _⟩ | ⟨h, _⟩ <;> exact ⟨_, h⟩
        have di : ∃ o, H3 dx = some o := by
          rcases z3 with ⟨h, h'⟩ | ⟨_, h⟩
          · have := SlX.putS_get i0 (.ref D) []
            rw [h'] at this
            simp at this
          · exact ⟨_, h⟩
        obtain ⟨ox, hox⟩ := xi
        obtain ⟨od, hod⟩ := di
        have D5x : D5 ≠ x := fun z => by rw [z, hox] at hD5; cases hD5
        have D5d : D5 ≠ dx := fun z => by rw [z, hod] at hD5; cases hD5
        refine ⟨_, rfl, x, C, dx, p1, _, i1, rfl, z5, FC.sc, FC.s1, ?_⟩
        have k5 : Kp x dx H (SlX.slH H5 x C dx (SlX.putS i1 (.ref D5) (SlX.putS i0 (.ref D) []))) := (k3.same e5).sl
        have k56 : Kp x dx H5 (SlX.slH H5 x C dx (SlX.putS i1 (.ref D5) (SlX.putS i0 (.ref D) []))) := Kp.sl fun b o _ _ q => q
        refine hQ _ D D5 k5 (e1.free hD) ?_ ⟨⟨_, SlX.slH_slt dxx, (SlX.putS_ne FC.ne).mpr (SlX.putS_get ..), SlX.putS_get ..⟩, ⟨outs, SqL.of (k56 _ _ Dx Dd (e5 _ _ u3)), ?_⟩, SqL.of (k56 _ _ D5x D5d u5), hS.ll⟩
        · cases e : H D5 with
          | none => rfl
          | some o =>
            have := k3 _ _ D5x D5d e
            rw [hD5] at this
            cases this
        · rw [l2, ← pl, lts]
/-! ### Form.__len__ -/
def spFormLen (K : PySem.W.Frag) (C : Addr) (i0 i1 : Nat) : Sp := fun vs H Q _ => ∃ x dx M L n ls, vs = [.ref x] ∧ FormAt K C i0 i1 H x dx M L n ls ∧ Q (.int (n : Nat)) H
abbrev N_flen : List Str := ["self"]
theorem sc_flen : FnScope N_flen ["self"] (defScope (inClass (top 51) 24)) := ⟨rfl, rfl, rfl, by decide +kernel, rfl, by decide +kernel, by decide +kernel⟩
theorem f_flen {f : Addr} {fd : FuncData} (FC : FormC K C p0 p1 i0 i1) (F : FunAt K "__len__" "Form.__len__" (inClass (top 51) 24) [] f fd) (B : Blt mg) : FnOk P w K mg base CX0 1 f fd ["self"] (spFormLen K C i0 i1) := by
  refine fnok_of F sc_flen (fun vs H Q E h => ?_) (fun cdv A outer s H vs Q E hr h => ?_)
  · obtain ⟨_, _, _, _, _, _, rfl, _⟩ := h; rfl
  · obtain ⟨x, dx, M, L, n, ls, rfl, ⟨⟨ws, h1, h2, h3⟩, ⟨xs, h4, rfl⟩, h6, h7⟩, hQ⟩ := h
    refine ⟨_, pss_one (ps_ret (pe_callB call_len_seq (by rfl) B.len (by decide +kernel) (pa_cons (SlX.pe_sl (pv 0)) pa_nil))), ?_⟩
    exact ⟨_, rfl, x, C, dx, p0, ws, i0, _, rfl, h1, FC.sc, FC.s0, h2, M, xs, rfl, .inl h4, hQ⟩
theorem r_flen (FC : FormC K C p0 p1 i0 i1) (B : Blt mg) : ∃ g, PySem.W.findIn K (.ref C) "__len__" = some (some (.ref g)) ∧ PySem.W.isFn K (.ref g) = true ∧ FnR P w K mg base CX0 1 g (fun vs H Q E => spFormLen K C i0 i1 (vs ++ []) H Q E) := by
  obtain ⟨g, fd, h1, h2, F⟩ := FC.len
  have b := FunD.bindsN (ps := ["self"]) F fun _ _ _ _ _ _ us hl => match us, hl with | [_], _ => rfl
  exact ⟨g, h1, h2, (f_flen FC F B).raw b .nil⟩
/-! ### require_form, require_small -/
def spReqForm (K : PySem.W.Frag) (C : Addr) (i0 i1 : Nat) : Sp := fun vs H Q _ => ∃ x dx M L n ls, vs = [.ref x] ∧ FormAt K C i0 i1 H x dx M L n ls ∧ n ≤ 6 ∧ Q .non H
theorem sc_require_form : FnScope ["value"] ["value"] (defScope (top 53)) := ⟨rfl, rfl, rfl, by decide +kernel, rfl, by decide +kernel, by decide +kernel⟩
theorem c_require_form (A : At K mg "require_form" (top 53)) (B : Blt mg) (FC : FormC K C p0 p1 i0 i1) (GF : GlC mg "Form" (.ref C)) : Cal P w K mg base 1 "require_form" (spReqForm K C i0 i1) := by
  refine cal_of A sc_require_form (fun _ _ _ _ _ _ us hl => match us, hl with | [_], _ => rfl) (fun vs H Q E h => ?_) (fun _ cdv A outer s H vs Q E hr h => ?_)
  · obtain ⟨_, _, _, _, _, _, rfl, _⟩ := h; rfl
  · obtain ⟨x, dx, M, L, n, ls, rfl, ⟨⟨ws, h1, h2, h3⟩, _⟩, _, hQ⟩ := h
    refine ⟨_, pss_one (ps_if (pt_not (pt_val (pe_callB (SlX.call_isiSl (.ref C)) (by rfl) B.isinstance (by decide +kernel) (pa_cons (pv 0) (pa_cons (pe_gl (by rfl) GF) pa_nil))))) (pss_one ps_never) pss_nil), ?_⟩
    exact ⟨_, rfl, x, C, dx, ws, _, true, rfl, rfl, fun w e => e, h1, FC.sc, FC.si, FC.isF, _, rfl, iteF hQ⟩
theorem sc_require_small : FnScope ["form"] ["form"] (defScope (top 65)) := ⟨rfl, rfl, rfl, by decide +kernel, rfl, by decide +kernel, by decide +kernel⟩
theorem c_require_small (A : At K mg "require_small" (top 65)) (B : Blt mg) (FC : FormC K C p0 p1 i0 i1) (G6 : GlC mg "MAX_SIDE" (.int 6)) : Cal P w K mg base 3 "require_small" (spReqForm K C i0 i1) := by
  refine cal_of A sc_require_small (fun _ _ _ _ _ _ us hl => match us, hl with | [_], _ => rfl) (fun vs H Q E h => ?_) (fun _ cdv A outer s H vs Q E hr h => ?_)
  · obtain ⟨_, _, _, _, _, _, rfl, _⟩ := h; rfl
  · obtain ⟨x, dx, M, L, n, ls, rfl, hF, h6, hQ⟩ := h
    obtain ⟨g, l1, l2, l3⟩ := r_flen (P := P) (w := w) (mg := mg) (base := base) FC B
    refine ⟨_, pss_one (ps_if (pt_cmpR op_gt (pe_callB (call_lenOwn l1 l2 l3 hr pass0) (by rfl) B.len (by decide +kernel) (pa_cons (pv 0) pa_nil)) (pe_gl (by rfl) G6) (nomark _)) (pss_one ps_never) pss_nil), ?_⟩
    have hF0 := hF
    obtain ⟨⟨ws, h1, h2, h3⟩, _⟩ := hF
    refine ⟨_, rfl, x, dx, ws, rfl, h1, x, dx, M, L, n, ls, rfl, hF0, n, rfl, by omega, by omega, _, _, rfl, rfl, _, rfl, ?_⟩
    rw [decide_eq_false (show ¬ ((n : Nat) : Int) > 6 by omega)]
    exact iteF hQ
end
end MN
/-! zip of two sequences, each of them a list or a tuple -/
namespace MN
open PySem PySem.Spec PyProof.Rows L2
def KIt : Bool → Heap → Addr → Addr → Nat → Prop
  | true, h, it, a, i => h.IsTupleIter it a i
  | false, h, it, a, i => h.IsListIter it a i
def KSq : Bool → Heap → Addr → Array Value → Prop
  | true, h, a, xs => h.IsTuple a xs
  | false, h, a, xs => h.IsList a xs
def SqK (K : PySem.W.Frag) : Bool → Hp → Addr → List V → Prop
  | true, H, a, xs => SqT K H a xs
  | false, H, a, xs => SqL K H a xs
def itObj : Bool → Addr → Obj
  | true, a => ⟨.type "tuple_iterator", none, .fields #[.ref a, .int 0 0], #[]⟩
  | false, a => ⟨.type "list_iterator", none, .fields #[.ref a, .int 0 0], #[]⟩
theorem drawsK {prog : Program} {w : World} {A : Around} (hh : A.handled = none) (b : Bool) (it a : Addr) (hne : a ≠ it) (items : Array Value) :
    Draws prog w A it [it, a] items.size (fun i v => items[i]? = some v) (fun i h => KIt b h it a i ∧ KSq b h a items) := by
  cases b with
  | false => exact Draws.list hh it a hne items
  | true => exact Draws.tuple hh it a hne items
theorem beginsK (b : Bool) (a : Addr) (items : Array Value) : Begins (.ref a) (itObj b a) fun h => KSq b h a items := by
  cases b with
  | false => exact begins_list a items
  | true => exact begins_tuple a items
section
variable {b : Bool} {h h' : Heap} {it a : Addr} {i : Nat} {xs : Array Value}
theorem KIt.obj (x : KIt b h it a i) : ∃ o, h.get? it = some o ∧ ∀ v, o.data ≠ .cell v := by
  cases b <;> (obtain ⟨o, e, _, d⟩ := x; exact ⟨o, e, fun v q => by rw [d] at q; cases q⟩)
theorem KIt.keep (x : KIt b h it a i) (k : ∀ o, h.get? it = some o → h'.get? it = some o) : KIt b h' it a i := by
  cases b <;> (obtain ⟨o, e, r⟩ := x; exact ⟨o, k _ e, r⟩)
theorem KIt.of (e : h.get? it = some (itObj b a)) : KIt b h it a 0 := by
  cases b <;> exact ⟨_, e, rfl, rfl⟩
theorem KSq.lt (x : KSq b h a xs) : a < h.objs.size := by
  cases b <;> (obtain ⟨o, e, _⟩ := x; exact Heap.lt_size e)
end
section
variable {X : Cx} {pins : List (Addr × Obj)} {σ : L2.St} {H : Hp} {s : Shared}
theorem seqK {b : Bool} {a : Addr} {xs : List V} (I : Inv X pins σ H s) (h : SqK X.K b H a xs) : ∃ its : List Value, Vals xs its ∧ KSq b s.heap a its.toArray := by
  cases b with
  | false =>
    obtain ⟨its, r, p, _⟩ := I.list h
    exact ⟨its, r, p.isList⟩
  | true =>
    obtain ⟨its, r, p, _⟩ := I.tuple h
    exact ⟨its, r, p⟩
theorem SqK.same {K : PySem.W.Frag} {H H' : Hp} {b : Bool} {a : Addr} {xs : List V} (e : Same H H') (h : SqK K b H a xs) : SqK K b H' a xs := by
  cases b with
  | false => exact Same.seq e h
  | true => exact Same.seqT e h
end
def ItzM (K : PySem.W.Frag) (ba bb : Bool) (a b : Addr) (xs ys : List V) : It :=
  ⟨fun i H => SqK K ba H a xs ∧ SqK K bb H b ys ∧ i < xs.length ∧ i < ys.length,
   YPair (fun i => xs[i]?) (fun i => ys[i]?),
   fun i H => SqK K ba H a xs ∧ SqK K bb H b ys ∧ i = min xs.length ys.length⟩
theorem turn_zipM {P : Program} {w : World} {K : PySem.W.Frag} {elts : List Expr} {kk : Nat} {tpos : Pos} {ba bb : Bool} {a b z TI TO i1 i2 : Addr} {xs ys : List V} (D : ZipSep2 z TI TO i1 i2 [i1, a] [i2, b]) (ha : a ≠ i1) (hb : b ≠ i2) :
    Turn P w K (.Tuple elts kk tpos) (ItzM K ba bb a b xs ys) [z, TI, TO, i1, i2] z (fun i h => IsZip h z TI TO .none ∧ IsTupOf2 h TI (.ref i1) (.ref i2) ∧ (∃ x y, IsTupOf2 h TO x y) ∧ KIt ba h i1 a i ∧ KIt bb h i2 b i) := by
  have obj : ∀ (i : Nat) (h : Heap), (IsZip h z TI TO .none ∧ IsTupOf2 h TI (.ref i1) (.ref i2) ∧ (∃ x y, IsTupOf2 h TO x y) ∧ KIt ba h i1 a i ∧ KIt bb h i2 b i) → ∀ c ∈ [z, TI, TO, i1, i2], ∃ o, h.get? c = some o ∧ ∀ v, o.data ≠ .cell v := fun i h st c hc => by
    obtain ⟨hz, hTI, ⟨x, y, hTO⟩, k1, k2⟩ := st
    simp only [List.mem_cons, List.not_mem_nil, or_false] at hc
    rcases hc with rfl | rfl | rfl | rfl | rfl
    · exact ⟨_, hz, nofun⟩
    · exact ⟨_, hTI, nofun⟩
    · exact ⟨_, hTO, nofun⟩
    · exact k1.obj
    · exact k2.obj
  refine ⟨by simp, obj, fun i h h' st k => ?_, ?_, ?_, fun A i s Q E st h => wpAny_pyIter_zip st.1 h⟩
  · obtain ⟨hz, hTI, ⟨x, y, hTO⟩, k1, k2⟩ := st
    exact ⟨k z (by simp) _ hz, k TI (by simp) _ hTI, ⟨x, y, k TO (by simp) _ hTO⟩, k1.keep (k i1 (by simp)), k2.keep (k i2 (by simp))⟩
  · intro X hP hw hK hc i pins s σ H E I hf st hg
    subst hP hw hK
    have st0 := st
    obtain ⟨hz, hTI, hTO, k1, k2⟩ := st
    obtain ⟨qx, qy, hx, hy⟩ := hg
    obtain ⟨its, rv, p1⟩ := seqK I qx
    obtain ⟨its2, rv2, p2⟩ := seqK I qy
    obtain ⟨u0, hu0, ru⟩ := rv.get (List.getElem?_eq_getElem hx)
    obtain ⟨w0, hw0, rw0⟩ := rv2.get (List.getElem?_eq_getElem hy)
    have l1 := rv.length
    have l2 := rv2.length
    refine (GoesN.zip2 (elts := elts) (x1 := kk) (pos := tpos) D (drawsK (A := X.A.in1) (I.ok.hd hc) ba i1 a ha its.toArray) (drawsK (A := X.A.in1) (I.ok.hd hc) bb i2 b hb its2.toArray)).goes i s _ E (by simp; omega) ⟨hz, hTI, hTO, ⟨k1, p1⟩, ⟨k2, p2⟩⟩ fun v h' tk y st' hk _ => ?_
    obtain ⟨T, u, u2, rfl, hT, hu, hu2, ht⟩ := y
    obtain ⟨hz', hTI', hTO', ⟨k1', _⟩, ⟨k2', _⟩⟩ := st'
    obtain rfl : u0 = u := by simpa [hu0] using hu
    obtain rfl : w0 = u2 := by simpa [hw0] using hu2
    refine ⟨.ref T, upd H T (.tup [xs[i], ys[i]]), I.turnedNew (t' := tk) (ch := [z, TI, TO, i1, i2]) (fun c o hb q => hk c o (fun m => hb ?_) q) hf hT ⟨by show 2 ≤ sizeLine; decide, [u0, w0], .cons ru (.cons rw0 .nil), ht⟩, rfl,
      ⟨T, _, _, rfl, I.hok.fresh hT, rfl, List.getElem?_eq_getElem hx, List.getElem?_eq_getElem hy⟩, ⟨hz', hTI', hTO', k1', k2'⟩, fun c hcm => ?_⟩
    · simp only [List.mem_cons, List.not_mem_nil, or_false] at m ⊢
      rcases m with m | m | m | m
      · exact .inl m
      · exact .inr (.inr (.inl m))
      · exact .inr (.inr (.inr (.inl m)))
      · exact .inr (.inr (.inr (.inr m)))
    · obtain ⟨o, ho, _⟩ := obj i _ st0 c hcm
      have hlt : c < s.heap.objs.size := Heap.lt_size ho
      rw [upd_ne (Nat.ne_of_lt (Nat.lt_of_lt_of_le hlt hT))]
      exact (hf c hcm).1
  · intro X hP hw hK hc i pins s σ H E I hf st hg
    subst hP hw hK
    obtain ⟨hz, hTI, hTO, k1, k2⟩ := st
    obtain ⟨qx, qy, hi⟩ := hg
    obtain ⟨its, rv, p1⟩ := seqK I qx
    obtain ⟨its2, rv2, p2⟩ := seqK I qy
    have l1 := rv.length
    have l2 := rv2.length
    obtain rfl : i = min its.toArray.size its2.toArray.size := by simp; omega
    refine (GoesN.zip2 (elts := elts) (x1 := kk) (pos := tpos) D (drawsK (A := X.A.in1) (I.ok.hd hc) ba i1 a ha its.toArray) (drawsK (A := X.A.in1) (I.ok.hd hc) bb i2 b hb its2.toArray)).stops s _ E ⟨hz, hTI, hTO, ⟨k1, p1⟩, ⟨k2, p2⟩⟩ fun h' tk hk _ => ?_
    refine I.turnedL (t' := tk) (ch := [z, TI, TO, i1, i2]) (fun c o hb q => hk c o (fun m => hb ?_) q) hf
    simp only [List.mem_cons, List.not_mem_nil, or_false] at m ⊢
    rcases m with m | m | m | m
    · exact .inl m
    · exact .inr (.inr (.inl m))
    · exact .inr (.inr (.inr (.inl m)))
    · exact .inr (.inr (.inr (.inr m)))
def iZipM (K : PySem.W.Frag) (ba bb : Bool) (ta : TA) : TI := fun σ H R => ta σ H fun vs H1 => ∃ a b xs ys, vs = [.ref a, .ref b] ∧ SqK K ba H1 a xs ∧ SqK K bb H1 b ys ∧ R (ItzM K ba bb a b xs ys) H1
theorem pi_zipM {X : Cx} {e e2 : Expr} {ta : TA} {p pos tpos : Pos} {elts : List Expr} {kk : Nat} (ba bb : Bool) (hg : Gl X "zip") (hm : X.mg "zip" = none) (ha : PA X [e, e2] ta)
    (hs : starEach [e, e2] X.env = (false, eval e X.env) :: starEach [e2] X.env := by rfl) (hpl : (backTo pos (starEach [e2] X.env)).any (·.1) = false := by rfl) :
    PI X (.Tuple elts kk tpos) (.Call (.Name "zip" p) [e, e2] [] pos) (iZipM X.K ba bb ta) := by
  refine ⟨fun pins s σ H R I h => Call_ (ld_blt I hg hm PyProof.Rows.boot_zip (PyProof.Rows.callWith_type1 (thn (ha.run pos pins s σ H _ I h) fun us s1 ⟨vs, H1, I1, r1, q1⟩ => ?_) hs hpl))⟩
  obtain ⟨a, b, xs, ys, rfl, qx, qy, q⟩ := q1
  obtain ⟨u1, u2, rfl, r2, r3⟩ := vals2 r1
  cases r2
  cases r3
  obtain ⟨its, rv, p1⟩ := seqK I1 qx
  obtain ⟨its2, rv2, p2⟩ := seqK I1 qy
  have la := p1.lt
  have lb := p2.lt
  refine zip_begins2 (beginsK ba a its.toArray) (beginsK bb b its2.toArray) p1 p2 fun h' hz hTI hTO h1 h2 _ hk => wpAny_pyIter_zip hz ?_
  have I2 : Inv X pins σ H1 { s1 with heap := h' } := I1.kept (t' := s1.toks) hk
  refine ⟨s1.heap.objs.size + 4, [s1.heap.objs.size + 4, s1.heap.objs.size + 2, s1.heap.objs.size + 3, s1.heap.objs.size, s1.heap.objs.size + 1], _, _, H1, rfl, I2, turn_zipM (ba := ba) (bb := bb) (zip_sep2 (fp1 := [a]) (fp2 := [b]) ?_ ?_) ?_ ?_, ⟨hz, hTI, ⟨_, _, hTO⟩, KIt.of h1, KIt.of h2⟩, fun c hcm => ?_, q⟩
  · intro c hc; rw [List.mem_singleton.mp hc]; exact la
  · intro c hc; rw [List.mem_singleton.mp hc]; exact lb
  · exact Nat.ne_of_lt la
  · exact Nat.ne_of_lt (Nat.lt_succ_of_lt lb)
  · have hle : s1.heap.objs.size ≤ c := by
      simp only [List.mem_cons, List.not_mem_nil, or_false] at hcm
      rcases hcm with rfl | rfl | rfl | rfl | rfl
      all_goals first | exact Nat.le_refl _ | exact Nat.le_add_right _ _
    exact I1.fpOk hle (I1.hok.fresh hle)
theorem walk_zipM {K : PySem.W.Frag} {ba bb : Bool} {a b : Addr} {xs ys : List V} {n : Nat} (hn : n = min xs.length ys.length) : Walk (ItzM K ba bb a b xs ys) n (fun H => SqK K ba H a xs ∧ SqK K bb H b ys) (YPair (fun i => xs[i]?) (fun i => ys[i]?)) := by
  subst hn
  exact ⟨fun i _ hi q => ⟨q.1, q.2, by omega, by omega⟩, fun _ q => ⟨q.1, q.2, rfl⟩, fun i H v H' _ _ y => y⟩
end MN
/-! rows of numbers: is_plain_row, require_*, is_row, end_cost, cut_row, stands_above -/
namespace MN
open PySem PySem.Spec PyProof.Rows L2
theorem lc_zipM {K : PySem.W.Frag} {ba bb : Bool} {a b D : Addr} {xs ys : List V} {H1 : Hp} {σ : L2.St} {vs : List Nat} {tt : TT} {te : TE} {j1 j2 : Nat} {Qd : Hp → Prop} (hx : SqK K ba H1 a xs) (hy : SqK K bb H1 b ys) (hz : xs.length ≤ 1000) (hD : H1 D = none) (f : V × V → Bool) (v : V × V → V)
    (hw : ∀ p ∈ xs.zip ys, wipe (((wipe σ vs).set j1 (some p.1)).set j2 (some p.2)) vs = wipe σ vs)
    (ht : ∀ p ∈ xs.zip ys, ∀ H2, Same H1 H2 → ∀ (Q : Bool → Hp → Prop), Q (f p) H2 → tt (((wipe σ vs).set j1 (some p.1)).set j2 (some p.2)) H2 Q)
    (he : ∀ p ∈ xs.zip ys, f p = true → ∀ H2, Same H1 H2 → ∀ (Q : VK), (∀ H3, Same H2 H3 → Q (v p) H3) → te (((wipe σ vs).set j1 (some p.1)).set j2 (some p.2)) H2 Q)
    (hd : ∀ H', Same H1 H' → H' D = some (.lst (((xs.zip ys).filter f).map v)) → Qd H') :
    LcGoal (ItzM K ba bb a b xs ys) (gTup K 2 (gCons (gName j1) (gCons (gName j2) gNil))) tt te vs σ H1 D Qd := by
  have ln : (xs.zip ys).length = min xs.length ys.length := List.length_zip ..
  refine lc_it (walk_zipM rfl) (fun i H' => Same H1 H' ∧ H' D = some (.lst ((((xs.zip ys).take i).filter f).map v))) ⟨same_new hD, by rw [List.take_zero]; exact upd_same⟩ (fun i H' _ e => ⟨SqK.same e.1 hx, SqK.same e.1 hy⟩) (fun i x H H' hi e y => ?_) (fun H' e => ?_)
  · obtain ⟨T, x1, y1, rfl, hT, rfl, h1, h2⟩ := y
    obtain ⟨e1, e2⟩ := e
    have hp : (xs.zip ys)[i]? = some (x1, y1) := List.getElem?_zip_eq_some.mpr ⟨h1, h2⟩
    have hm : (x1, y1) ∈ xs.zip ys := List.mem_of_getElem? hp
    have tk : (xs.zip ys).take (i + 1) = (xs.zip ys).take i ++ [(x1, y1)] := by rw [List.take_add_one, hp]; rfl
    have sT := same_new (o := .tup [x1, y1]) hT
    have s1 := e1.trans sT
    refine ⟨T, _, rfl, .inl (.inl upd_same), rfl, _, _, rfl, _, _, rfl, rfl, hw _ hm, ht _ hm _ s1 _ ?_⟩
    cases hf : f (x1, y1) with
    | false =>
      refine iteF ⟨s1, ?_⟩
      rw [tk, List.filter_append, List.filter_cons, hf]
      simpa using sT _ _ e2
    | true =>
      refine iteT (he _ hm hf _ s1 _ fun H3 s3 => ⟨_, s3 _ _ (sT _ _ e2), ?_, fun b o q => ?_, ?_⟩)
      · rw [List.length_map]
        refine Nat.lt_of_le_of_lt (List.length_filter_le _ _) (Nat.lt_of_le_of_lt (List.length_take_le _ _) ?_)
        have : 1000000 < sizeLine := by decide
        omega
      · rw [upd_ne (ne_of_none q hD)]
        exact s3 _ _ (s1 _ _ q)
      · rw [upd_same, tk, List.filter_append, List.filter_cons, hf]
        simp
  · rw [← ln, List.take_length] at e
    exact hd H' e.1 e.2
theorem TyX.same {K : PySem.W.Frag} {H H' : Hp} {v : V} {t : Value} (e : Same H H') (h : TyX K H v t) : TyX K H' v t := by
  cases h with
  | base h =>
    refine .base ?_
    cases h with
    | non => exact .non
    | bl x => exact .bl x
    | int i => exact .int i
    | str x => exact .str x
    | flt x => exact .flt x
    | lst h => exact .lst (e _ _ h)
    | frz h => exact .frz (e _ _ h)
    | tup h => exact .tup (e _ _ h)
    | dK h => exact .dK (e _ _ h)
    | dT h => exact .dT (e _ _ h)
    | ins h h1 h2 h3 h4 h5 => exact .ins (e _ _ h) h1 h2 h3 h4 h5
  | byt b => exact .byt b
  | set h => exact .set (e _ _ h)
  | kList h h1 => exact .kList h h1
  | kTuple h h1 => exact .kTuple h h1
  | kDict h h1 => exact .kDict h h1
  | fTuple h => exact .fTuple (e _ _ h)
  | fDict h => exact .fDict (e _ _ h)
theorem IsX.same {K : PySem.W.Frag} {H H' : Hp} {v : V} {c : String} {b : Bool} (e : Same H H') (h : IsX K H v c b) : IsX K H' v c b := by
  rcases h with ⟨t, h1, h2⟩ | ⟨hb, a, C, dx, vs, h1, h2, h3⟩
  · exact .inl ⟨t, TyX.same e h1, h2⟩
  · exact .inr ⟨hb, a, C, dx, vs, h1, slt_same e h2, h3⟩
/-- an item of a row: a number, a truth, or no number -/
def NumOk (K : PySem.W.Frag) (H : Hp) (v : V) : Prop := (∃ n, v = .int n) ∨ (∃ b, v = .bl b) ∨ ((∀ n, v ≠ .int n) ∧ IsX K H v "int" false)
theorem NumOk.same {K : PySem.W.Frag} {H H' : Hp} {v : V} (e : Same H H') (h : NumOk K H v) : NumOk K H' v := by
  rcases h with h | h | ⟨h1, h2⟩
  · exact .inl h
  · exact .inr (.inl h)
  · exact .inr (.inr ⟨h1, IsX.same e h2⟩)
def numI (n : Int) : Bool := decide (0 ≤ n) && decide (n < 10000)
def numV : V → Bool
  | .int n => numI n
  | _ => false
theorem numV_no {v : V} (h : ∀ n, v ≠ .int n) : numV v = false := by
  cases v with
  | int n => exact absurd rfl (h n)
  | _ => rfl
def rowB (xs : List V) : Bool := decide (1 ≤ xs.length) && decide (xs.length ≤ 6) && xs.all numV
theorem rowB_of {xs : List V} (h1 : 1 ≤ xs.length) (h2 : xs.length ≤ 6) (h3 : xs.all numV = true) : rowB xs = true := by
  unfold rowB
  rw [decide_eq_true h1, decide_eq_true h2, h3]
  rfl
section
variable {P : Program} {w : World} {K : PySem.W.Frag} {mg : Str → Option Value} {base : Heap} {C p0 p1 : Addr} {i0 i1 : Nat}
def RowArg (K : PySem.W.Frag) (H : Hp) (v : V) (r : Bool) : Prop := (IsX K H v "tuple" false ∧ r = false) ∨ ∃ t xs, v = .ref t ∧ SqT K H t xs ∧ xs.length ≤ 1000 ∧ (∀ x ∈ xs, NumOk K H x) ∧ r = rowB xs
theorem RowArg.same {H H' : Hp} {v : V} {r : Bool} (e : Same H H') (h : RowArg K H v r) : RowArg K H' v r := by
  rcases h with ⟨h1, h2⟩ | ⟨t, xs, h1, h2, h3, h4, h5⟩
  · exact .inl ⟨IsX.same e h1, h2⟩
  · exact .inr ⟨t, xs, h1, Same.seqT e h2, h3, fun x hx => (h4 x hx).same e, h5⟩
theorem RowArg.ints {H : Hp} {t : Addr} {ns : List Int} (h : SqT K H t (ns.map V.int)) (hl : ns.length ≤ 1000) : RowArg K H (.ref t) (rowB (ns.map V.int)) :=
  .inr ⟨t, _, rfl, h, by rw [List.length_map]; exact hl, fun x hx => by obtain ⟨n, _, rfl⟩ := List.mem_map.mp hx; exact .inl ⟨n, rfl⟩, rfl⟩
def spPlain (K : PySem.W.Frag) : Sp := fun vs H Q _ => ∃ v r, vs = [v] ∧ RowArg K H v r ∧ ∀ H', Same H H' → Q (.bl r) H'
abbrev N_is_plain_row : List Str := ["value", "number"]
theorem sc_is_plain_row : FnScope N_is_plain_row ["value"] (defScope (top 71)) := ⟨rfl, rfl, rfl, by decide +kernel, rfl, by decide +kernel, by decide +kernel⟩
theorem c_is_plain_row (A : At K mg "is_plain_row" (top 71)) (B : Blt mg) (G6 : GlC mg "MAX_SIDE" (.int 6)) (GB : GlC mg "BEYOND" (.int 10000)) (c_is_integer : Cal P w K mg base 1 "is_integer" (spIsInt K)) : Cal P w K mg base 2 "is_plain_row" (spPlain K) := by
  refine cal_of A sc_is_plain_row (fun _ _ _ _ _ _ us hl => match us, hl with | [_], _ => rfl) (fun vs H Q E h => ?_) (fun _ cdv A outer s H vs Q E hr h => ?_)
  · obtain ⟨_, _, rfl, _⟩ := h; rfl
  · obtain ⟨v, r, rfl, hv, hQ⟩ := h
    refine ⟨_, (pss_cons (ps_if (PW.pt (pw_or (pt_not (pt_val (pe_callB call_isS (by rfl) B.isinstance (by decide +kernel) (pa_cons (pv 0) (pa_cons (pe_bltn (v := .ty "tuple") (by rfl) B.tuple (by decide +kernel) rfl) pa_nil))))) (pw_or1 (pt_not (pt_chain op_le op_le pe_int (pe_callB call_len_seq (by rfl) B.len (by decide +kernel) (pa_cons (pv 0) pa_nil)) (pe_gl (by rfl) G6))))))
        (pss_one (ps_ret pe_bl))
        pss_nil)
      (pss_one (ps_ret (pe_callB (cr_all rfl) (by rfl) B.all (by decide +kernel) (pa_cons (pe_lc (own := [("number", 1)]) (g := gName 1) (tt := tYes) (by rfl) sc_is_plain_row.nd (pi_tup (pv 0)) (blkOk_by (own := [("number", 1)]) (N := N_is_plain_row) (sc := defScope (top 71)) (by decide +kernel)) (fun _ _ _ _ _ => (pg_name (i := 1) sc_is_plain_row.nd rfl (Or.inl rfl))) (fun _ _ _ _ _ => pts_nil) (fun _ _ _ _ _ => (pe_and (pe_c c_is_integer hr (by decide) (by rfl) (pa_cons (pv 1) pa_nil)) (pe_one (pe_chain op_le op_lt pe_int (pv 1) (pe_gl (by rfl) GB)))))) pa_nil))))), ?_⟩
    rcases hv with ⟨hv, rfl⟩ | ⟨t, xs, rfl, ht, hl, hi, rfl⟩
    · exact ⟨_, rfl, _, _, false, rfl, hv, _, rfl, iteT (hQ _ (Same.refl _))⟩
    · refine ⟨_, rfl, _, _, true, rfl, .ty (tyT ht) (by decide +kernel), _, rfl, iteF ?_⟩
      refine ⟨_, rfl, t, xs, rfl, .inr ht, _, _, rfl, rfl, _, rfl, ?_⟩
      by_cases h1 : 1 ≤ xs.length
      · rw [decide_eq_true (show (1 : Int) ≤ (xs.length : Nat) by omega)]
        refine iteT ⟨_, _, rfl, rfl, _, rfl, ?_⟩
        by_cases h6 : xs.length ≤ 6
        · rw [decide_eq_true (show ((xs.length : Nat) : Int) ≤ 6 by omega)]
          refine iteF ⟨_, rfl, t, rfl, ⟨_, ht⟩, fun D hD => lc_tpl ht hD (by omega) (fun _ => true) (fun x => .bl (numV x)) (fun x _ => rfl) (fun x _ acc Q q => q) (fun x hx _ acc Q q => ?_) ?_⟩
          · rcases (hi x hx).same (same_new (o := .lst acc) hD) with ⟨n, rfl⟩ | ⟨b, rfl⟩ | ⟨hn, hx'⟩
            · refine ⟨_, rfl, _, rfl, .inl ⟨n, rfl, _, rfl, ?_⟩⟩
              by_cases hb : isInt n = true
              · rw [hb]
                refine iteT ⟨_, rfl, _, _, rfl, rfl, _, rfl, ?_⟩
                by_cases h0 : 0 ≤ n
                · rw [decide_eq_true h0]
                  refine iteT ⟨_, _, rfl, rfl, ?_⟩
                  have e : numV (.int n) = decide (n < 10000) := by simp [numV, numI, h0]
                  rw [e] at q
                  exact q
                · rw [decide_eq_false h0]
                  have e : numV (.int n) = false := by simp [numV, numI, h0]
                  rw [e] at q
                  exact iteF q
              · have e : numV (.int n) = false := by
                  cases h9 : numV (.int n) with
                  | false => rfl
                  | true =>
                    simp [numV, numI] at h9
                    exact absurd (isInt_of (by omega) (by omega)) hb
                rw [e] at q
                rw [show isInt n = false by simpa using hb]
                exact iteF q
            · exact ⟨_, rfl, _, rfl, .inr (.inl ⟨b, rfl, _, rfl, iteF q⟩)⟩
            · rw [numV_no hn] at q
              exact ⟨_, rfl, _, rfl, .inr (.inr ⟨hx', _, rfl, iteF q⟩)⟩
          · refine ⟨D, xs.map numV, rfl, .inl (.inl ?_), ?_⟩
            · rw [filter_all, List.map_map]; exact upd_same
            · have e : (xs.map numV).all id = rowB xs := by
                simp [rowB, h1, h6, List.all_map]
              rw [e]
              exact hQ _ (same_new hD)
        · rw [decide_eq_false (show ¬ ((xs.length : Nat) : Int) ≤ 6 by omega)]
          have e : rowB xs = false := by simp [rowB, h6]
          rw [e] at hQ
          exact iteT (hQ _ (Same.refl _))
      · rw [decide_eq_false (show ¬ (1 : Int) ≤ (xs.length : Nat) by omega)]
        have e : rowB xs = false := by simp [rowB, h1]
        rw [e] at hQ
        exact iteF ⟨_, rfl, iteT (hQ _ (Same.refl _))⟩
def spReqPlain (K : PySem.W.Frag) : Sp := fun vs H Q _ => ∃ v, vs = [v] ∧ RowArg K H v true ∧ ∀ H', Same H H' → Q .non H'
def spReqRow (K : PySem.W.Frag) (C : Addr) (i0 i1 : Nat) : Sp := fun vs H Q _ => ∃ x dx M L n ls t xs, vs = [.ref x, .ref t] ∧ FormAt K C i0 i1 H x dx M L n ls ∧ SqT K H t xs ∧ xs.length = n ∧ n ≤ 6 ∧ RowArg K H (.ref t) true ∧ ∀ H', Same H H' → Q .non H'
theorem sc_require_row : FnScope ["target", "value"] ["target", "value"] (defScope (top 72)) := ⟨rfl, rfl, rfl, by decide +kernel, rfl, by decide +kernel, by decide +kernel⟩
theorem c_require_row (A : At K mg "require_row" (top 72)) (B : Blt mg) (FC : FormC K C p0 p1 i0 i1) (c_is_plain_row : Cal P w K mg base 2 "is_plain_row" (spPlain K)) : Cal P w K mg base 3 "require_row" (spReqRow K C i0 i1) := by
  refine cal_of A sc_require_row (fun _ _ _ _ _ _ us hl => match us, hl with | [_, _], _ => rfl) (fun vs H Q E h => ?_) (fun _ cdv A outer s H vs Q E hr h => ?_)
  · obtain ⟨_, _, _, _, _, _, _, _, rfl, _⟩ := h; rfl
  · obtain ⟨x, dx, M, L, n, ls, t, xs, rfl, hF, ht, hn, h6, hv, hQ⟩ := h
    obtain ⟨g, l1, l2, l3⟩ := r_flen (P := P) (w := w) (mg := mg) (base := base) FC B
    refine ⟨_, (pss_one (ps_if (PW.pt (pw_or (pt_not (pt_val (pe_c c_is_plain_row hr (by decide) (by rfl) (pa_cons (pv 1) pa_nil)))) (pw_or1 (pt_cmpR op_ne (pe_callB call_len_seq (by rfl) B.len (by decide +kernel) (pa_cons (pv 1) pa_nil)) (pe_callB (call_lenOwn l1 l2 l3 hr pass0) (by rfl) B.len (by decide +kernel) (pa_cons (pv 0) pa_nil)) (nomark _)))))
        (pss_one ps_never)
        pss_nil)), ?_⟩
    refine ⟨_, rfl, _, true, rfl, hv, fun H1 e1 => ⟨_, rfl, iteF ?_⟩⟩
    have hF1 := hF.same e1
    have hF0 := hF1
    obtain ⟨⟨ws, h1, h2, h3⟩, ⟨ys, _, hy⟩, _⟩ := hF1
    subst hn
    refine ⟨_, rfl, t, xs, rfl, .inr (Same.seqT e1 ht), _, rfl, x, dx, ws, rfl, h1, x, dx, M, L, _, ls, rfl, hF0, _, rfl, by omega, by omega, rfl, _, rfl, ?_⟩
    have e : decide (V.int ((xs.length : Nat) : Int) = V.int ((xs.length : Nat) : Int)) = true := decide_eq_true rfl
    rw [e]
    exact iteF (hQ _ e1)
def IsRowArg (K : PySem.W.Frag) (H : Hp) (v : V) (n : Nat) (b : Bool) : Prop := (IsX K H v "tuple" false ∧ b = false) ∨ ∃ t xs, v = .ref t ∧ SqT K H t xs ∧ xs.length ≤ 1000 ∧ (∀ x ∈ xs, NumOk K H x) ∧ b = (rowB xs && decide (xs.length = n))
theorem IsRowArg.same {H H' : Hp} {v : V} {n : Nat} {r : Bool} (e : Same H H') (h : IsRowArg K H v n r) : IsRowArg K H' v n r := by
  rcases h with ⟨h1, h2⟩ | ⟨t, xs, h1, h2, h3, h4, h5⟩
  · exact .inl ⟨IsX.same e h1, h2⟩
  · exact .inr ⟨t, xs, h1, Same.seqT e h2, h3, fun x hx => (h4 x hx).same e, h5⟩
def spIsRow (K : PySem.W.Frag) (C : Addr) (i0 i1 : Nat) : Sp := fun vs H Q _ => ∃ x dx M L n ls v b, vs = [.ref x, v] ∧ FormAt K C i0 i1 H x dx M L n ls ∧ n ≤ 6 ∧ IsRowArg K H v n b ∧ ∀ H', Same H H' → Q (.bl b) H'
/-- the least of some numbers -/
def IsMin (l : List Int) (m : Int) : Prop := m ∈ l ∧ ∀ y ∈ l, m ≤ y
theorem IsMin.uniq {l : List Int} {m m' : Int} (h : IsMin l m) (h' : IsMin l m') : m = m' := by
  have h1 := h.2 _ h'.1
  have h2 := h'.2 _ h.1
  omega
def selN (ns : List Int) (ls : List Bool) : List Int := ((ns.zip ls).filter (·.2)).map (·.1)
theorem selN_pos {ns : List Int} {ls : List Bool} (hl : ns.length = ls.length) (h : true ∈ ls) : 0 < (selN ns ls).length := by
  obtain ⟨i, hi⟩ := List.getElem?_of_mem h
  have il := (List.getElem?_eq_some_iff.mp hi).1
  have hn : i < ns.length := by omega
  have hz : (ns.zip ls)[i]? = some (ns[i], true) := List.getElem?_zip_eq_some.mpr ⟨List.getElem?_eq_getElem hn, hi⟩
  have hm : ns[i] ∈ selN ns ls := List.mem_map.mpr ⟨(ns[i], true), List.mem_filter.mpr ⟨List.mem_of_getElem? hz, rfl⟩, rfl⟩
  exact List.length_pos_of_mem hm
def fstV : V × V → V := fun p => p.1
def sndB : V × V → Bool
  | (_, .bl b) => b
  | _ => false
theorem selV (ns : List Int) (ls : List Bool) : (((ns.map V.int).zip (ls.map V.bl)).filter sndB).map fstV = (selN ns ls).map V.int := by
  rw [List.zip_map, List.filter_map, selN, List.map_map, List.map_map]
  refine congrArg (fun l => List.map _ l) ?_
  refine List.filter_congr fun p _ => ?_
  rfl
def spEndCost (K : PySem.W.Frag) (C : Addr) (i0 i1 : Nat) : Sp := fun vs H Q _ => ∃ x dx M L n ls t ns, vs = [.ref x, .ref t] ∧ FormAt K C i0 i1 H x dx M L n ls ∧ SqT K H t (ns.map V.int) ∧ ns.length = n ∧ n ≤ 6 ∧ rowB (ns.map V.int) = true ∧ true ∈ ls ∧ ∀ H' m, Same H H' → IsMin (selN ns ls) m → Q (.int m) H'
abbrev N_end_cost : List Str := ["target", "row", "number", "last"]
theorem sc_end_cost : FnScope N_end_cost ["target", "row"] (defScope (top 74)) := ⟨rfl, rfl, rfl, by decide +kernel, rfl, by decide +kernel, by decide +kernel⟩
theorem c_end_cost (A : At K mg "end_cost" (top 74)) (B : Blt mg) (FC : FormC K C p0 p1 i0 i1) (c_require_form : Cal P w K mg base 1 "require_form" (spReqForm K C i0 i1)) (c_require_row : Cal P w K mg base 3 "require_row" (spReqRow K C i0 i1)) (c_require_small : Cal P w K mg base 3 "require_small" (spReqForm K C i0 i1)) : Cal P w K mg base 4 "end_cost" (spEndCost K C i0 i1) := by
  refine cal_of A sc_end_cost (fun _ _ _ _ _ _ us hl => match us, hl with | [_, _], _ => rfl) (fun vs H Q E h => ?_) (fun _ cdv A outer s H vs Q E hr h => ?_)
  · obtain ⟨_, _, _, _, _, _, _, _, rfl, _⟩ := h; rfl
  · obtain ⟨x, dx, M, L, n, ls, t, ns, rfl, hF, ht, hn, h6, hv, hT, hQ⟩ := h
    refine ⟨_, (pss_cons (ps_expr (pe_c c_require_form hr (by decide) (by rfl) (pa_cons (pv 0) pa_nil)))
      (pss_cons (ps_expr (pe_c c_require_row hr (by decide) (by rfl) (pa_cons (pv 0) (pa_cons (pv 1) pa_nil))))
      (pss_cons (ps_expr (pe_c c_require_small hr (by decide) (by rfl) (pa_cons (pv 0) pa_nil)))
      (pss_one (ps_ret (pe_callB (cr_min rfl) (by rfl) B.min (by decide +kernel) (pa_cons (pe_lc (own := [("number", 2), ("last", 3)]) (by rfl) sc_end_cost.nd (pi_zipM true false (by rfl) B.zip (pa_cons (pv 1) (pa_cons (SlX.pe_sl (pv 0)) pa_nil))) (blkOk_by (own := [("number", 2), ("last", 3)]) (N := N_end_cost) (sc := defScope (top 74)) (by decide +kernel)) (fun _ _ _ _ _ => (pg_tupK (K := K) (n := 2) rfl rfl (pgs_cons (pg_name (i := 2) sc_end_cost.nd rfl (Or.inl rfl)) (pgs_cons (pg_name (i := 3) sc_end_cost.nd rfl (Or.inl rfl)) pgs_nil)))) (fun _ _ _ _ _ => pts_one (pt_val (pv 3))) (fun _ _ _ _ _ => pv 2)) pa_nil))))))), ?_⟩
    refine ⟨_, rfl, x, dx, M, L, n, ls, rfl, hF, h6, ?_⟩
    have hra := RowArg.ints ht (by omega)
    rw [hv] at hra
    refine ⟨_, rfl, _, rfl, x, dx, M, L, n, ls, t, _, rfl, hF, ht, by rw [List.length_map]; exact hn, h6, hra, fun H1 e1 => ?_⟩
    have hF1 := hF.same e1
    refine ⟨_, rfl, x, dx, M, L, n, ls, rfl, hF1, h6, ?_⟩
    obtain ⟨⟨ws, h1, h2, h3⟩, _, hL, hll⟩ := hF1
    have ht1 := Same.seqT e1 ht
    refine ⟨_, rfl, _, rfl, x, C, dx, p1, ws, i1, _, rfl, h1, FC.sc, FC.s1, h3, t, L, _, _, rfl, ht1, hL, fun D hD => lc_zipM ht1 hL (by rw [List.length_map]; omega) hD sndB fstV (fun p _ => rfl) (fun p hp H2 e2 Q q => ?_) (fun p hp _ H2 e2 Q q => ⟨_, rfl, q _ (Same.refl _)⟩) (fun H2 e2 u2 => ?_)⟩
    · rw [List.zip_map] at hp
      obtain ⟨q0, _, rfl⟩ := List.mem_map.mp hp
      exact ⟨_, rfl, _, rfl, q⟩
    · rw [selV] at u2
      exact ⟨D, selN ns ls, rfl, SqL.of u2, selN_pos (by omega) hT, fun m h1 h2 => hQ _ m (e1.trans e2) ⟨h1, h2⟩⟩
def cutI (l n : Int) : Int := if l < n then l else n
theorem cutI_num {l n : Int} (h0 : 0 ≤ l) (h : numI n = true) : numI (cutI l n) = true := by
  simp only [numI, Bool.and_eq_true, decide_eq_true_eq] at h ⊢
  unfold cutI
  split <;> omega
def cutV1 (l : Int) : V → V
  | .int n => .int (cutI l n)
  | v => v
def spCut (K : PySem.W.Frag) : Sp := fun vs H Q _ => ∃ (t : Addr) (ns : List Int) (l : Int), vs = [.ref t, .int l] ∧ SqT K H t (ns.map V.int) ∧ rowB (ns.map V.int) = true ∧ 0 ≤ l ∧ l ≤ 9999 ∧ ∀ q H', H q = none → Same H H' → H' q = some (.tup ((ns.map (cutI l)).map V.int)) → Q (.ref q) H'
theorem rowB_len {xs : List V} (h : rowB xs = true) : 1 ≤ xs.length ∧ xs.length ≤ 6 ∧ xs.all numV = true := by
  simp only [rowB, Bool.and_eq_true, decide_eq_true_eq] at h
  exact ⟨h.1.1, h.1.2, h.2⟩
def aboveB (ns ms : List Int) : Bool := (ns.zip ms).all fun p => decide (p.1 ≥ p.2)
def geV : V × V → V
  | (.int a, .int b) => .bl (decide (a ≥ b))
  | _ => .bl false
theorem aboveV (ns ms : List Int) : (((ns.map V.int).zip (ms.map V.int)).filter fun _ => true).map geV = ((ns.zip ms).map fun p => decide (p.1 ≥ p.2)).map V.bl := by
  rw [List.filter_eq_self.mpr fun _ _ => rfl, List.zip_map, List.map_map, List.map_map]
  rfl
def spAbove (K : PySem.W.Frag) : Sp := fun vs H Q _ => ∃ (t u : Addr) (ns ms : List Int), vs = [.ref t, .ref u] ∧ SqT K H t (ns.map V.int) ∧ SqT K H u (ms.map V.int) ∧ rowB (ns.map V.int) = true ∧ rowB (ms.map V.int) = true ∧ ns.length = ms.length ∧ ∀ H', Same H H' → Q (.bl (aboveB ns ms)) H'
end
end MN
/-! the law's own defs: signs, forms of plain rows, ends, odd values -/
namespace MN
open PySem PySem.Spec PyProof.Rows L2
/-- a comprehension over a list whose items may lay objects -/
theorem lc_lstR {K : PySem.W.Frag} {a D : Addr} {H1 : Hp} {σ : L2.St} {vs : List Nat} {te : TE} {j : Nat} {Qd : Hp → Prop} (xs : List V) (hs : SqL K H1 a xs) (hz : xs.length ≤ 1000) (hD : H1 D = none) (hw : ∀ x ∈ xs, wipe ((wipe σ vs).set j (some x)) vs = wipe σ vs)
    (R : Nat → V → Hp → Prop) (hR : ∀ k v H H', (∀ b o, b ≠ D → H b = some o → H' b = some o) → R k v H → R k v H')
    (he : ∀ (i : Nat) (x : V), xs[i]? = some x → ∀ H2, Same H1 H2 → (∃ o, H2 D = some o) → ∀ Q : VK, (∀ y H3, Same H2 H3 → R i y H3 → Q y H3) → te ((wipe σ vs).set j (some x)) H2 Q)
    (hd : ∀ H' outs, Same H1 H' → H' D = some (.lst outs) → outs.length = xs.length → (∀ (k : Nat) (v : V), outs[k]? = some v → R k v H') → Qd H') :
    LcGoal (Itl K a) (gName j) tYes te vs σ H1 D Qd := by
  refine lc_it walk_list (fun i H' => Same H1 H' ∧ ∃ outs, H' D = some (.lst outs) ∧ outs.length = i ∧ ∀ (k : Nat) (v : V), outs[k]? = some v → R k v H') ⟨same_new hD, [], upd_same, rfl, fun k v z => by simp at z⟩ (fun i H' _ e => Same.seq e.1 hs) (fun i x H H' hi e y => ?_) (fun H' e => ?_)
  · obtain ⟨rfl, hx⟩ := y
    obtain ⟨e1, outs, e2, e3, e4⟩ := e
    refine ⟨hw _ (List.mem_of_getElem? hx), yes_q (iteT ?_)⟩
    refine he i _ hx _ e1 ⟨_, e2⟩ _ fun y H3 s3 r3 => ⟨outs, s3 _ _ e2, ?_, fun b o q => ?_, _, upd_same, by rw [List.length_append, e3]; rfl, fun k v z => ?_⟩
    · have : 1000000 < sizeLine := by decide
      omega
    · rw [upd_ne (ne_of_none q hD)]
      exact s3 _ _ (e1 _ _ q)
    · have up : ∀ b o, b ≠ D → H3 b = some o → upd H3 D (.lst (outs ++ [y])) b = some o := fun b o n q => by rw [upd_ne n]; exact q
      rcases Nat.lt_or_ge k outs.length with hk | hk
      · rw [List.getElem?_append_left hk] at z
        exact hR _ _ _ _ (fun b o n q => up b o n (s3 _ _ q)) (e4 k v z)
      · rw [List.getElem?_append_right hk] at z
        have hk2 : k - outs.length = 0 := by
          have := (List.getElem?_eq_some_iff.mp z).1
          simp at this
          omega
        rw [hk2] at z
        obtain rfl : y = v := by simpa using z
        obtain rfl : k = i := by omega
        exact hR _ _ _ _ up r3
  · obtain ⟨e1, outs, e2, e3, e4⟩ := e
    exact hd H' outs e1 e2 e3 e4
theorem refs_of : ∀ {outs : List V}, (∀ (k : Nat) (v : V), outs[k]? = some v → ∃ t, v = .ref t) → ∃ ts : List Addr, outs = ts.map V.ref
  | [], _ => ⟨[], rfl⟩
  | v :: outs, h => by
    obtain ⟨t, rfl⟩ := h 0 v rfl
    obtain ⟨ts, rfl⟩ := refs_of (outs := outs) fun k v hk => h (k + 1) v (by simpa using hk)
    exact ⟨t :: ts, rfl⟩
section
variable {P : Program} {w : World} {K : PySem.W.Frag} {mg : Str → Option Value} {base : Heap} {C p0 p1 : Addr} {i0 i1 : Nat}
/-! ### _law_signs_for -/
structure SigOk (zs : List Str) : Prop where
  pos : 0 < zs.length
  few : zs.length ≤ 5
  nd : zs.Nodup
  sg : ∀ z ∈ zs, isSign (.str z) = true
def spSigns : Sp := fun vs H Q _ => ∃ p, vs = [.ref p] ∧ Pot H p ∧ ∀ l zs H', H l = none → Ex p H H' → H' l = some (.lst (zs.map V.str)) → SigOk zs → Q (.ref l) H'
/-! ### plain rows -/
/-- a list of rows [moves, last] -/
structure PlainAt (K : PySem.W.Frag) (H : Hp) (a : Addr) (rs ds : List Addr) (ms : List Mv) (ls : List Bool) : Prop where
  lst : SqL K H a (rs.map V.ref)
  lr : rs.length = ms.length
  ll : ls.length = ms.length
  dc : DctsAt H ds ms
  pr : ∀ (i : Nat) r d l, rs[i]? = some r → ds[i]? = some d → ls[i]? = some l → H r = some (.lst [.ref d, .bl l])
theorem PlainAt.same {H H' : Hp} {a : Addr} {rs ds : List Addr} {ms : List Mv} {ls : List Bool} (h : PlainAt K H a rs ds ms ls) (e : Same H H') : PlainAt K H' a rs ds ms ls := ⟨Same.seq e h.lst, h.lr, h.ll, h.dc.same e, fun i r d l h1 h2 h3 => e _ _ (h.pr i r d l h1 h2 h3)⟩
def spForm (K : PySem.W.Frag) (C : Addr) (i0 i1 : Nat) : Sp := fun vs H Q _ => ∃ a rs ds ms ls, vs = [.ref a] ∧ PlainAt K H a rs ds ms ls ∧ ds.Nodup ∧ StsOk ms ls ∧ ∀ H' x dx M L, Same H H' → H x = none → H dx = none → H M = none → H L = none → FormAt K C i0 i1 H' x dx M L ms.length ls → Q (.ref x) H'
abbrev N_law_form : List Str := ["_law_plain", "_law_row"]
theorem sc_law_form : FnScope N_law_form ["_law_plain"] (defScope (top 86)) := ⟨rfl, rfl, rfl, by decide +kernel, rfl, by decide +kernel, by decide +kernel⟩
theorem c_law_form (A : At K mg "_law_form" (top 86)) (B : Blt mg) (FC : FormC K C p0 p1 i0 i1) (hC : mg "Form" = some (.ref C)) (c_are_states : Cal P w K mg base 3 "are_states" (spAreStates K)) (c_in_order : Cal P w K mg base 1 "in_order" spInOrder) : Cal P w K mg base 6 "_law_form" (spForm K C i0 i1) := by
  refine cal_of A sc_law_form (fun _ _ _ _ _ _ us hl => match us, hl with | [_], _ => rfl) (fun vs H Q E h => ?_) (fun _ cdv A outer s H vs Q E hr h => ?_)
  · obtain ⟨_, _, _, _, _, rfl, _⟩ := h; rfl
  · obtain ⟨a, rs, ds, ms, ls, rfl, hP, hnd, hO, hQ⟩ := h
    obtain ⟨f, fd, M0, F⟩ := FC.ini
    have b0 := FunD.bindsN (ps := ["self", "states"]) F fun _ _ _ _ _ _ us hl => match us, hl with | [_, _], _ => rfl
    refine ⟨_, (pss_one (ps_ret (pe_make M0 (f_finit (P := P) (w := w) (mg := mg) (base := base) FC F B c_are_states c_in_order) hr (by rfl) hC b0 .nil pass0 (pa_cons (pe_callTy call_tuple_of (by rfl) B.tuple (by decide +kernel) (pa_cons (pe_lc (own := [("_law_row", 1)]) (g := gName 1) (tt := tYes) (by rfl) sc_law_form.nd (pi_list (pv 0)) (blkOk_by (own := [("_law_row", 1)]) (N := N_law_form) (sc := defScope (top 86)) (by decide +kernel)) (fun _ _ _ _ _ => (pg_name (i := 1) sc_law_form.nd rfl (Or.inl rfl))) (fun _ _ _ _ _ => pts_nil) (fun _ _ _ _ _ => (pe_tup (pa_cons (pe_ix (ixLK (K := K) rfl) (pv 1) pe_int (fun _ _ => rfl)) (pa_cons (pe_ix (ixLK (K := K) rfl) (pv 1) pe_int (fun _ _ => rfl)) pa_nil))))) pa_nil)) pa_nil)))), ?_⟩
    have p8 := hO.few
    have lr := hP.lr
    refine ⟨_, rfl, a, rfl, ⟨_, hP.lst⟩, fun D hD => lc_lstR (rs.map V.ref) hP.lst (by rw [List.length_map]; omega) hD (fun x _ => rfl) (fun k v H' => ∃ t d l, v = .ref t ∧ H' t = some (.tup [.ref d, .bl l]) ∧ t ≠ D ∧ ds[k]? = some d ∧ ls[k]? = some l) (fun k v H1 H2 e ⟨t, d, l, h1, h2, h3, h4⟩ => ⟨t, d, l, h1, e _ _ h3 h2, h3, h4⟩) (fun i x hx H2 e2 ⟨o, ho⟩ Q q => ?_) (fun H2 outs e2 u2 l2 r2 => ?_)⟩
    · rw [List.getElem?_map] at hx
      obtain ⟨r, hr', rfl⟩ := Option.map_eq_some_iff.mp hx
      have il : i < ms.length := by have := (List.getElem?_eq_some_iff.mp hr').1; omega
      have h1 := List.getElem?_eq_getElem (show i < ds.length by rw [hP.dc.1]; exact il)
      have h2 := List.getElem?_eq_getElem (show i < ls.length by rw [hP.ll]; exact il)
      have hrow := e2 _ _ (hP.pr i r _ _ hr' h1 h2)
      refine ⟨_, rfl, r, _, _, _, rfl, rfl, SqL.of hrow, rfl, _, rfl, r, _, _, _, rfl, rfl, SqL.of hrow, rfl, (by show 2 ≤ sizeLine; decide), fun t ht => ?_⟩
      exact q _ _ (same_new ht) ⟨t, _, _, rfl, upd_same, (fun z => by rw [z, ho] at ht; cases ht), h1, h2⟩
    · rw [List.length_map] at l2
      obtain ⟨ts, rfl⟩ := refs_of fun k v hk => by
        obtain ⟨t, _, _, h, _⟩ := r2 k v hk
        exact ⟨t, h⟩
      have hte : ∀ (k : Nat) (t : Addr), ts[k]? = some t → ∃ d l, H2 t = some (.tup [.ref d, .bl l]) ∧ ds[k]? = some d ∧ ls[k]? = some l := fun k t hk => by
        obtain ⟨t', d, l, h, h1, h2, h3⟩ := r2 k (.ref t) (by rw [List.getElem?_map, hk]; rfl)
        cases h
        exact ⟨d, l, h1, h3⟩
      rw [List.length_map] at l2
      refine ⟨D, _, rfl, .inl ⟨SqL.of u2, fun T hT => ?_⟩⟩
      obtain ⟨s3, u3⟩ := laid (.tup (ts.map V.ref)) hT
      generalize upd H2 T (.tup (ts.map V.ref)) = H3 at s3 u3 ⊢
      have e3 := e2.trans s3
      intro x dx hx hdx n
      have nx : ∀ b o, H3 b = some o → b ≠ x ∧ b ≠ dx := fun b o e => ⟨ne_of_none e hx, ne_of_none e hdx⟩
      have up : Same H3 (upd (upd H3 dx (.own x)) x (.ins C dx [])) := fun b o e => by rw [upd_ne (nx b o e).1, upd_ne (nx b o e).2]; exact e
      have hS : StsAt K (upd (upd H3 dx (.own x)) x (.ins C dx [])) T ts ds ms ls := by
        refine ⟨.inl (.inl (up _ _ u3)), by omega, hP.ll, (hP.dc.same e3).same up, fun i t d l h1 h2 h3 => ?_⟩
        obtain ⟨d', l', g1, g2, g3⟩ := hte i t h1
        rw [h2] at g2
        rw [h3] at g3
        cases g2
        cases g3
        exact .inl (.inl (up _ _ (s3 _ _ g1)))
      refine ⟨x, dx, T, ts, ds, ms, ls, rfl, upd_same, by rw [upd_ne n, upd_same], n, hS, hnd, hO, fun H' M L k hM hL hF => ⟨rfl, hQ H' x dx M L (fun b o q => ?_) (e3.free hx) (e3.free hdx) ?_ ?_ hF⟩⟩
      · have q3 := e3 _ _ q
        exact k b o (nx _ _ q3).1 (nx _ _ q3).2 (up _ _ q3)
      · exact (e3.trans up).free hM
      · exact (e3.trans up).free hL
/-! ### _law_end -/
def lastIn (H : Hp) : V × V → Bool
  | (_, .ref r) => match H r with
    | some (.lst [_, .bl b]) => b
    | _ => false
  | _ => false
theorem selH {H : Hp} : ∀ (ns : List Int) (rs : List Addr) (ls : List Bool), (∀ (i : Nat) r l, rs[i]? = some r → ls[i]? = some l → ∃ d, H r = some (.lst [.ref d, .bl l])) → rs.length = ls.length → (((ns.map V.int).zip (rs.map V.ref)).filter (lastIn H)).map fstV = (selN ns ls).map V.int
  | [], _, _, _, _ => rfl
  | _ :: _, [], [], _, _ => rfl
  | _ :: _, [], _ :: _, _, h => by cases h
  | _ :: _, _ :: _, [], _, h => by cases h
  | n :: ns, r :: rs, l :: ls, h, hl => by
    have ih := selH ns rs ls (fun i r' l' h1 h2 => h (i + 1) r' l' (by simpa using h1) (by simpa using h2)) (by simpa using hl)
    obtain ⟨d, h0⟩ := h 0 r l rfl rfl
    have e : lastIn H (.int n, .ref r) = l := by simp only [lastIn, h0]
    rw [List.map_cons, List.map_cons, List.zip_cons_cons, List.filter_cons, e, selN, List.zip_cons_cons, List.filter_cons]
    cases l with
    | false => exact ih
    | true =>
      rw [if_pos rfl, if_pos rfl, List.map_cons, ih]
      rfl
def spEnd (K : PySem.W.Frag) : Sp := fun vs H Q _ => ∃ (a t : Addr) (rs ds : List Addr) (ms : List Mv) (ls : List Bool) (ns : List Int), vs = [.ref a, .ref t] ∧ PlainAt K H a rs ds ms ls ∧ SqT K H t (ns.map V.int) ∧ ns.length = ms.length ∧ ns.length ≤ 6 ∧ true ∈ ls ∧ ∀ H' m, Same H H' → IsMin (selN ns ls) m → Q (.int m) H'
/-! ### _law_is_number -/
def spLNum (K : PySem.W.Frag) : Sp := fun vs H Q _ => ∃ v, vs = [v] ∧ NumOk K H v ∧ Q (.bl (numV v)) H
end
end MN
/-! plain rows: the tree of moves, rounds, what a drawn form is -/
namespace MN
open PySem PySem.Spec PyProof.Rows L2
/-- n rows of moves, their signs among zs, each once, their ends below n -/
structure RowInv (zs : List Str) (n : Nat) (ms : List Mv) : Prop where
  len : ms.length = n
  to : ∀ m ∈ ms, ∀ q ∈ m, q.1 ∈ zs ∧ q.2 < n
  nd : ∀ m ∈ ms, (m.map (·.1)).Nodup
/-- each number from 1 below k stands behind a lesser one -/
def TreeTo (k : Nat) (ms : List Mv) : Prop := ∀ i, 0 < i → i < k → ∃ j m, j < i ∧ ms[j]? = some m ∧ ∃ q ∈ m, q.2 = i
theorem RowInv.few {zs : List Str} {n : Nat} {ms : List Mv} (h : RowInv zs n ms) {m : Mv} (hm : m ∈ ms) : m.length ≤ zs.length := by
  have := nodup_sub (l' := zs) (h.nd m hm) fun x hx => by
    obtain ⟨q, hq, rfl⟩ := List.mem_map.mp hx
    exact (h.to m hm q hq).1
  rwa [List.length_map] at this
theorem set_mem {ms : List Mv} {k : Nat} {m' x : Mv} (h : x ∈ ms.set k m') : x ∈ ms ∨ x = m' := List.mem_or_eq_of_mem_set h
theorem RowInv.put {zs : List Str} {n : Nat} {ms : List Mv} {k : Nat} {m : Mv} {z : Str} {t : Nat} (h : RowInv zs n ms) (hk : ms[k]? = some m) (hz : z ∈ zs) (hn : z ∉ m.map (·.1)) (ht : t < n) : RowInv zs n (ms.set k (m ++ [(z, t)])) := by
  have hm := List.mem_of_getElem? hk
  refine ⟨by rw [List.length_set]; exact h.len, fun x hx q hq => ?_, fun x hx => ?_⟩
  · rcases set_mem hx with hx | rfl
    · exact h.to x hx q hq
    · rcases List.mem_append.mp hq with hq | hq
      · exact h.to m hm q hq
      · rw [List.mem_singleton.mp hq]
        exact ⟨hz, ht⟩
  · rcases set_mem hx with hx | rfl
    · exact h.nd x hx
    · rw [List.map_append]
      refine List.nodup_append.mpr ⟨h.nd m hm, by simp, fun a ha b hb e => ?_⟩
      have hb' : b = z := by simpa using hb
      exact hn (hb' ▸ e ▸ ha)
theorem set_grow {ms : List Mv} {k j : Nat} {m m0 : Mv} {q : Str × Nat} (hk : ms[k]? = some m) (hj : ms[j]? = some m0) : ∃ m1, (ms.set k (m ++ [q]))[j]? = some m1 ∧ ∀ x ∈ m0, x ∈ m1 := by
  by_cases e : k = j
  · subst e
    rw [hk] at hj
    cases hj
    have hl := (List.getElem?_eq_some_iff.mp hk).1
    exact ⟨_, List.getElem?_set_self hl, fun x hx => List.mem_append_left _ hx⟩
  · exact ⟨m0, by rw [List.getElem?_set_ne e]; exact hj, fun x hx => hx⟩
theorem TreeTo.put {k' : Nat} {ms : List Mv} {k : Nat} {m : Mv} {q : Str × Nat} (h : TreeTo k' ms) (hk : ms[k]? = some m) : TreeTo k' (ms.set k (m ++ [q])) := fun i h0 hi => by
  obtain ⟨j, m0, hj, hm0, x, hx, e⟩ := h i h0 hi
  obtain ⟨m1, h1, h2⟩ := set_grow (q := q) hk hm0
  exact ⟨j, m1, hj, h1, x, h2 x hx, e⟩
theorem TreeTo.step {n : Nat} {ms : List Mv} {k : Nat} {m : Mv} {z : Str} (h : TreeTo n ms) (hk : ms[k]? = some m) (hlt : k < n) : TreeTo (n + 1) (ms.set k (m ++ [(z, n)])) := fun i h0 hi => by
  rcases Nat.lt_or_ge i n with h1 | h1
  · exact h.put hk i h0 h1
  · obtain rfl : i = n := by omega
    have hl := (List.getElem?_eq_some_iff.mp hk).1
    exact ⟨k, _, hlt, List.getElem?_set_self hl, (z, i), List.mem_append_right _ (List.mem_singleton.mpr rfl), rfl⟩
theorem RowInv.mvok {zs : List Str} {n : Nat} {ms : List Mv} (h : RowInv zs n ms) (hz : SigOk zs) : ∀ m ∈ ms, MvOk n m := fun m hm => by
  have h1 := h.few hm
  have h2 := hz.few
  exact ⟨by omega, fun q hq => hz.sg _ (h.to m hm q hq).1, fun q hq => (h.to m hm q hq).2, h.nd m hm⟩
/-! ### rounds -/
theorem stepU_get {ms : List Mv} {fs : List Bool} {i : Nat} {m : Mv} {b : Bool} (h1 : fs[i]? = some b) (h2 : ms[i]? = some m) : (stepU ms fs)[i]? = some (b || m.any fun q => fs.getD q.2 false) := by
  have ez : (fs.zip ms)[i]? = some (b, m) := List.getElem?_zip_eq_some.mpr ⟨h1, h2⟩
  simp [stepU, ez]
theorem leB_get {fs gs : List Bool} (h : leB fs gs) {i : Nat} (e : fs.getD i false = true) : gs.getD i false = true := by
  rw [List.getD_eq_getElem?_getD] at e ⊢
  cases q : fs[i]? with
  | none => rw [q] at e; cases e
  | some b =>
    rw [q] at e
    obtain rfl : b = true := e
    rw [h i q]
    rfl
theorem stepU_mono {ms : List Mv} {fs gs : List Bool} (hf : fs.length = ms.length) (hg : gs.length = ms.length) (h : leB fs gs) : leB (stepU ms fs) (stepU ms gs) := fun i hi => by
  have il : i < (stepU ms fs).length := (List.getElem?_eq_some_iff.mp hi).1
  rw [stepU_length hf] at il
  have e1 := List.getElem?_eq_getElem il
  have e2 := List.getElem?_eq_getElem (show i < ms.length by omega)
  have e3 := List.getElem?_eq_getElem (show i < gs.length by omega)
  rw [stepU_get e1 e2] at hi
  rw [stepU_get e3 e2]
  have hi' := Option.some.inj hi
  rw [Bool.or_eq_true] at hi'
  refine congrArg some ?_
  rw [Bool.or_eq_true]
  rcases hi' with hi' | hi'
  · refine .inl ?_
    have := h i (by rw [e1, hi'])
    rw [e3] at this
    exact Option.some.inj this
  · refine .inr ?_
    obtain ⟨q, hq, e⟩ := List.any_eq_true.mp hi'
    exact List.any_eq_true.mpr ⟨q, hq, leB_get h e⟩
theorem leB_trans {a b c : List Bool} (h1 : leB a b) (h2 : leB b c) : leB a c := fun i hi => h2 i (h1 i hi)
theorem stepN_le {ms : List Mv} {fs : List Bool} (hl : fs.length = ms.length) : ∀ k, leB fs (stepN ms k fs)
  | 0 => fun _ h => h
  | k + 1 => leB_trans (stepN_le hl k) (stepU_le (by rw [stepN_length hl]; exact hl))
theorem stepN_fix {ms : List Mv} {fs F : List Bool} (hf : fs.length = ms.length) (hF : F.length = ms.length) (fx : stepU ms F = F) (h : leB fs F) : ∀ k, leB (stepN ms k fs) F
  | 0 => h
  | k + 1 => by
    have := stepU_mono (by rw [stepN_length hf]; exact hf) hF (stepN_fix hf hF fx h k)
    rw [fx] at this
    exact this
/-- last as well what is not good -/
def lastOr (ls gs : List Bool) : List Bool := (ls.zip gs).map fun p => p.1 || !p.2
theorem lastOr_get {ls gs : List Bool} {i : Nat} {l g : Bool} (h1 : ls[i]? = some l) (h2 : gs[i]? = some g) : (lastOr ls gs)[i]? = some (l || !g) := by
  have ez : (ls.zip gs)[i]? = some (l, g) := List.getElem?_zip_eq_some.mpr ⟨h1, h2⟩
  simp [lastOr, ez]
theorem lastOr_len {ls gs : List Bool} (h : ls.length = gs.length) : (lastOr ls gs).length = ls.length := by
  simp [lastOr, h]
theorem lastOr_use {ms : List Mv} {ls : List Bool} (hl : ls.length = ms.length) (n : Nat) : ∀ k, stepU ms (stepN ms k (lastOr ls (stepN ms n ls))) = stepN ms k (lastOr ls (stepN ms n ls)) → ∀ b ∈ stepN ms k (lastOr ls (stepN ms n ls)), b = true := fun k fx b hb => by
  have hg : (stepN ms n ls).length = ms.length := by rw [stepN_length hl]; exact hl
  have h' : (lastOr ls (stepN ms n ls)).length = ms.length := by rw [lastOr_len (by omega)]; exact hl
  have hF : (stepN ms k (lastOr ls (stepN ms n ls))).length = ms.length := by rw [stepN_length h']; exact h'
  have le1 := stepN_le h' k
  have le0 : leB ls (lastOr ls (stepN ms n ls)) := fun i hi => by
    have il := (List.getElem?_eq_some_iff.mp hi).1
    rw [lastOr_get hi (List.getElem?_eq_getElem (show i < (stepN ms n ls).length by omega))]
    rfl
  have leg := stepN_fix hl hF fx (leB_trans le0 le1) n
  obtain ⟨i, hi⟩ := List.getElem?_of_mem hb
  have il : i < ms.length := by have := (List.getElem?_eq_some_iff.mp hi).1; omega
  have e1 := List.getElem?_eq_getElem (show i < ls.length by omega)
  have e2 := List.getElem?_eq_getElem (show i < (stepN ms n ls).length by omega)
  cases g : (stepN ms n ls)[i] with
  | true =>
    rw [g] at e2
    have := leg i e2
    rw [hi] at this
    exact Option.some.inj this
  | false =>
    rw [g] at e2
    have := le1 i (by rw [lastOr_get e1 e2]; simp)
    rw [hi] at this
    exact Option.some.inj this
/-! ### the heap: one move more -/
theorem valV_none {m : Mv} {z : Str} (h : z ∉ m.map (·.1)) : valV (mvK m) (.inr z) = none := by
  induction m with
  | nil => rfl
  | cons q m ih =>
    have h' : z ≠ q.1 ∧ z ∉ m.map (·.1) := by simpa using h
    exact (valV_neg (p := ((.inr q.1 : Key), V.int (q.2 : Int))) fun e => h'.1 (Sum.inr.inj e).symm).trans (ih h'.2)
theorem putK_mv {m : Mv} {z : Str} {t : Nat} (h : z ∉ m.map (·.1)) : putK (mvK m) (.inr z) (.int (t : Int)) = mvK (m ++ [(z, t)]) := by
  rw [putK_new _ (valV_none h)]
  simp [mvK]
theorem PlainAt.put {K : PySem.W.Frag} {H : Hp} {a d : Addr} {rs ds : List Addr} {ms : List Mv} {ls : List Bool} {k : Nat} {m m' : Mv} (h : PlainAt K H a rs ds ms ls) (nd : ds.Nodup) (hd : ds[k]? = some d) (hm : ms[k]? = some m) : PlainAt K (upd H d (.dK (mvK m'))) a rs ds (ms.set k m') ls := by
  have hdk := h.dc.2 k d m hd hm
  refine ⟨?_, by rw [List.length_set]; exact h.lr, by rw [List.length_set]; exact h.ll, ⟨by rw [List.length_set]; exact h.dc.1, fun i d' m1 h1 h2 => ?_⟩, fun i r d' l h1 h2 h3 => ?_⟩
  · rcases h.lst with (q | ⟨o, q⟩) | q
    · exact .inl (.inl (by rw [upd_ne (fun e => by rw [e, hdk] at q; cases q)]; exact q))
    · exact .inl (.inr ⟨o, by rw [upd_ne (fun e => by rw [e, hdk] at q; cases q)]; exact q⟩)
    · exact .inr q
  · by_cases e : k = i
    · subst e
      rw [hd] at h1
      cases h1
      have hl := (List.getElem?_eq_some_iff.mp hm).1
      rw [List.getElem?_set_self hl] at h2
      cases h2
      exact upd_same
    · rw [List.getElem?_set_ne e] at h2
      have ne : d' ≠ d := fun z => by
        subst z
        have l1 := (List.getElem?_eq_some_iff.mp h1).1
        have l2 := (List.getElem?_eq_some_iff.mp hd).1
        exact e ((List.getElem_inj nd (h₀ := l2) (h₁ := l1)).mp (by rw [(List.getElem?_eq_some_iff.mp hd).2, (List.getElem?_eq_some_iff.mp h1).2]))
      rw [upd_ne ne]
      exact h.dc.2 i d' m1 h1 h2
  · have q := h.pr i r d' l h1 h2 h3
    rw [upd_ne (fun e => by rw [e, hdk] at q; cases q)]
    exact q
/-- all but the pot stays -/
theorem PlainAt.ex {K : PySem.W.Frag} {H H' : Hp} {p a : Addr} {rs ds : List Addr} {ms : List Mv} {ls : List Bool} (h : PlainAt K H a rs ds ms ls) (hp : Pot H p) (ha : a ≠ p) (e : Ex p H H') : PlainAt K H' a rs ds ms ls := by
  obtain ⟨x, y, z, hp⟩ := hp
  refine ⟨e.seqL h.lst ha, h.lr, h.ll, ⟨h.dc.1, fun i d m h1 h2 => ?_⟩, fun i r d l h1 h2 h3 => ?_⟩
  · have q := h.dc.2 i d m h1 h2
    exact e.keep _ _ (fun z => by rw [z, hp] at q; cases q) q
  · have q := h.pr i r d l h1 h2 h3
    exact e.keep _ _ (fun z => by rw [z, hp] at q; cases q) q
end MN
/-! _law_plain_form -/
namespace MN
open PySem PySem.Spec PyProof.Rows L2
theorem neDK {X : Cx} {K : PySem.W.Frag} (hK : X.K = K) (hu : X.A.units + 64 < cLine) : OpR X (compareOp .NotEq) (rNeD K) := hK ▸ op_neD hu
/-- a comprehension over enumerate of a list -/
theorem lc_enumR {K : PySem.W.Frag} {a D : Addr} {H1 : Hp} {σ : L2.St} {vs : List Nat} {te : TE} {j1 j2 : Nat} {Qd : Hp → Prop} (xs : List V) (hs : SqL K H1 a xs) (hz : xs.length ≤ 1000) (hD : H1 D = none)
    (hw : ∀ (i : Nat) (x : V), xs[i]? = some x → wipe (((wipe σ vs).set j1 (some (.int (i : Nat)))).set j2 (some x)) vs = wipe σ vs)
    (R : Nat → V → Hp → Prop) (hR : ∀ k v H H', (∀ b o, b ≠ D → H b = some o → H' b = some o) → R k v H → R k v H')
    (he : ∀ (i : Nat) (x : V), xs[i]? = some x → ∀ H2, Same H1 H2 → (∃ o, H2 D = some o) → ∀ Q : VK, (∀ y H3, Same H2 H3 → R i y H3 → Q y H3) → te (((wipe σ vs).set j1 (some (.int (i : Nat)))).set j2 (some x)) H2 Q)
    (hd : ∀ H' outs, Same H1 H' → H' D = some (.lst outs) → outs.length = xs.length → (∀ (k : Nat) (v : V), outs[k]? = some v → R k v H') → Qd H') :
    LcGoal (Ite K a) (gTup K 2 (gCons (gName j1) (gCons (gName j2) gNil))) tYes te vs σ H1 D Qd := by
  refine lc_it (walk_enum (xs := xs)) (fun i H' => Same H1 H' ∧ ∃ outs, H' D = some (.lst outs) ∧ outs.length = i ∧ ∀ (k : Nat) (v : V), outs[k]? = some v → R k v H') ⟨same_new hD, [], upd_same, rfl, fun k v z => by simp at z⟩ (fun i H' _ e => Same.seq e.1 hs) (fun i x H H' hi e y => ?_) (fun H' e => ?_)
  · obtain ⟨T, x1, y1, rfl, hT, rfl, h1, hx⟩ := y
    cases h1
    obtain ⟨e1, outs, e2, e3, e4⟩ := e
    have sT := same_new (o := .tup [.int (i : Nat), y1]) hT
    have s1 := e1.trans sT
    refine ⟨T, _, rfl, .inl (.inl upd_same), rfl, _, _, rfl, _, _, rfl, rfl, hw _ _ hx, yes_q (iteT ?_)⟩
    refine he i _ hx _ s1 ⟨_, sT _ _ e2⟩ _ fun y H3 s3 r3 => ⟨outs, s3 _ _ (sT _ _ e2), ?_, fun b o q => ?_, _, upd_same, by rw [List.length_append, e3]; rfl, fun k v z => ?_⟩
    · have : 1000000 < sizeLine := by decide
      omega
    · rw [upd_ne (ne_of_none q hD)]
      exact s3 _ _ (s1 _ _ q)
    · have up : ∀ b o, b ≠ D → H3 b = some o → upd H3 D (.lst (outs ++ [y])) b = some o := fun b o n q => by rw [upd_ne n]; exact q
      rcases Nat.lt_or_ge k outs.length with hk | hk
      · rw [List.getElem?_append_left hk] at z
        exact hR _ _ _ _ (fun b o n q => up b o n (s3 _ _ (sT _ _ q))) (e4 k v z)
      · rw [List.getElem?_append_right hk] at z
        have hk2 : k - outs.length = 0 := by
          have := (List.getElem?_eq_some_iff.mp z).1
          simp at this
          omega
        rw [hk2] at z
        obtain rfl : y = v := by simpa using z
        obtain rfl : k = i := by omega
        exact hR _ _ _ _ up r3
  · obtain ⟨e1, outs, e2, e3, e4⟩ := e
    exact hd H' outs e1 e2 e3 e4
theorem outs_bl {ls : List Bool} {outs : List V} (hl : outs.length = ls.length) (h : ∀ (k : Nat) (v : V), outs[k]? = some v → ∃ b, ls[k]? = some b ∧ v = .bl b) : outs = ls.map V.bl := by
  refine List.ext_getElem? fun k => ?_
  rw [List.getElem?_map]
  cases e : outs[k]? with
  | none =>
    have : outs.length ≤ k := List.getElem?_eq_none_iff.mp e
    rw [List.getElem?_eq_none (show ls.length ≤ k by omega)]; rfl
  | some v =>
    obtain ⟨b, h1, rfl⟩ := h k v e
    rw [h1]; rfl
def goodIn (fs : List Bool) : V → Bool
  | .int t => fs.getD t.toNat false
  | _ => false
def goodTo (m : Mv) (fs : List Bool) : List Nat := (m.filter fun q => fs.getD q.2 false).map (·.2)
theorem goodIn_list {m : Mv} {fs : List Bool} : (((mvK m).map (·.2)).filter (goodIn fs)) = intsV (goodTo m fs) := by
  rw [mvK, List.map_map, List.filter_map, intsV, goodTo, List.map_map]
  refine congrArg (fun l => List.map _ l) (List.filter_congr fun q _ => ?_)
  rfl
theorem goodIn_any (m : Mv) (fs : List Bool) : (goodTo m fs).isEmpty = !(m.any fun q => fs.getD q.2 false) := by
  induction m with
  | nil => rfl
  | cons q m ih =>
    rw [goodTo] at ih ⊢
    rw [List.filter_cons, List.any_cons]
    cases h : fs.getD q.2 false with
    | true => rfl
    | false => simpa using ih
theorem shI (l : List Nat) : SeqAt.shaped (.list (l.map fun (i : Nat) => PyData.int (i : Int))) = true := shapedL fun d hd => by
  obtain ⟨i, _, rfl⟩ := List.mem_map.mp hd
  exact ⟨by rw [PyData.canLay0], by rw [PyData.depth]; omega⟩
theorem eqv_nil (l : List Nat) : PyData.eqv (.list (l.map fun (i : Nat) => PyData.int (i : Int))) (.list []) = l.isEmpty := by
  cases l with
  | nil => exact eqv_self (shI [])
  | cons a l => simp [PyData.eqv, PyData.eqvAll]
def freeIn (m : Mv) : V → Bool
  | .str z => !(valV (mvK m) (.inr z)).isSome
  | _ => false
theorem freeIn_iff {m : Mv} {z : Str} : freeIn m (.str z) = true ↔ z ∉ m.map (·.1) := by
  constructor
  · intro h q
    obtain ⟨i, e⟩ := valV_mem q
    have h : (!(valV (mvK m) (.inr z)).isSome) = true := h
    rw [e] at h
    cases h
  · intro h
    show (!(valV (mvK m) (.inr z)).isSome) = true
    rw [valV_none h]
    rfl
theorem free_pos {m : Mv} {zs : List Str} (nd : zs.Nodup) (h : m.length < zs.length) : 0 < ((zs.map V.str).filter (freeIn m)).length := by
  refine Classical.byContradiction fun h0 => ?_
  have e : (zs.map V.str).filter (freeIn m) = [] := List.eq_nil_of_length_eq_zero (by omega)
  have q := nodup_sub (l' := m.map (·.1)) nd fun z hz => Classical.byContradiction fun hn => by
    have := List.mem_filter.mpr ⟨List.mem_map.mpr ⟨z, hz, rfl⟩, freeIn_iff.mpr hn⟩
    rw [e] at this
    cases this
  rw [List.length_map] at q
  omega
section
variable {P : Program} {w : World} {K : PySem.W.Frag} {mg : Str → Option Value} {base : Heap}
def spPForm (K : PySem.W.Frag) : Sp := fun vs H Q _ => ∃ (p l : Addr) (zs : List Str) (k : Nat), vs = [.ref p, .ref l, .int (k : Int)] ∧ Pot H p ∧ l ≠ p ∧ SqL K H l (zs.map V.str) ∧ SigOk zs ∧ 1 ≤ k ∧ k ≤ 8 ∧
  ∀ a rs ds ms ls H', Ex p H H' → H a = none → PlainAt K H' a rs ds ms ls → ds.Nodup → StsOk ms ls → ms.length ≤ k → (∀ m ∈ ms, ∀ q ∈ m, q.1 ∈ zs) → Q (.ref a) H'
abbrev N_pf : List Str := ["_law_urn_here", "_law_signs", "_law_most", "_law_count", "_law_rows", "_law_at", "_law_spot", "_law_sign", "_law_one", "_law_row", "_law_good", "_law_turn", "_law_to"]
theorem sc_pf : FnScope N_pf ["_law_urn_here", "_law_signs", "_law_most"] (defScope (top 85)) := ⟨rfl, rfl, rfl, by decide +kernel, rfl, by decide +kernel, by decide +kernel⟩
abbrev scF : Scope := { kind := .function, names := [(".0", .local), ("_law_at", .local), ("_law_row", .local), ("_law_good", .cell)], isGenerator := false, isCoroutine := false }
theorem c_law_plain_form (A : At K mg "_law_plain_form" (top 85)) (B : Blt mg) (c_law_pull : Cal P w K mg base 1 "_law_pull" spDip) (c_law_from : Cal P w K mg base 2 "_law_from" (spFrom K)) : Cal P w K mg base 3 "_law_plain_form" (spPForm K) := by
  refine cal_of A sc_pf (fun _ _ _ _ _ _ us hl => match us, hl with | [_, _, _], _ => rfl) (fun vs H Q E h => ?_) (fun _ cdv A outer s H vs Q E hr h => ?_)
  · obtain ⟨_, _, _, _, rfl, _⟩ := h; rfl
  · obtain ⟨p, l, zs, k, rfl, hp, lp, hl, hz, hk1, hk8, hQ⟩ := h
    refine ⟨_, (pss_cons (ps_set (i := 3) sc_pf.nd rfl (Or.inl rfl) (pe_op op_add pe_int (pe_c c_law_pull hr (by decide) (by rfl) (pa_cons (pv 0) (pa_cons (pv 2) pa_nil)))))
      (pss_cons (ps_set (i := 4) sc_pf.nd rfl (Or.inr rfl) (pe_lc (own := [("_law_at", 5)]) (g := gName 5) (tt := tYes) (by rfl) sc_pf.nd (pi_range1 (by rfl) B.range (pa_cons (pv 3) pa_nil)) (blkOk_by (own := [("_law_at", 5)]) (N := N_pf) (sc := defScope (top 85)) (by decide +kernel)) (fun _ _ _ _ _ => (pg_name (i := 5) sc_pf.nd rfl (Or.inl rfl))) (fun _ _ _ _ _ => pts_nil) (fun _ _ _ _ _ => (pe_lst (pa_cons pe_dnewK (pa_cons (pe_cmpR op_eq (pe_c c_law_pull hr (by decide) (by rfl) (pa_cons (pv 0) (pa_cons pe_int pa_nil))) pe_int (nomark _)) pa_nil))))))
      (pss_cons (ps_for PassesOwn.never rfl (pi_range2 (by rfl) B.range (pa_cons pe_int (pa_cons (pv 3) pa_nil))) (pg_name (i := 5) sc_pf.nd rfl (Or.inl rfl))
        (pss_cons (ps_set (i := 6) sc_pf.nd rfl (Or.inr rfl) (pe_c c_law_pull hr (by decide) (by rfl) (pa_cons (pv 0) (pa_cons (pv 5) pa_nil))))
        (pss_cons (ps_set (i := 6) sc_pf.nd rfl (Or.inr rfl) (pe_ifExp (pt_cmpR op_lt (pe_callB call_lenD (by rfl) B.len (by decide +kernel) (pa_cons (pe_ix ix_list (pe_ix ix_list (pv 4) (pv 6) (fun _ _ => rfl)) pe_int (fun _ _ => rfl)) pa_nil)) (pe_callB call_len_seq (by rfl) B.len (by decide +kernel) (pa_cons (pv 1) pa_nil)) (nomark _)) (pv 6) (pe_op op_sub (pv 5) pe_int)))
        (pss_cons (ps_set (i := 7) sc_pf.nd rfl (Or.inl rfl) (pe_c c_law_from hr (by decide) (by rfl) (pa_cons (pv 0) (pa_cons (pe_lc (own := [("_law_one", 8)]) (g := gName 8) (by rfl) sc_pf.nd (pi_list (pv 1)) (blkOk_by (own := [("_law_one", 8)]) (N := N_pf) (sc := defScope (top 85)) (by decide +kernel)) (fun _ _ _ _ _ => (pg_name (i := 8) sc_pf.nd rfl (Or.inl rfl))) (fun _ _ _ _ _ => pts_one (pt_cmp (pc_dnotin (hu_of hr) (pv 8) (pe_ix (ixLK (K := K) rfl) (pe_ix (ixLK (K := K) rfl) (pv 4) (pv 6) (fun _ _ => rfl)) pe_int (fun _ _ => rfl))))) (fun _ _ _ _ _ => (pv 8))) pa_nil))))
        (pss_one (ps_asg (pv 5) (pg_sub (pe_ix ix_list (pe_ix ix_list (pv 4) (pv 6) (fun _ _ => rfl)) pe_int (fun _ _ => rfl)) (pv 7) (set_dict (hu_of hr)))))))))
      (pss_cons (ps_for PassesOwn.never rfl (pi_list (pv 4)) (pg_name (i := 9) sc_pf.nd rfl (Or.inl rfl))
        (pss_one (ps_for PassesOwn.never rfl (pi_list (pv 1)) (pg_name (i := 7) sc_pf.nd rfl (Or.inl rfl))
          (pss_one (ps_if (PW.pt (pw_and (pt_cmp (pc_dnotin (hu_of hr) (pv 7) (pe_ix ix_list (pv 9) pe_int (fun _ _ => rfl)))) (pw_and1 (pt_cmpR op_eq (pe_c c_law_pull hr (by decide) (by rfl) (pa_cons (pv 0) (pa_cons pe_int pa_nil))) pe_int (nomark _)))))
            (pss_one (ps_asg (pe_c c_law_pull hr (by decide) (by rfl) (pa_cons (pv 0) (pa_cons (pv 3) pa_nil))) (pg_sub (pe_ix ix_list (pv 9) pe_int (fun _ _ => rfl)) (pv 7) (set_dict (hu_of hr)))))
            pss_nil)))))
      (pss_cons (ps_set (i := 10) sc_pf.nd rfl (Or.inr rfl) (pe_lc (own := [("_law_row", 9)]) (g := gName 9) (tt := tYes) (by rfl) sc_pf.nd (pi_list (pv 4)) (blkOk_by (own := [("_law_row", 9)]) (N := N_pf) (sc := defScope (top 85)) (by decide +kernel)) (fun _ _ _ _ _ => (pg_name (i := 9) sc_pf.nd rfl (Or.inl rfl))) (fun _ _ _ _ _ => pts_nil) (fun _ _ _ _ _ => (pe_ix (ixLK (K := K) rfl) (pv 9) pe_int (fun _ _ => rfl)))))
      (pss_cons (ps_for PassesOwn.never rfl (pi_range1 (by rfl) B.range (pa_cons (pv 3) pa_nil)) (pg_name (i := 11) sc_pf.nd rfl (Or.inl rfl))
        (pss_one (ps_set (i := 10) sc_pf.nd rfl (Or.inr rfl) (pe_lc (own := [("_law_at", 5), ("_law_row", 9)]) (tt := tYes) (by rfl) sc_pf.nd (pi_enum (by rfl) B.enumerate (pa_cons (pv 4) pa_nil)) (blkOk_by (own := [("_law_at", 5), ("_law_row", 9)]) (N := N_pf) (sc := defScope (top 85)) (by decide +kernel)) (fun _ _ _ _ _ => (pg_tupK (K := K) (n := 2) rfl rfl (pgs_cons (pg_name (i := 5) sc_pf.nd rfl (Or.inl rfl)) (pgs_cons (pg_name (i := 9) sc_pf.nd rfl (Or.inl rfl)) pgs_nil)))) (fun _ _ _ _ _ => pts_nil)
          (fun _ _ _ _ _ => (pe_or (pe_ix (ixLK (K := K) rfl) (pv 10) (pv 5) (fun _ _ => rfl)) (pe_one (pe_cmpR (neDK (K := K) rfl hr.units) (pe_lock (pe_lc (own := [("_law_to", 12)]) (g := gName 12) (by rfl) sc_pf.nd (pi_values (pe_ix (ixLK (K := K) rfl) (pv 9) pe_int (fun _ _ => rfl))) (blkOk_by (own := [("_law_to", 12)]) (N := N_pf) (sc := scF) (by decide +kernel)) (fun _ _ _ _ _ => (pg_name (i := 12) sc_pf.nd rfl (Or.inl rfl))) (fun _ _ _ _ _ => pts_one (pt_val (pe_ix (ixLK (K := K) rfl) (pv 10) (pv 12) (fun _ _ => rfl)))) (fun _ _ _ _ _ => (pv 12)))) (pe_lst pa_nil) (nomark _)))))))))
      (pss_one (ps_ret (pe_lc (own := [("_law_at", 5), ("_law_row", 9)]) (tt := tYes) (by rfl) sc_pf.nd (pi_enum (by rfl) B.enumerate (pa_cons (pv 4) pa_nil)) (blkOk_by (own := [("_law_at", 5), ("_law_row", 9)]) (N := N_pf) (sc := defScope (top 85)) (by decide +kernel)) (fun _ _ _ _ _ => (pg_tupK (K := K) (n := 2) rfl rfl (pgs_cons (pg_name (i := 5) sc_pf.nd rfl (Or.inl rfl)) (pgs_cons (pg_name (i := 9) sc_pf.nd rfl (Or.inl rfl)) pgs_nil)))) (fun _ _ _ _ _ => pts_nil) (fun _ _ _ _ _ => (pe_lst (pa_cons (pe_ix (ixLK (K := K) rfl) (pv 9) pe_int (fun _ _ => rfl)) (pa_cons (pe_or (pe_ix (ixLK (K := K) rfl) (pv 9) pe_int (fun _ _ => rfl)) (pe_one (pe_not (pe_ix (ixLK (K := K) rfl) (pv 10) (pv 5) (fun _ _ => rfl))))) pa_nil))))))))))))), ?_⟩
    obtain ⟨pa, pb, pc, hp0⟩ := hp
    have hp : Pot H p := ⟨pa, pb, pc, hp0⟩
    refine ⟨_, rfl, _, rfl, p, _, pa, pb, pc, rfl, hp0, by omega, by omega, fun r a' b' c' r0 r1 => ?_⟩
    obtain ⟨c, rfl⟩ : ∃ c : Nat, r = c := ⟨r.toNat, by omega⟩
    have ex1 : Ex p H (upd H p (potO a' b' c')) := Ex.turn
    generalize upd H p (potO a' b' c') = H1 at ex1 ⊢
    refine ⟨_, _, rfl, rfl, ?_⟩
    have ck : c + 1 ≤ k := by omega
    -- rows
    refine ⟨_, rfl, _, rfl, by omega, by omega, fun D hD => ?_⟩
    have hD0 : H D = none := ex1.free hp hD
    have hDp : D ≠ p := (ne_of_none hp0 hD0).symm
    refine lc_it (walk_range (lo := 0)) (fun i H' => Ex p H H' ∧ ∃ (rs ds : List Addr) (ls : List Bool), rs.length = i ∧ ds.length = i ∧ ls.length = i ∧ H' D = some (.lst (rs.map V.ref)) ∧ (∀ (j : Nat) r d b, rs[j]? = some r → ds[j]? = some d → ls[j]? = some b → H' r = some (.lst [.ref d, .bl b]) ∧ r ≠ D) ∧ (∀ d ∈ ds, H' d = some (.dK []) ∧ H d = none) ∧ ds.Nodup)
      ⟨ex1.put hD0 hDp, [], [], [], rfl, rfl, rfl, upd_same, (fun j r d b z => by simp at z), (fun d hd => nomatch hd), List.nodup_nil⟩ (fun _ _ _ _ => trivial) (fun i x H2 H2' hi e y => ?_) (fun H2 e => ?_)
    · obtain ⟨rfl, rfl⟩ := y
      obtain ⟨ex, rs, ds, ls, lr, ld, ll, hD2, hrow, hds, hnd⟩ := e
      refine ⟨rfl, yes_q (iteT fun d hd => ?_)⟩
      obtain ⟨s3, u3⟩ := laid (.dK []) hd
      have ex3 := ex.new (o := .dK []) hd
      obtain ⟨x1, y1, z1, hp2⟩ := ex.pot
      have d0 : H d = none := ex.free hp hd
      have dp : d ≠ p := (ne_of_none hp0 d0).symm
      have dD : d ≠ D := (ne_of_none hD2 hd).symm
      have dnew : d ∉ ds := fun m => by
        have := (hds d m).1
        rw [hd] at this
        cases this
      generalize upd H2' d (.dK []) = H3 at s3 u3 ex3 ⊢
      obtain ⟨x3, y3, z3, hp3⟩ := ex3.pot
      refine ⟨_, rfl, p, _, x3, y3, z3, rfl, hp3, by decide, by decide, fun r4 x4 y4 z4 r40 r41 => ⟨rfl, (by show 2 ≤ sizeLine; decide), fun r hr' => ?_⟩⟩
      have k34 : ∀ b o, b ≠ p → H3 b = some o → upd H3 p (potO x4 y4 z4) b = some o := fun b o n q => by rw [upd_ne n]; exact q
      have ex4 := ex3.trans (Ex.turn (a := x4) (b := y4) (c := z4))
      generalize upd H3 p (potO x4 y4 z4) = H4 at k34 ex4 hr' ⊢
      generalize decide (V.int r4 = V.int 0) = b0
      obtain ⟨s5, u5⟩ := laid (.lst [.ref d, .bl b0]) hr'
      have ex5 := ex4.new (o := .lst [.ref d, .bl b0]) hr'
      have D4 := k34 _ _ hDp (s3 _ _ hD2)
      have D5 := s5 _ _ D4
      have rD : r ≠ D := (ne_of_none D4 hr').symm
      have d5 := s5 _ _ (k34 _ _ dp u3)
      generalize upd H4 r (.lst [.ref d, .bl b0]) = H5 at s5 u5 ex5 D5 d5 ⊢
      have up : ∀ b o, b ≠ D → H5 b = some o → upd H5 D (.lst (rs.map V.ref ++ [.ref r])) b = some o := fun b o n q => by rw [upd_ne n]; exact q
      have k25 : ∀ b o, b ≠ p → H2' b = some o → H5 b = some o := fun b o n q => s5 _ _ (k34 _ _ n (s3 _ _ q))
      refine ⟨rs.map V.ref, D5, ?_, ex5.put hD0 hDp, rs ++ [r], ds ++ [d], ls ++ [b0], by simp [lr], by simp [ld], by simp [ll], by rw [upd_same]; simp, fun j r' d' b' h1 h2 h3 => ?_, fun d' hd' => ?_, ?_⟩
      · have : 100000 < sizeLine := by decide
        rw [List.length_map]
        simp at hi
        omega
      · rcases Nat.lt_or_ge j i with hj | hj
        · rw [List.getElem?_append_left (by omega)] at h1 h2 h3
          obtain ⟨q, nq⟩ := hrow j r' d' b' h1 h2 h3
          refine ⟨up _ _ nq (k25 _ _ (fun z => ?_) q), nq⟩
          rw [z, hp2] at q
          cases q
        · have ej : j = i := by
            have := (List.getElem?_eq_some_iff.mp h1).1
            simp at this
            omega
          subst ej
          rw [List.getElem?_append_right (by omega), lr] at h1
          rw [List.getElem?_append_right (by omega), ld] at h2
          rw [List.getElem?_append_right (by omega), ll] at h3
          simp at h1 h2 h3
          subst h1 h2 h3
          exact ⟨up _ _ rD u5, rD⟩
      · rcases List.mem_append.mp hd' with hd' | hd'
        · obtain ⟨q, q0⟩ := hds d' hd'
          have n1 : d' ≠ D := fun z => by rw [z, hD2] at q; cases q
          have n2 : d' ≠ p := fun z => by rw [z, hp2] at q; cases q
          exact ⟨up _ _ n1 (k25 _ _ n2 q), q0⟩
        · rw [List.mem_singleton.mp hd']
          exact ⟨up _ _ dD d5, d0⟩
      · exact List.nodup_append.mpr ⟨hnd, by simp, fun a ha b hb e => dnew (by rw [← List.mem_singleton.mp hb, ← e]; exact ha)⟩
    obtain ⟨ex2, rs, ds, ls, lr, ld, ll, hD2, hrow, hds, hnd⟩ := e
    have lr' : rs.length = c + 1 := by rw [lr]; omega
    have ld' : ds.length = c + 1 := by rw [ld]; omega
    have ll' : ls.length = c + 1 := by rw [ll]; omega
    clear lr ld ll
    have d0 : ∀ d ∈ ds, H d = none := fun d hd => (hds d hd).2
    have hP0 : PlainAt K H2 D rs ds (List.replicate (c + 1) []) ls := by
      refine ⟨SqL.of hD2, by rw [List.length_replicate]; exact lr', by rw [List.length_replicate]; exact ll', ⟨by rw [List.length_replicate]; exact ld', fun i d m h1 h2 => ?_⟩, fun i r d b h1 h2 h3 => (hrow i r d b h1 h2 h3).1⟩
      have : m = [] := List.eq_of_mem_replicate (List.mem_of_getElem? h2)
      subst this
      exact (hds d (List.mem_of_getElem? h1)).1
    have hI0 : RowInv zs (c + 1) (List.replicate (c + 1) []) := ⟨by simp, (fun m hm q hq => by rw [List.eq_of_mem_replicate hm] at hq; cases hq), (fun m hm => by rw [List.eq_of_mem_replicate hm]; exact List.nodup_nil)⟩
    clear hds hrow
    have hzl : zs.length ≤ 5 := hz.few
    have dget : ∀ (m : Mv) (H' : Hp) (d : Addr) (z : Str), H' d = some (.dK (mvK m)) → DGet H' d (.str z) (valV (mvK m) (.inr z)) := fun m H' d z q => .inl ⟨mvK m, .inr z, .inl q, rfl, rfl⟩
    -- for at in range(1, count)
    refine ⟨_, rfl, _, _, rfl, ⟨by omega, by omega, by omega, by omega⟩, for_it (walk_range (lo := 1)) (fun i σ H' => Ex p H H' ∧ (∃ ms, PlainAt K H' D rs ds ms ls ∧ RowInv zs (c + 1) ms ∧ TreeTo (i + 1) ms ∧ ∀ (j : Nat) m, i ≤ j → ms[j]? = some m → m = []) ∧ ∃ o5 o6 o7, σ = [some (.ref p), some (.ref l), some (.int (k : Nat)), some (.int (1 + (c : Int))), some (.ref D), o5, o6, o7, none, none, none, none, none])
      ⟨ex2, ⟨_, hP0, hI0, fun i h1 h2 => by omega, fun j m _ h => List.eq_of_mem_replicate (List.mem_of_getElem? h)⟩, _, _, _, rfl⟩ (fun _ _ _ _ _ => trivial) (fun i x σ H3 H3' hi e y => ?_) (fun σ H3 e => ?_)⟩
    · obtain ⟨rfl, rfl⟩ := y
      obtain ⟨ex3, ⟨ms, hP, hI, hT, hE⟩, o5, o6, o7, rfl⟩ := e
      have ic : i < c := by simp at hi; omega
      obtain ⟨x3, y3, z3, hp3⟩ := ex3.pot
      refine ⟨_, rfl, _, rfl, p, _, x3, y3, z3, rfl, hp3, by omega, by omega, fun r x4 y4 z4 r0 r1 => ?_⟩
      obtain ⟨s, rfl⟩ : ∃ s : Nat, r = s := ⟨r.toNat, by omega⟩
      have ex34 : Ex p H3' (upd H3' p (potO x4 y4 z4)) := Ex.turn
      generalize upd H3' p (potO x4 y4 z4) = H4 at ex34 ⊢
      have ex4 := ex3.trans ex34
      have hP4 := hP.ex ⟨x3, y3, z3, hp3⟩ hDp ex34
      have hl4 := ex4.seqL hl lp
      have at_ : ∀ s : Nat, s ≤ i → ∃ r d m b, rs[s]? = some r ∧ ds[s]? = some d ∧ ms[s]? = some m ∧ atI (rs.map V.ref) (s : Int) = some (.ref r) ∧ H4 r = some (.lst [.ref d, .bl b]) ∧ H4 d = some (.dK (mvK m)) ∧ m ∈ ms := fun s hs => by
        have h1 := List.getElem?_eq_getElem (show s < rs.length by omega)
        have h2 := List.getElem?_eq_getElem (show s < ds.length by omega)
        have h3 := List.getElem?_eq_getElem (show s < ms.length by rw [hI.len]; omega)
        have h4 := List.getElem?_eq_getElem (show s < ls.length by omega)
        exact ⟨_, _, _, _, h1, h2, h3, atI_nat (by rw [List.getElem?_map, h1]; rfl), hP4.pr s _ _ _ h1 h2 h4, hP4.dc.2 s _ _ h2 h3, List.mem_of_getElem? h3⟩
      obtain ⟨rr, rd, rm, rb, e1, e2, e3, e4, e5, e6, e7⟩ := at_ s (by omega)
      refine ⟨_, rfl, _, rfl, D, _, _, _, rfl, rfl, hP4.lst, e4, rr, _, _, _, rfl, rfl, SqL.of e5, rfl, rd, _, rfl, e6, _, rfl, l, _, rfl, .inl hl4, _, _, rfl, rfl, _, rfl, ?_⟩
      refine ite2 (fun hc => ?_) (fun hc => ?_)
      · have hc : ((mvK rm).length : Int) < ((zs.map V.str).length : Nat) := of_decide_eq_true hc
        refine ⟨_, rfl, ?_⟩
        have hs' : ∃ s' : Nat, V.int (s : Int) = .int (s' : Int) ∧ s' ≤ i ∧ ∃ m, ms[s']? = some m ∧ m.length < zs.length := ⟨s, rfl, by omega, rm, e3, by simp [mvK] at hc; omega⟩
        generalize V.int (s : Int) = sv at hs' ⊢
        clear e1 e2 e3 e4 e5 e6 e7 hc
        obtain ⟨s', rfl, hsi, m', hm', hml⟩ := hs'
        obtain ⟨r2, d2, m2, b2, g1, g2, g3, g4, g5, g6, g7⟩ := at_ s' hsi
        rw [hm'] at g3
        cases g3
        refine ⟨_, rfl, _, rfl, l, rfl, ⟨_, hl4⟩, fun D3 hD3 => lc_lst hl4 hD3 (by rw [List.length_map]; omega) (freeIn m') (fun x => x) (fun x _ => rfl) (fun x hx acc Q q => ?_) (fun x hx _ acc Q q => ⟨_, rfl, q⟩) ?_⟩
        · obtain ⟨z, hz', rfl⟩ := List.mem_map.mp hx
          have sa := same_new (o := .lst acc) hD3
          exact ⟨_, rfl, _, rfl, _, rfl, D, _, _, _, rfl, rfl, Same.seq sa hP4.lst, g4, r2, _, _, _, rfl, rfl, SqL.of (sa _ _ g5), rfl, d2, _, rfl, dget m' _ _ z (sa _ _ g6), _, rfl, q⟩
        · rw [List.map_id']
          obtain ⟨sa, ua⟩ := laid (.lst ((zs.map V.str).filter (freeIn m'))) hD3
          have exa := ex4.new (o := .lst ((zs.map V.str).filter (freeIn m'))) hD3
          have D3p : D3 ≠ p := by
            obtain ⟨x, y, z, q⟩ := ex4.pot
            exact (ne_of_none q hD3).symm
          generalize upd H4 D3 (.lst ((zs.map V.str).filter (freeIn m'))) = H5 at sa ua exa ⊢
          have l5 := List.length_filter_le (freeIn m') (zs.map V.str)
          rw [List.length_map] at l5
          refine ⟨p, D3, _, rfl, exa.pot, D3p, SqL.of ua, free_pos hz.nd hml, by omega, fun v x6 y6 z6 hv => ?_⟩
          obtain ⟨hv1, hv2⟩ := List.mem_filter.mp hv
          obtain ⟨z, hzz, rfl⟩ := List.mem_map.mp hv1
          have hzn := freeIn_iff.mp hv2
          have ex56 : Ex p H5 (upd H5 p (potO x6 y6 z6)) := Ex.turn
          have ex6 := exa.trans ex56
          have hP6 := (hP4.same sa).ex exa.pot hDp ex56
          have n1 : r2 ≠ p := fun e => by
            obtain ⟨x, y, z, q⟩ := ex4.pot
            rw [e, q] at g5
            cases g5
          have n2 : d2 ≠ p := fun e => by
            obtain ⟨x, y, z, q⟩ := ex4.pot
            rw [e, q] at g6
            cases g6
          have g5' := ex56.keep _ _ n1 (sa _ _ g5)
          have g6' := ex56.keep _ _ n2 (sa _ _ g6)
          generalize upd H5 p (potO x6 y6 z6) = H6 at ex56 ex6 hP6 g5' g6' ⊢
          refine ⟨_, rfl, _, rfl, _, rfl, D, _, _, _, rfl, rfl, hP6.lst, g4, r2, _, _, _, rfl, rfl, SqL.of g5', rfl, _, rfl, d2, _, rfl, .inl ⟨mvK m', .inr z, g6', rfl, ?_, rfl⟩, ?_⟩
          · have : 100000 < sizeLine := by decide
            have := hI.few g7
            simp [mvK]
            omega
          · have ep : putK (mvK m') (.inr z) (.int (1 + (i : Int))) = mvK (m' ++ [(z, i + 1)]) := by
              rw [← putK_mv hzn]
              congr 2
              omega
            rw [ep]
            refine ⟨ex6.put (d0 d2 (List.mem_of_getElem? g2)) n2, ⟨_, hP6.put hnd g2 hm', hI.put hm' hzz hzn (by omega), TreeTo.step hT hm' (by omega), fun j m hj hmj => ?_⟩, _, _, _, rfl⟩
            rw [List.getElem?_set_ne (by omega)] at hmj
            exact hE j m (by omega) hmj
      · refine ⟨_, rfl, _, _, rfl, rfl, ?_⟩
        have hs' : ∃ s' : Nat, V.int (1 + (i : Int) - 1) = .int (s' : Int) ∧ s' ≤ i ∧ ∃ m, ms[s']? = some m ∧ m.length < zs.length := by
          have h3 := List.getElem?_eq_getElem (show i < ms.length by rw [hI.len]; omega)
          refine ⟨i, by congr 1; omega, Nat.le_refl _, _, h3, ?_⟩
          rw [hE i _ (Nat.le_refl _) h3]
          exact hz.pos
        show gName 6 (V.int (1 + (i : Int) - 1)) _ _ _
        generalize V.int (1 + (i : Int) - 1) = sv at hs' ⊢
        clear e1 e2 e3 e4 e5 e6 e7 hc
        obtain ⟨s', rfl, hsi, m', hm', hml⟩ := hs'
        obtain ⟨r2, d2, m2, b2, g1, g2, g3, g4, g5, g6, g7⟩ := at_ s' hsi
        rw [hm'] at g3
        cases g3
        refine ⟨_, rfl, _, rfl, l, rfl, ⟨_, hl4⟩, fun D3 hD3 => lc_lst hl4 hD3 (by rw [List.length_map]; omega) (freeIn m') (fun x => x) (fun x _ => rfl) (fun x hx acc Q q => ?_) (fun x hx _ acc Q q => ⟨_, rfl, q⟩) ?_⟩
        · obtain ⟨z, hz', rfl⟩ := List.mem_map.mp hx
          have sa := same_new (o := .lst acc) hD3
          exact ⟨_, rfl, _, rfl, _, rfl, D, _, _, _, rfl, rfl, Same.seq sa hP4.lst, g4, r2, _, _, _, rfl, rfl, SqL.of (sa _ _ g5), rfl, d2, _, rfl, dget m' _ _ z (sa _ _ g6), _, rfl, q⟩
        · rw [List.map_id']
          obtain ⟨sa, ua⟩ := laid (.lst ((zs.map V.str).filter (freeIn m'))) hD3
          have exa := ex4.new (o := .lst ((zs.map V.str).filter (freeIn m'))) hD3
          have D3p : D3 ≠ p := by
            obtain ⟨x, y, z, q⟩ := ex4.pot
            exact (ne_of_none q hD3).symm
          generalize upd H4 D3 (.lst ((zs.map V.str).filter (freeIn m'))) = H5 at sa ua exa ⊢
          have l5 := List.length_filter_le (freeIn m') (zs.map V.str)
          rw [List.length_map] at l5
          refine ⟨p, D3, _, rfl, exa.pot, D3p, SqL.of ua, free_pos hz.nd hml, by omega, fun v x6 y6 z6 hv => ?_⟩
          obtain ⟨hv1, hv2⟩ := List.mem_filter.mp hv
          obtain ⟨z, hzz, rfl⟩ := List.mem_map.mp hv1
          have hzn := freeIn_iff.mp hv2
          have ex56 : Ex p H5 (upd H5 p (potO x6 y6 z6)) := Ex.turn
          have ex6 := exa.trans ex56
          have hP6 := (hP4.same sa).ex exa.pot hDp ex56
          have n1 : r2 ≠ p := fun e => by
            obtain ⟨x, y, z, q⟩ := ex4.pot
            rw [e, q] at g5
            cases g5
          have n2 : d2 ≠ p := fun e => by
            obtain ⟨x, y, z, q⟩ := ex4.pot
            rw [e, q] at g6
            cases g6
          have g5' := ex56.keep _ _ n1 (sa _ _ g5)
          have g6' := ex56.keep _ _ n2 (sa _ _ g6)
          generalize upd H5 p (potO x6 y6 z6) = H6 at ex56 ex6 hP6 g5' g6' ⊢
          refine ⟨_, rfl, _, rfl, _, rfl, D, _, _, _, rfl, rfl, hP6.lst, g4, r2, _, _, _, rfl, rfl, SqL.of g5', rfl, _, rfl, d2, _, rfl, .inl ⟨mvK m', .inr z, g6', rfl, ?_, rfl⟩, ?_⟩
          · have : 100000 < sizeLine := by decide
            have := hI.few g7
            simp [mvK]
            omega
          · have ep : putK (mvK m') (.inr z) (.int (1 + (i : Int))) = mvK (m' ++ [(z, i + 1)]) := by
              rw [← putK_mv hzn]
              congr 2
              omega
            rw [ep]
            refine ⟨ex6.put (d0 d2 (List.mem_of_getElem? g2)) n2, ⟨_, hP6.put hnd g2 hm', hI.put hm' hzz hzn (by omega), TreeTo.step hT hm' (by omega), fun j m hj hmj => ?_⟩, _, _, _, rfl⟩
            rw [List.getElem?_set_ne (by omega)] at hmj
            exact hE j m (by omega) hmj
    obtain ⟨ex3, ⟨ms0, hP3, hI3, hT3, _⟩, o5, o6, o7, rfl⟩ := e
    have hT3 : TreeTo (c + 1) ms0 := by
      have e : (1 + (c : Int) - 1).toNat = c := by omega
      rw [e] at hT3
      exact hT3
    -- for row in rows
    refine ⟨_, rfl, D, rfl, ⟨_, hP3.lst⟩, for_it (walk_list (xs := rs.map V.ref)) (fun i σ H' => Ex p H H' ∧ (∃ ms, PlainAt K H' D rs ds ms ls ∧ RowInv zs (c + 1) ms ∧ TreeTo (c + 1) ms) ∧ ∃ o5 o6 o7 o9, σ = [some (.ref p), some (.ref l), some (.int (k : Nat)), some (.int (1 + (c : Int))), some (.ref D), o5, o6, o7, none, o9, none, none, none])
      ⟨ex3, ⟨_, hP3, hI3, hT3⟩, _, _, _, _, rfl⟩ (fun i σ H' _ e => by obtain ⟨_, ⟨_, q, _⟩, _⟩ := e; exact q.lst) (fun i x σ H4 H4' hi e y => ?_) (fun σ H4 e => ?_)⟩
    · obtain ⟨rfl, hx⟩ := y
      obtain ⟨ex4, ⟨ms1, hP4, hI4, hT4⟩, o5, o6, o7, o9, rfl⟩ := e
      rw [List.getElem?_map] at hx
      obtain ⟨r, hr1, rfl⟩ := Option.map_eq_some_iff.mp hx
      have il : i < c + 1 := by rw [← lr']; exact (List.getElem?_eq_some_iff.mp hr1).1
      have hl4 := ex4.seqL hl lp
      refine ⟨_, rfl, l, rfl, ⟨_, hl4⟩, for_it (walk_list (xs := zs.map V.str)) (fun j σ H' => Ex p H H' ∧ (∃ ms, PlainAt K H' D rs ds ms ls ∧ RowInv zs (c + 1) ms ∧ TreeTo (c + 1) ms) ∧ ∃ o5 o6 o7, σ = [some (.ref p), some (.ref l), some (.int (k : Nat)), some (.int (1 + (c : Int))), some (.ref D), o5, o6, o7, none, some (.ref r), none, none, none])
        ⟨ex4, ⟨_, hP4, hI4, hT4⟩, _, _, _, rfl⟩ (fun j σ H' _ e => e.1.seqL hl lp) (fun j x σ H5 H5' hj e y => ?_) (fun σ H5 e => ?_)⟩
      · obtain ⟨rfl, hx⟩ := y
        obtain ⟨ex5, ⟨ms, hP, hI, hT⟩, o5, o6, o7, rfl⟩ := e
        rw [List.getElem?_map] at hx
        obtain ⟨z, hz1, rfl⟩ := Option.map_eq_some_iff.mp hx
        have hzz := List.mem_of_getElem? hz1
        obtain ⟨d, h2⟩ : ∃ d, ds[i]? = some d := ⟨_, List.getElem?_eq_getElem (show i < ds.length by omega)⟩
        obtain ⟨m, h3⟩ : ∃ m, ms[i]? = some m := ⟨_, List.getElem?_eq_getElem (show i < ms.length by rw [hI.len]; omega)⟩
        obtain ⟨b, h4⟩ : ∃ b, ls[i]? = some b := ⟨_, List.getElem?_eq_getElem (show i < ls.length by omega)⟩
        have g5 := hP.pr i r d b hr1 h2 h4
        have g6 := hP.dc.2 i d m h2 h3
        obtain ⟨x5, y5, z5, hp5⟩ := ex5.pot
        have n1 : r ≠ p := fun e => by rw [e, hp5] at g5; cases g5
        have n2 : d ≠ p := fun e => by rw [e, hp5] at g6; cases g6
        refine ⟨_, rfl, _, rfl, r, _, _, _, rfl, rfl, SqL.of g5, rfl, d, _, rfl, dget m _ _ z g6, _, rfl, ?_⟩
        show (if freeIn m (.str z) = true then _ else _)
        cases hf : freeIn m (.str z) with
        | false => exact iteF ⟨ex5, ⟨_, hP, hI, hT⟩, _, _, _, rfl⟩
        | true =>
          have hzn := freeIn_iff.mp hf
          refine iteT ⟨_, rfl, p, _, x5, y5, z5, rfl, hp5, by decide, by decide, fun r6 x6 y6 z6 _ _ => ⟨rfl, _, rfl, ?_⟩⟩
          have ex56 : Ex p H5' (upd H5' p (potO x6 y6 z6)) := Ex.turn
          have hP6 := hP.ex ex5.pot hDp ex56
          have g5a := ex56.keep _ _ n1 g5
          have g6a := ex56.keep _ _ n2 g6
          have ex6 := ex5.trans ex56
          generalize upd H5' p (potO x6 y6 z6) = H6 at ex56 hP6 ex6 g5a g6a ⊢
          refine ite2 (fun _ => ?_) (fun _ => ⟨ex6, ⟨_, hP6, hI, hT⟩, _, _, _, rfl⟩)
          obtain ⟨x6, y6, z6, hp6⟩ := ex6.pot
          refine ⟨_, rfl, _, rfl, p, _, x6, y6, z6, rfl, hp6, by omega, by omega, fun t x7 y7 z7 t0 t1 => ?_⟩
          obtain ⟨t, rfl⟩ : ∃ t' : Nat, t = t' := ⟨t.toNat, by omega⟩
          have ex67 : Ex p H6 (upd H6 p (potO x7 y7 z7)) := Ex.turn
          have hP7 := hP6.ex ex6.pot hDp ex67
          have g5b := ex67.keep _ _ n1 g5a
          have g6b := ex67.keep _ _ n2 g6a
          have ex7 := ex6.trans ex67
          generalize upd H6 p (potO x7 y7 z7) = H7 at ex67 hP7 ex7 g5b g6b ⊢
          refine ⟨_, rfl, r, _, _, _, rfl, rfl, SqL.of g5b, rfl, _, rfl, d, _, rfl, .inl ⟨mvK m, .inr z, g6b, rfl, ?_, rfl⟩, ?_⟩
          · have : 100000 < sizeLine := by decide
            have := hI.few (List.mem_of_getElem? h3)
            simp [mvK]
            omega
          · rw [putK_mv hzn]
            exact ⟨ex7.put (d0 d (List.mem_of_getElem? h2)) n2, ⟨_, hP7.put hnd h2 h3, hI.put h3 hzz hzn (by omega), hT.put h3⟩, _, _, _, rfl⟩
      · obtain ⟨ex5, hm, o5, o6, o7, rfl⟩ := e
        exact ⟨ex5, hm, _, _, _, _, rfl⟩
    obtain ⟨ex4, ⟨ms, hP, hI, hT⟩, o5, o6, o7, o9, rfl⟩ := e
    have mlen := hI.len
    -- good
    refine ⟨_, rfl, D, rfl, ⟨_, hP.lst⟩, fun G0 hG0 => lc_lstR (rs.map V.ref) hP.lst (by rw [List.length_map]; omega) hG0 (fun x _ => rfl) (fun k v _ => ∃ b, ls[k]? = some b ∧ v = .bl b) (fun _ _ _ _ _ r => r) (fun i x hx H2 e2 _ Q q => ?_) (fun H5 outs s5 u5 l5 r5 => ?_)⟩
    · rw [List.getElem?_map] at hx
      obtain ⟨r, hr1, rfl⟩ := Option.map_eq_some_iff.mp hx
      have il := (List.getElem?_eq_some_iff.mp hr1).1
      have h2 := List.getElem?_eq_getElem (show i < ds.length by omega)
      have h4 := List.getElem?_eq_getElem (show i < ls.length by omega)
      exact ⟨_, rfl, r, _, _, _, rfl, rfl, SqL.of (e2 _ _ (hP.pr i r _ _ hr1 h2 h4)), rfl, q _ _ (Same.refl _) ⟨_, h4, rfl⟩⟩
    obtain rfl := outs_bl (by rw [l5, List.length_map]; omega) r5
    have hP5 := hP.same s5
    have ex5 := ex4.same s5
    have lms : ls.length = ms.length := by omega
    -- rounds
    refine ⟨_, rfl, _, rfl, by omega, by omega, for_it (walk_range (lo := 0)) (fun i σ H' => Same H5 H' ∧ ∃ o5 o6 o7 o9 o11 g, σ = [some (.ref p), some (.ref l), some (.int (k : Nat)), some (.int (1 + (c : Int))), some (.ref D), o5, o6, o7, none, o9, some (.ref g), o11, none] ∧ H' g = some (.lst ((stepN ms i ls).map V.bl)))
      ⟨Same.refl _, _, _, _, _, _, _, rfl, u5⟩ (fun _ _ _ _ _ => trivial) (fun i x σ H6 H6' hi e y => ?_) (fun σ H6 e => ?_)⟩
    · obtain ⟨rfl, rfl⟩ := y
      obtain ⟨s6, o5, o6, o7, o9, o11, g, rfl, ug⟩ := e
      have hP6 := hP5.same s6
      have fl : (stepN ms i ls).length = ms.length := by rw [stepN_length lms]; exact lms
      refine ⟨_, rfl, D, _, rfl, hP6.lst, fun G hG => lc_enumR (rs.map V.ref) hP6.lst (by rw [List.length_map]; omega) hG (fun i x _ => rfl) (fun k v _ => ∃ b, (stepU ms (stepN ms i ls))[k]? = some b ∧ v = .bl b) (fun _ _ _ _ _ r => r) (fun j x hx H7 s7 _ Q q => ?_) (fun H7 outs s7 u7 l7 r7 => ?_)⟩
      · rw [List.getElem?_map] at hx
        obtain ⟨r, hr1, rfl⟩ := Option.map_eq_some_iff.mp hx
        have jl := (List.getElem?_eq_some_iff.mp hr1).1
        obtain ⟨d, h2⟩ : ∃ d, ds[j]? = some d := ⟨_, List.getElem?_eq_getElem (show j < ds.length by omega)⟩
        obtain ⟨m, h3⟩ : ∃ m, ms[j]? = some m := ⟨_, List.getElem?_eq_getElem (show j < ms.length by omega)⟩
        obtain ⟨b, h4⟩ : ∃ b, ls[j]? = some b := ⟨_, List.getElem?_eq_getElem (show j < ls.length by omega)⟩
        obtain ⟨f, h5⟩ : ∃ f, (stepN ms i ls)[j]? = some f := ⟨_, List.getElem?_eq_getElem (show j < (stepN ms i ls).length by omega)⟩
        have g5 := s7 _ _ (hP6.pr j r d b hr1 h2 h4)
        have g6 := s7 _ _ (hP6.dc.2 j d m h2 h3)
        have g7 := s7 _ _ ug
        have st := stepU_get (ms := ms) h5 h3
        generalize stepN ms i ls = fs at *
        refine ⟨_, rfl, _, rfl, g, _, _, .bl f, rfl, rfl, SqL.of g7, atI_nat (by rw [List.getElem?_map, h5]; rfl), _, rfl, ?_⟩
        cases f with
        | true => exact iteT (q _ _ (Same.refl _) ⟨_, st, by rw [Bool.true_or]⟩)
        | false =>
          rw [Bool.false_or] at st
          have nr : r ≠ d := fun e => by rw [e, g6] at g5; cases g5
          have ng : g ≠ d := fun e => by rw [e, g6] at g7; cases g7
          have ml := hI.few (List.mem_of_getElem? h3)
          refine iteF ⟨d, _, g6, trivial, fun od => ⟨_, rfl, r, _, _, .ref d, rfl, rfl, SqL.of (by rw [upd_ne nr]; exact g5), rfl, d, od, _, rfl, upd_same, fun D2 hD2 => ?_⟩⟩
          refine lc_valsL g6 hD2 (by simp [mvK]; omega) (goodIn fs) (fun x => x) (fun x _ => rfl) (fun x hx H8 f8 k8 Q q => ?_) (fun x hx _ H8 f8 k8 Q q => ⟨_, rfl, q⟩) (fun H8 f8 s8 u8 => ⟨f8, ?_⟩)
          · obtain ⟨kv, hkv, rfl⟩ := List.mem_map.mp hx
            obtain ⟨q0, hq0, rfl⟩ := List.mem_map.mp hkv
            have hlt : q0.2 < fs.length := by
              have := (hI.to m (List.mem_of_getElem? h3) q0 hq0).2
              omega
            refine ⟨_, rfl, _, rfl, g, _, _, .bl (fs.getD q0.2 false), rfl, rfl, SqL.of (k8 _ _ ng g7), atI_nat ?_, _, rfl, q⟩
            rw [List.getElem?_map, List.getElem?_eq_getElem hlt, List.getD_eq_getElem?_getD, List.getElem?_eq_getElem hlt]
            rfl
          · rw [List.map_id', goodIn_list] at u8
            generalize upd H8 d (.dK (mvK m)) = H9 at s8 u8 ⊢
            refine ⟨(by show 0 ≤ sizeLine; decide), fun E1 hE1 => ?_⟩
            obtain ⟨s9, u9⟩ := laid (.lst []) hE1
            generalize upd H9 E1 (.lst []) = Ha at s9 u9 ⊢
            refine ⟨_, _, .lst (SqL.of (s9 _ _ u8)) (dp_ints _), .lst (SqL.of u9) .nil, shI _, shI [], ?_⟩
            refine q _ _ (s8.trans s9) ⟨_, st, ?_⟩
            rw [eqv_nil]
            refine congrArg V.bl ?_
            rw [Bool.not_eq_eq_eq_not]
            exact goodIn_any m fs
      · have e7 := outs_bl (ls := stepU ms (stepN ms i ls)) (by rw [l7, List.length_map, stepU_length fl]; omega) r7
        subst e7
        exact ⟨s6.trans s7, _, _, _, _, _, _, rfl, u7⟩
    obtain ⟨s6, o5, o6, o7, o9, o11, g, rfl, ug⟩ := e
    have hP6 := hP5.same s6
    have ex6 := ex5.same s6
    have fl : (stepN ms (1 + (c : Int)).toNat ls).length = ms.length := by rw [stepN_length lms]; exact lms
    have hus := lastOr_use lms (1 + (c : Int)).toNat
    generalize stepN ms (1 + (c : Int)).toNat ls = fs at ug fl hus
    have lol : (lastOr ls fs).length = ms.length := by rw [lastOr_len (by omega)]; exact lms
    refine ⟨_, rfl, D, _, rfl, hP6.lst, fun G hG => lc_enumR (rs.map V.ref) hP6.lst (by rw [List.length_map]; omega) hG (fun i x _ => rfl) (fun k v H' => ∃ r' d b, v = .ref r' ∧ H' r' = some (.lst [.ref d, .bl b]) ∧ r' ≠ G ∧ ds[k]? = some d ∧ (lastOr ls fs)[k]? = some b) (fun k v H1 H2 e ⟨r', d, b, h1, h2, h3, h4⟩ => ⟨r', d, b, h1, e _ _ h3 h2, h3, h4⟩) (fun j x hx H7 s7 ⟨o, ho⟩ Q q => ?_) (fun H7 outs s7 u7 l7 r7 => ?_)⟩
    · rw [List.getElem?_map] at hx
      obtain ⟨r, hr1, rfl⟩ := Option.map_eq_some_iff.mp hx
      have jl := (List.getElem?_eq_some_iff.mp hr1).1
      obtain ⟨d, h2⟩ : ∃ d, ds[j]? = some d := ⟨_, List.getElem?_eq_getElem (show j < ds.length by omega)⟩
      obtain ⟨b, h4⟩ : ∃ b, ls[j]? = some b := ⟨_, List.getElem?_eq_getElem (show j < ls.length by omega)⟩
      obtain ⟨f, h5⟩ : ∃ f, fs[j]? = some f := ⟨_, List.getElem?_eq_getElem (show j < fs.length by omega)⟩
      have g5 := s7 _ _ (hP6.pr j r d b hr1 h2 h4)
      have g7 := s7 _ _ ug
      have lo := lastOr_get h4 h5
      have fin : ∀ R, H7 R = none → Q (.ref R) (upd H7 R (.lst [.ref d, .bl (b || !f)])) := fun R hR => q _ _ (same_new hR) ⟨R, d, _, rfl, upd_same, (fun z => by rw [z, ho] at hR; cases hR), h2, lo⟩
      refine ⟨_, rfl, r, _, _, _, rfl, rfl, SqL.of g5, rfl, _, rfl, r, _, _, _, rfl, rfl, SqL.of g5, rfl, _, rfl, ?_⟩
      cases b with
      | true => exact iteT ⟨(by show 2 ≤ sizeLine; decide), fin⟩
      | false => exact iteF ⟨_, rfl, _, rfl, g, _, _, .bl f, rfl, rfl, SqL.of g7, atI_nat (by rw [List.getElem?_map, h5]; rfl), _, rfl, (by show 2 ≤ sizeLine; decide), fin⟩
    · obtain ⟨rs', rfl⟩ := refs_of fun k v hk => by
        obtain ⟨t, _, _, h, _⟩ := r7 k v hk
        exact ⟨t, h⟩
      rw [List.length_map, List.length_map] at l7
      refine hQ G rs' ds ms (lastOr ls fs) H7 (ex6.same s7) (ex6.free hp hG) ⟨SqL.of u7, by omega, lol, (hP6.same s7).dc, fun i r' d b h1 h2 h3 => ?_⟩ hnd ⟨by omega, by omega, fun m hm => ?_, ⟨fun m hm q hq => ?_, fun i h0 hi => ?_⟩, hus⟩ (by omega) (fun m hm q hq => (hI.to m hm q hq).1)
      · obtain ⟨t, d', b', e, g1, _, g2, g3⟩ := r7 i (.ref r') (by rw [List.getElem?_map, h1]; rfl)
        cases e
        rw [h2] at g2
        rw [h3] at g3
        cases g2
        cases g3
        exact g1
      · rw [mlen]
        exact hI.mvok hz m hm
      · rw [mlen]
        exact (hI.to m hm q hq).2
      · exact hT i h0 (by omega)
end
end MN
/-! some state is last; rows of numbers as data -/
namespace MN
open PySem PySem.Spec PyProof.Rows L2
theorem StsOk.some {ms : List Mv} {ls : List Bool} (h : StsOk ms ls) (hl : ls.length = ms.length) : true ∈ ls := by
  refine Classical.byContradiction fun hn => ?_
  have all : ∀ b ∈ ls, b = false := fun b hb => by
    cases b with
    | false => rfl
    | true => exact absurd hb hn
  have fx : stepU ms (stepN ms 0 ls) = stepN ms 0 ls := stepU_none hl all
  have p := h.pos
  have h0 : 0 < ls.length := by omega
  have m0 := List.getElem_mem h0
  have := h.use 0 fx _ m0
  rw [all _ m0] at this
  cases this
theorem dpZ {K : PySem.W.Frag} {H : Hp} : ∀ l : List Int, DpAll K H (l.map V.int) (l.map PyData.int)
  | [] => .nil
  | i :: l => .cons (.int i) (dpZ l)
theorem shZ (l : List Int) : SeqAt.shaped (.tuple (l.map PyData.int)) = true := shapedT fun d hd => by
  obtain ⟨i, _, rfl⟩ := List.mem_map.mp hd
  exact ⟨by rw [PyData.canLay0], by rw [PyData.depth]; omega⟩
theorem ixN_of {n k : Nat} (h : k < n) : ixN n (k : Int) = some k := by
  unfold ixN
  simp [h]
def NumL (ns : List Int) : Prop := ∀ n ∈ ns, numI n = true
theorem NumL.row {ns : List Int} (h : NumL ns) (h1 : 1 ≤ ns.length) (h6 : ns.length ≤ 6) : rowB (ns.map V.int) = true := by
  refine rowB_of (by rw [List.length_map]; exact h1) (by rw [List.length_map]; exact h6) ?_
  rw [List.all_map]
  exact List.all_eq_true.mpr fun n hn => h n hn
end MN
/-! the class Form in the head's run -/
namespace MN
open PySem PySem.Spec PyProof.Rows L2
theorem slB_ok2 {K : PySem.W.Frag} {C : Addr} {f : Str} (h : slB K C f = true) : ∃ i, SlX.Slot1 K C f (He.ma K C f) i := by
  obtain ⟨h1, h⟩ := He.ba h
  obtain ⟨h2, h⟩ := He.ba h
  obtain ⟨h3, h⟩ := He.ba h
  obtain ⟨h4, h5⟩ := He.ba h
  cases e : PySem.W.slotIn K (He.ma K C f) C with
  | none =>
    rw [e] at h5
    cases h5
  | some i =>
    rw [e] at h5
    exact ⟨i, He.eqO_ok h1, He.eqO_ok h2, of_decide_eq_true h3, of_decide_eq_true h4, e, of_decide_eq_true h5⟩
def formB (K : PySem.W.Frag) : Bool := scB K (He.ga K "Form") && (siB K (He.ga K "Form") && (decide (PySem.W.kitOne K (.ref (He.ga K "Form")) (.ref (He.ga K "Form")) = some true) && (slB K (He.ga K "Form") "own_moves" && (slB K (He.ga K "Form") "own_lasts" &&
  (decide (PySem.W.slotIn K (He.ma K (He.ga K "Form") "own_moves") (He.ga K "Form") ≠ PySem.W.slotIn K (He.ma K (He.ga K "Form") "own_lasts") (He.ga K "Form")) &&
  ((He.Fa.mkr "Form").ok K && (He.eqO (PySem.W.findIn K (.ref (He.ga K "Form")) "__len__") (some (some (.ref (He.ma K (He.ga K "Form") "__len__")))) && PySem.W.isFn K (.ref (He.ma K (He.ga K "Form") "__len__")))))))))
theorem formB_ok {K : PySem.W.Frag} {fi fl : FuncData} (h : formB K = true) (Fi : FunAt K "__init__" "Form.__init__" (inClass (top 51) 1) [] (He.ma K (He.ga K "Form") "__init__") fi) (Fl : FunAt K "__len__" "Form.__len__" (inClass (top 51) 24) [] (He.ma K (He.ga K "Form") "__len__") fl) :
    ∃ p0 p1 i0 i1, FormC K (He.ga K "Form") p0 p1 i0 i1 := by
  obtain ⟨e1, h⟩ := He.ba h
  obtain ⟨e2, h⟩ := He.ba h
  obtain ⟨e3, h⟩ := He.ba h
  obtain ⟨e4, h⟩ := He.ba h
  obtain ⟨e5, h⟩ := He.ba h
  obtain ⟨e6, h⟩ := He.ba h
  obtain ⟨e7, h⟩ := He.ba h
  obtain ⟨e8, e9⟩ := He.ba h
  obtain ⟨i0, s0⟩ := slB_ok2 e4
  obtain ⟨i1, s1⟩ := slB_ok2 e5
  refine ⟨_, _, i0, i1, scB_ok e1, siB_ok e2, s0, s1, fun z => of_decide_eq_true e6 ?_, of_decide_eq_true e3, ⟨_, fi, He.mkr_ok e7, Fi⟩, ⟨_, fl, He.eqO_ok e8, e9, Fl⟩⟩
  rw [s0.ix, s1.ix, z]
end MN
/-! forms with their moves: in_order, Form.__init__, forms of plain rows -/
namespace MN
open PySem PySem.Spec PyProof.Rows L2
def tgtOf (m : Mv) (z : Str) : Nat := ((m.find? fun q => decide (q.1 = z)).map (·.2)).getD 0
theorem tgtOf_mem : ∀ {m : Mv}, (m.map (·.1)).Nodup → ∀ {q : Str × Nat}, q ∈ m → tgtOf m q.1 = q.2
  | [], _, _, h => nomatch h
  | a :: m, nd, q, h => by
    rw [List.map_cons, List.nodup_cons] at nd
    unfold tgtOf
    rw [List.find?_cons]
    rcases List.mem_cons.mp h with rfl | h
    · simp
    · have : a.1 ≠ q.1 := fun e => nd.1 (by rw [e]; exact List.mem_map.mpr ⟨q, h, rfl⟩)
      simp only [this, decide_false]
      exact tgtOf_mem nd.2 h
theorem mvK_perm {m : Mv} (nd : (m.map (·.1)).Nodup) {ys : List Str} (h : ys.Perm (m.map (·.1))) : ∃ m' : Mv, m'.Perm m ∧ dkF ys (fun z => (tgtOf m z : Int)) = mvK m' := by
  refine ⟨ys.map fun z => (z, tgtOf m z), ?_, by simp [dkF, mvK]⟩
  have := h.map fun z => (z, tgtOf m z)
  refine this.trans (List.Perm.of_eq ?_)
  rw [List.map_map]
  conv => rhs; rw [← List.map_id m]
  exact List.map_congr_left fun q hq => Prod.ext rfl (tgtOf_mem nd hq)
theorem valV_mv {m : Mv} (nd : (m.map (·.1)).Nodup) {z : Str} (h : z ∈ m.map (·.1)) : valV (mvK m) (.inr z) = some (.int (tgtOf m z : Int)) := by
  obtain ⟨q, hq, rfl⟩ := List.mem_map.mp h
  rw [tgtOf_mem nd hq]
  refine valV_of ?_ (List.mem_map.mpr ⟨q, hq, rfl⟩)
  unfold mvK
  rw [List.map_map]
  have : (m.map ((fun kv : Key × V => kv.1) ∘ fun q : Str × Nat => ((Sum.inr q.1 : Key), V.int (q.2 : Int)))) = (m.map (·.1)).map Sum.inr := by rw [List.map_map]; rfl
  rw [this]
  exact nodup_map (fun a b e => Sum.inr.inj e) nd
/-- a comprehension over a tuple of pairs, each item a new object -/
theorem lc_pairsF {K : PySem.W.Frag} {a D : Addr} {H1 : Hp} {σ : L2.St} {vs : List Nat} {te : TE} {j1 j2 : Nat} {Qd : Hp → Prop} (ts : List Addr) (ps : List (V × V)) (hl : ts.length = ps.length) (hs : SqT K H1 a (ts.map V.ref)) (hz : ts.length ≤ 1000) (hD : H1 D = none)
    (hp : ∀ (i : Nat) (t : Addr) (p : V × V), ts[i]? = some t → ps[i]? = some p → SqT K H1 t [p.1, p.2]) (hw : ∀ p ∈ ps, wipe (((wipe σ vs).set j1 (some p.1)).set j2 (some p.2)) vs = wipe σ vs)
    (R : Nat → Addr → Hp → Prop) (hR : ∀ k v H H', (∀ b o, b ≠ D → H b = some o → H' b = some o) → v ≠ D → R k v H → R k v H') (hE : ∀ k v H, R k v H → ∃ o, H v = some o)
    (he : ∀ (i : Nat) (p : V × V), ps[i]? = some p → ∀ H2, Same H1 H2 → (∃ o, H2 D = some o) → ∀ Q : VK, (∀ y H3, H2 y = none → Same H2 H3 → R i y H3 → Q (.ref y) H3) → te (((wipe σ vs).set j1 (some p.1)).set j2 (some p.2)) H2 Q)
    (hd : ∀ (H' : Hp) (qs : List Addr), Same H1 H' → H' D = some (.lst (qs.map V.ref)) → qs.Nodup → D ∉ qs → qs.length = ps.length → (∀ (k : Nat) (q : Addr), qs[k]? = some q → R k q H') → Qd H') :
    LcGoal (Itt K a) (gTup K 2 (gCons (gName j1) (gCons (gName j2) gNil))) tYes te vs σ H1 D Qd := by
  refine lc_it walk_tup (fun i H' => Same H1 H' ∧ ∃ qs : List Addr, H' D = some (.lst (qs.map V.ref)) ∧ qs.Nodup ∧ D ∉ qs ∧ qs.length = i ∧ ∀ (k : Nat) (v : Addr), qs[k]? = some v → R k v H') ⟨same_new hD, [], upd_same, List.nodup_nil, by simp, rfl, fun k v z => by simp at z⟩ (fun i H' _ e => Same.seqT e.1 hs) (fun i x H H' hi e y => ?_) (fun H' e => ?_)
  · obtain ⟨rfl, hx⟩ := y
    obtain ⟨e1, qs, e2, nd, nD, e3, e4⟩ := e
    rw [List.getElem?_map] at hx
    obtain ⟨t, ht, rfl⟩ := Option.map_eq_some_iff.mp hx
    rw [List.length_map] at hi
    have hip : i < ps.length := by omega
    have hpi : ps[i]? = some ps[i] := List.getElem?_eq_getElem hip
    refine ⟨t, _, rfl, Same.seqT e1 (hp i t _ ht hpi), rfl, _, _, rfl, _, _, rfl, rfl, hw _ (List.getElem_mem hip), yes_q (iteT ?_)⟩
    refine he i _ hpi _ e1 ⟨_, e2⟩ _ fun y H3 fy s3 r3 => ⟨qs.map V.ref, s3 _ _ e2, ?_, fun b o q => ?_, qs ++ [y], by rw [upd_same, List.map_append]; rfl, ?_, ?_, by rw [List.length_append, e3]; rfl, fun k v z => ?_⟩
    · have : 1000000 < sizeLine := by decide
      rw [List.length_map]
      omega
    · rw [upd_ne (ne_of_none q hD)]
      exact s3 _ _ (e1 _ _ q)
    · rw [List.nodup_append]
      refine ⟨nd, by simp, fun q hq q' hq' z => ?_⟩
      rw [List.mem_singleton.mp hq'] at z
      obtain ⟨k, hk⟩ := List.mem_iff_getElem?.mp hq
      obtain ⟨o, ho⟩ := hE _ _ _ (e4 k q hk)
      rw [z, fy] at ho
      cases ho
    · intro z
      rcases List.mem_append.mp z with z | z
      · exact nD z
      · rw [← List.mem_singleton.mp z, e2] at fy
        cases fy
    · have up : ∀ b o, b ≠ D → H3 b = some o → upd H3 D (.lst (qs.map V.ref ++ [.ref y])) b = some o := fun b o n q => by rw [upd_ne n]; exact q
      have yD : y ≠ D := fun z => by rw [z, e2] at fy; cases fy
      rcases Nat.lt_or_ge k qs.length with hk | hk
      · rw [List.getElem?_append_left hk] at z
        exact hR _ _ _ _ (fun b o n q => up b o n (s3 _ _ q)) (fun q => nD (by rw [← q]; exact List.mem_of_getElem? z)) (e4 k v z)
      · rw [List.getElem?_append_right hk] at z
        have hk2 : k - qs.length = 0 := by
          have := (List.getElem?_eq_some_iff.mp z).1
          simp at this
          omega
        rw [hk2] at z
        obtain rfl : y = v := by simpa using z
        obtain rfl : k = i := by omega
        exact hR _ _ _ _ up yD r3
  · obtain ⟨e1, qs, e2, nd, nD, e3, e4⟩ := e
    rw [List.length_map] at e3
    exact hd H' qs e1 e2 nd nD (by omega) e4
/-- the same moves, in some order -/
def MsEq (ms ms' : List Mv) : Prop := ms'.length = ms.length ∧ ∀ (i : Nat) m m', ms[i]? = some m → ms'[i]? = some m' → m'.Perm m
section
variable {P : Program} {w : World} {K : PySem.W.Frag} {mg : Str → Option Value} {base : Heap} {C p0 p1 : Addr} {i0 i1 : Nat}
def spInOrderM : Sp := fun vs H Q _ => ∃ d m, vs = [.ref d] ∧ H d = some (.dK (mvK m)) ∧ m.length ≤ 5 ∧ (m.map (·.1)).Nodup ∧ ∀ q H' m', H q = none → Same H H' → H' q = some (.dK (mvK m')) → m'.Perm m → Q (.ref q) H'
theorem c_in_orderM (A : At K mg "in_order" (top 50)) (B : Blt mg) : Cal P w K mg base 1 "in_order" spInOrderM := by
  refine cal_of A sc_in_order (fun _ _ _ _ _ _ us hl => match us, hl with | [_], _ => rfl) (fun vs H Q E h => ?_) (fun _ cdv A outer s H vs Q E hr h => ?_)
  · obtain ⟨_, _, rfl, _⟩ := h; rfl
  · obtain ⟨d, m, rfl, hd, h5, nd, hQ⟩ := h
    refine ⟨_, pss_one (ps_ret (pe_dp1 (own := [("sign", 1)]) (o0 := .dK []) (g := gName 1) (tt := tYes) rfl (hu_of hr) sc_in_order.nd (pi_list (pe_callB (call_sortedD rfl) (by rfl) B.sorted (by decide +kernel) (pa_cons (pv 0) pa_nil)))
        (blkOk_by (own := [("sign", 1)]) (N := N_in_order) (sc := defScope (top 50)) (by decide +kernel)) (fun _ _ _ _ _ => (pg_name (i := 1) sc_in_order.nd rfl (Or.inl rfl))) (fun _ _ _ _ _ => pts_nil) (fun _ _ _ _ _ => pv 1) (fun _ _ _ _ _ => pe_dget (hu_of hr) (pv 0) (pv 1) (fun _ _ => rfl)) (.inl rfl))), ?_⟩
    refine ⟨_, rfl, d, mvK m, m.map (·.1), rfl, .inl hd, by simp [mvK], by rw [List.length_map]; omega, fun ys p hys _ hp => ?_⟩
    have hyl : ys.length ≤ 5 := by rw [hys.length_eq, List.length_map]; exact h5
    obtain ⟨s1, u1⟩ := laid (.lst (ys.map V.str)) hp
    generalize upd H p (.lst (ys.map V.str)) = H1 at s1 u1 ⊢
    refine ⟨p, rfl, ⟨_, SqL.of u1⟩, fun D hD => ?_⟩
    refine dp_signs (SqL.of u1) (hys.nodup_iff.mpr nd) (by omega) hD (fun z => (tgtOf m z : Int)) (fun _ _ => rfl) (fun y _ H2 _ Q q => ⟨_, rfl, q⟩) (fun y hy H2 e Q q => ⟨_, rfl, _, rfl, d, _, rfl, .inl ⟨_, .inr y, .inl (e _ _ (s1 _ _ hd)), rfl, (valV_mv nd (hys.mem_iff.mp hy)).symm⟩, q _ (Same.refl _)⟩) (fun H2 e2 hD2 => ?_)
    obtain ⟨m', pm, e⟩ := mvK_perm nd hys
    rw [e] at hD2
    exact hQ D H2 m' (s1.free hD) (s1.trans e2) hD2 pm
/-- a form with its moves -/
structure FormM (K : PySem.W.Frag) (C : Addr) (i0 i1 : Nat) (H : Hp) (x dx M L : Addr) (ds : List Addr) (ms : List Mv) (ls : List Bool) : Prop where
  f : FormAt K C i0 i1 H x dx M L ms.length ls
  m : MovesAt K H M ds ms
  nd : ds.Nodup
theorem FormM.same {H H' : Hp} {x dx M L : Addr} {ds : List Addr} {ms : List Mv} {ls : List Bool} (h : FormM K C i0 i1 H x dx M L ds ms ls) (e : Same H H') : FormM K C i0 i1 H' x dx M L ds ms ls := ⟨h.f.same e, h.m.same e, h.nd⟩
def spFormInitM (K : PySem.W.Frag) (C : Addr) (i0 i1 : Nat) : Sp := fun vs H Q _ => ∃ x dx T ts ds ms ls, vs = [.ref x, .ref T] ∧ H x = some (.ins C dx []) ∧ H dx = some (.own x) ∧ dx ≠ x ∧ StsAt K H T ts ds ms ls ∧ ds.Nodup ∧ StsOk ms ls ∧
  ∀ H' M L ds' ms', Kp x dx H H' → H M = none → H L = none → FormM K C i0 i1 H' x dx M L ds' ms' ls → (∀ d ∈ ds', H d = none) → MsEq ms ms' → Q .non H'
theorem f_finitM {f : Addr} {fd : FuncData} (FC : FormC K C p0 p1 i0 i1) (F : FunAt K "__init__" "Form.__init__" (inClass (top 51) 1) [] f fd) (B : Blt mg) (c_are_states : Cal P w K mg base 3 "are_states" (spAreStates K)) (c_in_order : Cal P w K mg base 1 "in_order" spInOrderM) : FnOk P w K mg base CX0 4 f fd ["self", "states"] (spFormInitM K C i0 i1) := by
  refine fnok_of F sc_finit (fun vs H Q E h => ?_) (fun cdv A outer s H vs Q E hr h => ?_)
  · obtain ⟨x, dx, T, ts, ds, ms, ls, rfl, _⟩ := h; rfl
  · obtain ⟨x, dx, T, ts, ds, ms, ls, rfl, hx, hdx, dxx, hS, hnd, hO, hQ⟩ := h
    refine ⟨_, pss_cons (ps_if (pt_not (pt_val (pe_c c_are_states hr (by decide) (by rfl) (pa_cons (pv 1) pa_nil)))) (pss_one ps_never) pss_nil)
      (pss_cons (SlX.ps_sl (pv 0) (pe_lc (own := [("moves", 2), ("last", 3)]) (tt := tYes) (by rfl) sc_finit.nd (pi_tup (pv 1)) (blkOk_by (own := [("moves", 2), ("last", 3)]) (N := N_finit) (sc := defScope (inClass (top 51) 1)) (by decide +kernel)) (fun _ _ _ _ _ => (pg_tupK (K := K) (n := 2) rfl rfl (pgs_cons (pg_name (i := 2) sc_finit.nd rfl (Or.inl rfl)) (pgs_cons (pg_name (i := 3) sc_finit.nd rfl (Or.inl rfl)) pgs_nil)))) (fun _ _ _ _ _ => pts_nil) (fun _ _ _ _ _ => (pe_c c_in_order hr (by decide) (by rfl) (pa_cons (pv 2) pa_nil)))))
      (pss_one (SlX.ps_sl (pv 0) (pe_lc (own := [("moves", 2), ("last", 3)]) (tt := tYes) (by rfl) sc_finit.nd (pi_tup (pv 1)) (blkOk_by (own := [("moves", 2), ("last", 3)]) (N := N_finit) (sc := defScope (inClass (top 51) 1)) (by decide +kernel)) (fun _ _ _ _ _ => (pg_tupK (K := K) (n := 2) rfl rfl (pgs_cons (pg_name (i := 2) sc_finit.nd rfl (Or.inl rfl)) (pgs_cons (pg_name (i := 3) sc_finit.nd rfl (Or.inl rfl)) pgs_nil)))) (fun _ _ _ _ _ => pts_nil) (fun _ _ _ _ _ => (pv 3)))))), ?_⟩
    refine ⟨_, rfl, T, ts, ds, ms, ls, rfl, hS, hnd, hO, fun H1 e1 => ⟨_, rfl, iteF ?_⟩⟩
    have p8 := hO.few
    have lts := hS.lt
    have hS1 := hS.same e1
    obtain ⟨pl, pp⟩ := hS1.pairs
    refine ⟨_, rfl, T, rfl, ⟨_, hS1.tup⟩, fun D hD => lc_pairsF ts (pairsOf ds ls) pl hS1.tup (by omega) hD pp (fun p _ => rfl) (fun k v H' => ∃ m m', ms[k]? = some m ∧ H' v = some (.dK (mvK m')) ∧ m'.Perm m ∧ H v = none) (fun _ v _ _ up n r => by
      obtain ⟨m, m', h1, h2, h3⟩ := r
      exact ⟨m, m', h1, up _ _ n h2, h3⟩) (fun _ _ _ r => by obtain ⟨_, _, _, h, _⟩ := r; exact ⟨_, h⟩) (fun i p hp H2 e2 _ Q q => ?_) (fun H2 qs e2 u2 nq nDq l2 r2 => ?_)⟩
    · obtain ⟨d, l, h1, h2, rfl⟩ := pairsOf_get hp
      have il : i < ms.length := by rw [← hS.dc.1]; exact (List.getElem?_eq_some_iff.mp h1).1
      have h3 := List.getElem?_eq_getElem il
      have mo := hO.mv _ (List.getElem_mem il)
      exact ⟨_, rfl, d, ms[i], rfl, e2 _ _ (hS1.dc.2 i _ _ h1 h3), mo.len, mo.nd, fun q1 H3 m' hq1 e3 h3' pm => q _ _ hq1 e3 ⟨_, m', h3, h3', pm, (e1.trans e2).free hq1⟩⟩
    · have hx2 := e2 _ _ (e1 _ _ hx)
      have hd2 := e2 _ _ (e1 _ _ hdx)
      refine ⟨_, rfl, x, C, dx, p0, [], i0, rfl, .inl ⟨hx2, rfl⟩, FC.sc, FC.s0, ?_⟩
      have k2 : Kp x dx H H2 := fun b o _ _ q => e2 _ _ (e1 _ _ q)
      have k23 : Kp x dx H2 (SlX.slH H2 x C dx (SlX.putS i0 (.ref D) [])) := Kp.sl fun b o _ _ q => q
      have k3 : Kp x dx H (SlX.slH H2 x C dx (SlX.putS i0 (.ref D) [])) := k2.sl
      have z3 : SlX.Slt (SlX.slH H2 x C dx (SlX.putS i0 (.ref D) [])) x C dx (SlX.putS i0 (.ref D) []) := SlX.slH_slt dxx
      have Dx : D ≠ x := fun z => by rw [z, e1 _ _ hx] at hD; cases hD
      have Dd : D ≠ dx := fun z => by rw [z, e1 _ _ hdx] at hD; cases hD
      have u3 := k23 _ _ Dx Dd u2
      have r3 : ∀ (k : Nat) (q : Addr), qs[k]? = some q → ∃ m m', ms[k]? = some m ∧ SlX.slH H2 x C dx (SlX.putS i0 (.ref D) []) q = some (.dK (mvK m')) ∧ m'.Perm m ∧ H q = none := fun k q hq => by
        obtain ⟨m, m', h1, h2, h3⟩ := r2 k q hq
        exact ⟨m, m', h1, k23 _ _ (fun z => by rw [z, hx2] at h2; cases h2) (fun z => by rw [z, hd2] at h2; cases h2) h2, h3⟩
      have hS3 : StsAt K _ T ts ds ms ls := kp_sts k23 hx2 hd2 (hS1.same e2)
      generalize SlX.slH H2 x C dx (SlX.putS i0 (.ref D) []) = H3 at *
      obtain ⟨pl, pp⟩ := hS3.pairs
      refine ⟨_, rfl, T, rfl, ⟨_, hS3.tup⟩, fun D5 hD5 => lc_pairs ts (pairsOf ds ls) pl hS3.tup (by omega) hD5 pp (fun p _ => rfl) (fun k v _ => ∃ l, ls[k]? = some l ∧ v = .bl l) (fun _ _ _ _ _ r => r) (fun i p hp H5 e5 _ Q q => ?_) (fun H5 outs5 e5 u5 l5 r5 => ?_)⟩
      · obtain ⟨d, l, h1, h2, rfl⟩ := pairsOf_get hp
        exact ⟨_, rfl, q _ _ (Same.refl _) ⟨l, h2, rfl⟩⟩
      · have eo : outs5 = ls.map V.bl := by
          refine List.ext_getElem? fun k => ?_
          rw [List.getElem?_map]
          cases h : outs5[k]? with
          | none =>
            have : outs5.length ≤ k := List.getElem?_eq_none_iff.mp h
            have : ls.length ≤ k := by have := hS.ll; omega
            rw [List.getElem?_eq_none this]; rfl
          | some v =>
            obtain ⟨d, h1, rfl⟩ := r5 k v h
            rw [h1]; rfl
        subst eo
        have z5 := slt_same e5 z3
        have xi : ∃ o, H3 x = some o := by
          rcases z3 with ⟨h, _⟩ | ⟨h, _⟩ <;> exact ⟨_, h⟩
        have di : ∃ o, H3 dx = some o := by
          rcases z3 with ⟨h, h'⟩ | ⟨_, h⟩
          · have := SlX.putS_get i0 (.ref D) []
            rw [h'] at this
            simp at this
          · exact ⟨_, h⟩
        obtain ⟨ox, hox⟩ := xi
        obtain ⟨od, hod⟩ := di
        have D5x : D5 ≠ x := fun z => by rw [z, hox] at hD5; cases hD5
        have D5d : D5 ≠ dx := fun z => by rw [z, hod] at hD5; cases hD5
        refine ⟨_, rfl, x, C, dx, p1, _, i1, rfl, z5, FC.sc, FC.s1, ?_⟩
        have k5 : Kp x dx H (SlX.slH H5 x C dx (SlX.putS i1 (.ref D5) (SlX.putS i0 (.ref D) []))) := (k3.same e5).sl
        have k56 : Kp x dx H5 (SlX.slH H5 x C dx (SlX.putS i1 (.ref D5) (SlX.putS i0 (.ref D) []))) := Kp.sl fun b o _ _ q => q
        have lq : qs.length = ms.length := by rw [l2, ← pl, lts]
        -- the moves, each in order
        obtain ⟨ms', lm', hm'⟩ : ∃ ms' : List Mv, ms'.length = ms.length ∧ ∀ (k : Nat) q m', qs[k]? = some q → ms'[k]? = some m' → H3 q = some (.dK (mvK m')) ∧ ∃ m, ms[k]? = some m ∧ m'.Perm m := by
          have ch : ∀ k : Fin ms.length, ∃ m' : Mv, ∀ q, qs[k.1]? = some q → H3 q = some (.dK (mvK m')) ∧ ∃ m, ms[k.1]? = some m ∧ m'.Perm m := fun k => by
            have hk : k.1 < qs.length := by have := k.2; omega
            obtain ⟨m, m', h1, h2, h3, _⟩ := r3 k.1 qs[k.1] (List.getElem?_eq_getElem hk)
            refine ⟨m', fun q hq => ?_⟩
            rw [List.getElem?_eq_getElem hk] at hq
            cases hq
            exact ⟨h2, m, h1, h3⟩
          refine ⟨List.ofFn fun k => Classical.choose (ch k), by simp, fun k q m' hq hm => ?_⟩
          have hk : k < ms.length := by have := (List.getElem?_eq_some_iff.mp hq).1; omega
          rw [List.getElem?_ofFn] at hm
          rw [dif_pos hk] at hm
          cases hm
          exact Classical.choose_spec (ch ⟨k, hk⟩) q hq
        have xq : ∀ {q : Addr} {kv : List (Key × V)}, H3 q = some (.dK kv) → SlX.slH H5 x C dx (SlX.putS i1 (.ref D5) (SlX.putS i0 (.ref D) [])) q = some (.dK kv) := fun {q kv} h => by
          refine k56 _ _ (fun z => ?_) (fun z => ?_) (e5 _ _ h)
          · rcases z3 with ⟨g, _⟩ | ⟨g, _⟩
            · rw [z, g] at h; cases h
            · rw [z, g] at h
              injection h with h
              unfold SlX.SlO at h
              cases h
          · rcases z3 with ⟨g, h'⟩ | ⟨_, g⟩
            · have := SlX.putS_get i0 (.ref D) []
              rw [h'] at this
              simp at this
            · rw [z, g] at h; cases h
        refine hQ _ D D5 qs ms' k5 (e1.free hD) ?_ ⟨⟨⟨_, SlX.slH_slt dxx, (SlX.putS_ne FC.ne).mpr (SlX.putS_get ..), SlX.putS_get ..⟩, ⟨qs.map V.ref, SqL.of (k56 _ _ Dx Dd (e5 _ _ u3)), ?_⟩, SqL.of (k56 _ _ D5x D5d u5), ?_⟩, ⟨SqL.of (k56 _ _ Dx Dd (e5 _ _ u3)), ?_, fun i d m h1 h2 => xq (hm' i d m h1 h2).1⟩, nq⟩ (fun d hd => ?_) ⟨lm', fun i m m' h1 h2 => ?_⟩
        · cases e : H D5 with
          | none => rfl
          | some o =>
            have := k3 _ _ D5x D5d e
            rw [hD5] at this
            cases this
        · rw [List.length_map]; omega
        · rw [hS.ll, lm']
        · omega
        · obtain ⟨k, hk⟩ := List.mem_iff_getElem?.mp hd
          obtain ⟨_, _, _, _, _, h⟩ := r3 k d hk
          exact h
        · have il : i < qs.length := by have := (List.getElem?_eq_some_iff.mp h1).1; omega
          obtain ⟨_, m0, g1, g2⟩ := hm' i qs[i] m' (List.getElem?_eq_getElem il) h2
          rw [h1] at g1
          cases g1
          exact g2
/-! ### _law_form -/
def spFormL (K : PySem.W.Frag) (C : Addr) (i0 i1 : Nat) : Sp := fun vs H Q _ => ∃ a rs ds ms ls, vs = [.ref a] ∧ PlainAt K H a rs ds ms ls ∧ ds.Nodup ∧ StsOk ms ls ∧ ∀ H' x dx M L ds' ms', Same H H' → FormM K C i0 i1 H' x dx M L ds' ms' ls → MsEq ms ms' → Q (.ref x) H'
theorem c_law_formM (A : At K mg "_law_form" (top 86)) (B : Blt mg) (FC : FormC K C p0 p1 i0 i1) (hC : mg "Form" = some (.ref C)) (c_are_states : Cal P w K mg base 3 "are_states" (spAreStates K)) (c_in_order : Cal P w K mg base 1 "in_order" spInOrderM) : Cal P w K mg base 6 "_law_form" (spFormL K C i0 i1) := by
  refine cal_of A sc_law_form (fun _ _ _ _ _ _ us hl => match us, hl with | [_], _ => rfl) (fun vs H Q E h => ?_) (fun _ cdv A outer s H vs Q E hr h => ?_)
  · obtain ⟨_, _, _, _, _, rfl, _⟩ := h; rfl
  · obtain ⟨a, rs, ds, ms, ls, rfl, hP, hnd, hO, hQ⟩ := h
    obtain ⟨f, fd, M0, F⟩ := FC.ini
    have b0 := FunD.bindsN (ps := ["self", "states"]) F fun _ _ _ _ _ _ us hl => match us, hl with | [_, _], _ => rfl
    refine ⟨_, (pss_one (ps_ret (pe_make M0 (f_finitM (P := P) (w := w) (mg := mg) (base := base) FC F B c_are_states c_in_order) hr (by rfl) hC b0 .nil pass0 (pa_cons (pe_callTy call_tuple_of (by rfl) B.tuple (by decide +kernel) (pa_cons (pe_lc (own := [("_law_row", 1)]) (g := gName 1) (tt := tYes) (by rfl) sc_law_form.nd (pi_list (pv 0)) (blkOk_by (own := [("_law_row", 1)]) (N := N_law_form) (sc := defScope (top 86)) (by decide +kernel)) (fun _ _ _ _ _ => (pg_name (i := 1) sc_law_form.nd rfl (Or.inl rfl))) (fun _ _ _ _ _ => pts_nil) (fun _ _ _ _ _ => (pe_tup (pa_cons (pe_ix (ixLK (K := K) rfl) (pv 1) pe_int (fun _ _ => rfl)) (pa_cons (pe_ix (ixLK (K := K) rfl) (pv 1) pe_int (fun _ _ => rfl)) pa_nil))))) pa_nil)) pa_nil)))), ?_⟩
    have p8 := hO.few
    have lr := hP.lr
    refine ⟨_, rfl, a, rfl, ⟨_, hP.lst⟩, fun D hD => lc_lstR (rs.map V.ref) hP.lst (by rw [List.length_map]; omega) hD (fun x _ => rfl) (fun k v H' => ∃ t d l, v = .ref t ∧ H' t = some (.tup [.ref d, .bl l]) ∧ t ≠ D ∧ ds[k]? = some d ∧ ls[k]? = some l) (fun k v H1 H2 e ⟨t, d, l, h1, h2, h3, h4⟩ => ⟨t, d, l, h1, e _ _ h3 h2, h3, h4⟩) (fun i x hx H2 e2 ⟨o, ho⟩ Q q => ?_) (fun H2 outs e2 u2 l2 r2 => ?_)⟩
    · rw [List.getElem?_map] at hx
      obtain ⟨r, hr', rfl⟩ := Option.map_eq_some_iff.mp hx
      have il : i < ms.length := by have := (List.getElem?_eq_some_iff.mp hr').1; omega
      have h1 := List.getElem?_eq_getElem (show i < ds.length by rw [hP.dc.1]; exact il)
      have h2 := List.getElem?_eq_getElem (show i < ls.length by rw [hP.ll]; exact il)
      have hrow := e2 _ _ (hP.pr i r _ _ hr' h1 h2)
      refine ⟨_, rfl, r, _, _, _, rfl, rfl, SqL.of hrow, rfl, _, rfl, r, _, _, _, rfl, rfl, SqL.of hrow, rfl, (by show 2 ≤ sizeLine; decide), fun t ht => ?_⟩
      exact q _ _ (same_new ht) ⟨t, _, _, rfl, upd_same, (fun z => by rw [z, ho] at ht; cases ht), h1, h2⟩
    · rw [List.length_map] at l2
      obtain ⟨ts, rfl⟩ := refs_of fun k v hk => by
        obtain ⟨t, _, _, h, _⟩ := r2 k v hk
        exact ⟨t, h⟩
      have hte : ∀ (k : Nat) (t : Addr), ts[k]? = some t → ∃ d l, H2 t = some (.tup [.ref d, .bl l]) ∧ ds[k]? = some d ∧ ls[k]? = some l := fun k t hk => by
        obtain ⟨t', d, l, h, h1, h2, h3⟩ := r2 k (.ref t) (by rw [List.getElem?_map, hk]; rfl)
        cases h
        exact ⟨d, l, h1, h3⟩
      rw [List.length_map] at l2
      refine ⟨D, _, rfl, .inl ⟨SqL.of u2, fun T hT => ?_⟩⟩
      obtain ⟨s3, u3⟩ := laid (.tup (ts.map V.ref)) hT
      generalize upd H2 T (.tup (ts.map V.ref)) = H3 at s3 u3 ⊢
      have e3 := e2.trans s3
      intro x dx hx hdx n
      have nx : ∀ b o, H3 b = some o → b ≠ x ∧ b ≠ dx := fun b o e => ⟨ne_of_none e hx, ne_of_none e hdx⟩
      have up : Same H3 (upd (upd H3 dx (.own x)) x (.ins C dx [])) := fun b o e => by rw [upd_ne (nx b o e).1, upd_ne (nx b o e).2]; exact e
      have hS : StsAt K (upd (upd H3 dx (.own x)) x (.ins C dx [])) T ts ds ms ls := by
        refine ⟨.inl (.inl (up _ _ u3)), by omega, hP.ll, (hP.dc.same e3).same up, fun i t d l h1 h2 h3 => ?_⟩
        obtain ⟨d', l', g1, g2, g3⟩ := hte i t h1
        rw [h2] at g2
        rw [h3] at g3
        cases g2
        cases g3
        exact .inl (.inl (up _ _ (s3 _ _ g1)))
      refine ⟨x, dx, T, ts, ds, ms, ls, rfl, upd_same, by rw [upd_ne n, upd_same], n, hS, hnd, hO, fun H' M L ds' ms' k _ _ hF _ me => ⟨rfl, hQ H' x dx M L ds' ms' (fun b o q => ?_) hF me⟩⟩
      have q3 := e3 _ _ q
      exact k b o (nx _ _ q3).1 (nx _ _ q3).2 (up _ _ q3)
end
end MN
/-! set comprehensions with two clauses: sets of keys (texts and ints) -/
namespace MN
open PySem PySem.Spec PyProof.Rows L2
theorem turn2S_out (elt t0 i0 t1 i1 : Expr) (ifs0 ifs1 : List Expr) (scope : Scope) (pos : Pos) (it acc : Value) (env : Env) :
    compTurn (.SetComp elt [⟨t0, i0, ifs0, 0⟩, ⟨t1, i1, ifs1, 0⟩] scope pos) 0 it acc env = (do
      standAt i0.pos
      match ← pyNext it with
      | none => pure (.done .next)
      | some v =>
        letOwnedTupleGo t0 it v
        assign t0 env v
        let mut ok := true
        for c in ifs0 do
          if ok then ok ← isTrue c env (eval c env)
        if ok then
          let x ← eval i1 env
          standAt i1.pos
          let x ← foldedSetIterable i1 env x
          let _ ← runOwn (.compStart (.SetComp elt [⟨t0, i0, ifs0, 0⟩, ⟨t1, i1, ifs1, 0⟩] scope pos) 1 (← holding [x] (pyIter x)) acc env) env
        again (.compLoop (.SetComp elt [⟨t0, i0, ifs0, 0⟩, ⟨t1, i1, ifs1, 0⟩] scope pos) 0 it acc env)) := by rfl
theorem turn2S_in (elt t0 i0 t1 i1 : Expr) (ifs0 ifs1 : List Expr) (scope : Scope) (pos : Pos) (it : Value) (D : Addr) (env : Env) :
    compTurn (.SetComp elt [⟨t0, i0, ifs0, 0⟩, ⟨t1, i1, ifs1, 0⟩] scope pos) 1 it (.ref D) env = (do
      standAt i1.pos
      match ← pyNext it with
      | none => pure (.done .next)
      | some v =>
        letOwnedTupleGo t1 it v
        assign t1 env v
        let mut ok := true
        for c in ifs1 do
          if ok then ok ← isTrue c env (eval c env)
        if ok then
          (do let v ← eval elt env; standAt elt.pos; let _ ← call (.builtin "set.add") [.ref D, v])
        again (.compLoop (.SetComp elt [⟨t0, i0, ifs0, 0⟩, ⟨t1, i1, ifs1, 0⟩] scope pos) 1 it (.ref D) env)) := by rfl
section
variable {prog : Program} {w : World} {A : Around} {R : Result → Shared → Prop} {s : Shared} {elt t0 i0 t1 i1 : Expr} {ifs0 ifs1 : List Expr} {scope : Scope} {pos : Pos} {it acc : Value} {D : Addr} {env : Env}
theorem loop2S_out (hs : ∀ x, foldedSetIterable i1 env x = pure x) (I : Nat → Shared → Prop)
    (turn : ∀ n s, I n s → wpAny (model prog w) A (pyNext it) (fun r s₁ => match r with
      | none => R (.ok .next) s₁
      | some v => wpAny (model prog w) A (letOwnedTupleGo t0 it v) (fun _ s₂ => wpAny (model prog w) A (assign t0 env v) (fun _ s₃ => wpAny (model prog w) A (forIn ifs0 true fun c r => if r = true then do let ok ← isTrue c env (eval c env); pure (ForInStep.yield ok) else pure (ForInStep.yield r)) (fun ok s₄ =>
          if ok = true then wpAny (model prog w) A (eval i1 env) (fun x s₅ => wpAny (model prog w) A (pyIter x) (fun j s₆ =>
            codeAny (model prog w) A (.compStart (.SetComp elt [⟨t0, i0, ifs0, 0⟩, ⟨t1, i1, ifs1, 0⟩] scope pos) 1 j acc env) (fun r s' => match r with
              | .ok _ => ∃ m, m < n ∧ I m s'
              | .error _ => False) s₆) (notedBy (model prog w) A env fun e s' => R (.error e) s') s₅) (notedBy (model prog w) A env fun e s' => R (.error e) s') s₄
          else ∃ m, m < n ∧ I m s₄) (notedBy (model prog w) A env fun e s' => R (.error e) s') s₃) (notedBy (model prog w) A env fun e s' => R (.error e) s') s₂) (notedBy (model prog w) A env fun e s' => R (.error e) s') s₁) (notedBy (model prog w) A env fun e s' => R (.error e) s') s)
    (n : Nat) (h : I n s) : codeAny (model prog w) A (.compLoop (.SetComp elt [⟨t0, i0, ifs0, 0⟩, ⟨t1, i1, ifs1, 0⟩] scope pos) 0 it acc env) R s := by
  refine codeAny_loop rfl I (fun n s hI => ?_) n h
  show wpAny _ A ((compTurn (.SetComp elt [⟨t0, i0, ifs0, 0⟩, ⟨t1, i1, ifs1, 0⟩] scope pos) 0 it acc env).onRaise (fun x => do noteFrame x env; theTreesLotGoes x)) _ _ s
  refine wpAny_noted ?_
  rw [turn2S_out]
  refine wpAny_bind (wpAny_standAt (wpAny_bind (wpAny_mono (turn n s hI) (fun r s₁ h₁ => ?_) fun _ _ z => z)))
  match r, h₁ with
  | none, h₁ => exact wpAny_pure h₁
  | some v, h₁ =>
    refine wpAny_bind (wpAny_mono h₁ (fun _ s₂ h₂ => wpAny_bind (wpAny_mono h₂ (fun _ s₃ h₃ => wpAny_bind (wpAny_mono h₃ (fun ok s₄ h₄ => ?_) fun _ _ z => z)) fun _ _ z => z)) fun _ _ z => z)
    cases ok with
    | false => exact wpAny_pure ⟨rfl, h₄⟩
    | true =>
      refine wpAny_bind (wpAny_mono h₄ (fun x s₅ h₅ => ?_) fun _ _ z => z)
      refine wpAny_bind (wpAny_standAt (wpAny_bind (wpAny_of_eq (hs x) (wpAny_bind (wpAny_holding (wpAny_mono h₅ (fun j s₆ h₆ => ?_) fun _ _ z => z))))))
      refine wpAny_bind (wpAny_runOwn ?_)
      rw [Around.mark_none]
      refine codeAny_mono h₆ fun r s' hr => ?_
      match r, hr with
      | .ok f, hr =>
        first
          | exact wpAny_pure ⟨rfl, hr⟩
          | exact wpAny_bind (wpAny_pure (wpAny_pure ⟨rfl, hr⟩))
      | .error e, hr => exact hr.elim
theorem loop2S_in (I : Nat → Shared → Prop)
    (turn : ∀ n s, I n s → wpAny (model prog w) A (pyNext it) (fun r s₁ => match r with
      | none => R (.ok .next) s₁
      | some v => wpAny (model prog w) A (letOwnedTupleGo t1 it v) (fun _ s₂ => wpAny (model prog w) A (assign t1 env v) (fun _ s₃ => wpAny (model prog w) A (forIn ifs1 true fun c r => if r = true then do let ok ← isTrue c env (eval c env); pure (ForInStep.yield ok) else pure (ForInStep.yield r)) (fun ok s₄ =>
          if ok = true then wpAny (model prog w) A (eval elt env) (fun x s₅ => wpAny (model prog w) A (call (.builtin "set.add") [.ref D, x]) (fun _ s₆ => ∃ m, m < n ∧ I m s₆) (notedBy (model prog w) A env fun e s' => R (.error e) s') s₅) (notedBy (model prog w) A env fun e s' => R (.error e) s') s₄
          else ∃ m, m < n ∧ I m s₄) (notedBy (model prog w) A env fun e s' => R (.error e) s') s₃) (notedBy (model prog w) A env fun e s' => R (.error e) s') s₂) (notedBy (model prog w) A env fun e s' => R (.error e) s') s₁) (notedBy (model prog w) A env fun e s' => R (.error e) s') s)
    (n : Nat) (h : I n s) : codeAny (model prog w) A (.compLoop (.SetComp elt [⟨t0, i0, ifs0, 0⟩, ⟨t1, i1, ifs1, 0⟩] scope pos) 1 it (.ref D) env) R s := by
  refine codeAny_loop rfl I (fun n s hI => ?_) n h
  show wpAny _ A ((compTurn (.SetComp elt [⟨t0, i0, ifs0, 0⟩, ⟨t1, i1, ifs1, 0⟩] scope pos) 1 it (.ref D) env).onRaise (fun x => do noteFrame x env; theTreesLotGoes x)) _ _ s
  refine wpAny_noted ?_
  rw [turn2S_in]
  refine wpAny_bind (wpAny_standAt (wpAny_bind (wpAny_mono (turn n s hI) (fun r s₁ h₁ => ?_) fun _ _ z => z)))
  match r, h₁ with
  | none, h₁ => exact wpAny_pure h₁
  | some v, h₁ =>
    refine wpAny_bind (wpAny_mono h₁ (fun _ s₂ h₂ => wpAny_bind (wpAny_mono h₂ (fun _ s₃ h₃ => wpAny_bind (wpAny_mono h₃ (fun ok s₄ h₄ => ?_) fun _ _ z => z)) fun _ _ z => z)) fun _ _ z => z)
    cases ok with
    | false => exact wpAny_pure ⟨rfl, h₄⟩
    | true =>
      exact wpAny_bind (wpAny_bind (wpAny_mono h₄ (fun x s₅ h₅ => wpAny_bind (wpAny_standAt (wpAny_bind (wpAny_mono h₅ (fun _ s₆ h₆ => wpAny_pure (wpAny_pure ⟨rfl, h₆⟩)) fun _ _ z => z)))) fun _ _ z => z))
theorem start2S (h0 : codeAny (model prog w) A (.compLoop (.SetComp elt [⟨t0, i0, ifs0, 0⟩, ⟨t1, i1, ifs1, 0⟩] scope pos) 1 it acc env) R s)
    (h : wpAny (model prog w) A (pyIter it) (fun j s' => codeAny (model prog w) A (.compLoop (.SetComp elt [⟨t0, i0, ifs0, 0⟩, ⟨t1, i1, ifs1, 0⟩] scope pos) 1 j acc env) R s') (notedBy (model prog w) A env fun x s' => R (.error x) s') s) :
    codeAny (model prog w) A (.compStart (.SetComp elt [⟨t0, i0, ifs0, 0⟩, ⟨t1, i1, ifs1, 0⟩] scope pos) 1 it acc env) R s := by
  refine codeAny_of_tree ?_
  show wpAny _ _ ((compStart (.SetComp elt [⟨t0, i0, ifs0, 0⟩, ⟨t1, i1, ifs1, 0⟩] scope pos) 1 it acc env).onRaise (fun x => do noteFrame x env; standAt theWindowsPlace)) _ _ s
  refine wpAny_notedAt ?_
  unfold compStart
  show wpAny _ _ (ask >>= _) _ _ s
  refine wpAny_bind (wpAny_askSetting (wpAny_ite ?_))
  split
  · first
      | exact wpAny_bind (wpAny_pure (wpAny_pure (And.intro rfl h0)))
      | exact wpAny_pure (And.intro rfl h0)
  · first
      | exact wpAny_bind (wpAny_rule (wpAny_bind (wpAny_standAt (wpAny_bind (wpAny_mono h (fun j s' z => wpAny_pure (And.intro rfl z)) fun _ _ z => z)))))
      | (refine wpAny_bind (wpAny_rule ?_); show wpAny _ _ (standAt i1.pos >>= _) _ _ s; exact wpAny_bind (wpAny_standAt (wpAny_bind (wpAny_mono h (fun j s' z => wpAny_pure (And.intro rfl z)) fun _ _ z => z))))
end
section
variable {X : Cx}
theorem addX_ok {pins : List (Addr × Obj)} {σ : L2.St} {H : Hp} {s : Shared} {E : Value → Shared → Prop} {D : Addr} {ks : List Key} {k : Key} {x : Value} {Q : Value → Shared → Prop} (I : Inv X pins σ H s) (hk : (mixKind X.prog X.w).is k x = true) (hD : H D = some (SetXO X.prog X.w D ks)) (room : ks.length + 1 < scanBound)
    (h : ∀ s' us, us.length ≤ ks.length + 1 → us.Nodup → (∀ j, j ∈ us ↔ j ∈ ks ∨ j = k) → Inv X pins σ (upd H D (SetXO X.prog X.w D us)) s' → Q .none s') : wpAny (model X.prog X.w) X.A (call (.builtin "set.add") [.ref D, x]) Q E s := by
  have R := setXO_get I hD
  have R' := R
  obtain ⟨o, es, ep, t, ho, hx, hd, r⟩ := R'
  refine wpAny_call_entry F.slot_set_add ⟨o, ho, hx.1⟩ F.entry_set_add ?_ (F.args_set_add_2 _ _)
  unfold Builtin.«set.add» Builtin.Frozenset.oneOther
  simp only [List.isEmpty_nil, bind_assoc]
  unfold Builtin.Frozenset.addrOf setAdd
  refine wpAny_bind (wpAny_pure ?_)
  try dsimp only
  refine wpAny_bind (wpAny_pure ?_)
  try dsimp only
  refine wpAny_bind ?_
  refine wpAny_holding ?_
  refine wpAny_bind ((mixKind X.prog X.w).pyHash hk ?_)
  refine setX_add (s := { s with toks := s.toks + 1 }) hk R room fun h' us b sb new c3 c4 => ?_
  show wpAny _ _ (ret Value.none) _ _ _
  have he : ∃ u, h'.get? D = some u := by
    have ⟨o, _, _, _, ho, _⟩ := new
    exact ⟨o, ho⟩
  have nd : us.Nodup := by obtain ⟨_, _, _, _, _, _, _, _, _, nd, _⟩ := new; exact nd
  exact wpAny_pure ⟨_, rfl, h _ us c3 nd c4 (I.write (e := D) (t' := s.toks + 1) (by rw [hD]; trivial) (.inl rfl) (fun b u hb hu => (sb.2 b hb).trans hu) he (setXO_new new))⟩
theorem key_rel {P : Program} {w : World} {k : Key} {x : Value} (r : RelV (kV k) x) : (mixKind P w).is k x = true := by
  show keyIs k x = true
  cases k with
  | inl n =>
    obtain ⟨t, rfl⟩ := (show ∃ t, x = Value.int n t from r)
    exact keyIs_int _ _
  | inr z =>
    obtain ⟨t, rfl⟩ := (show ∃ t, x = Value.str z t from r)
    exact keyIs_str _ _
/-- a key put into the set at D -/
def SPut (P : Program) (w : World) (H : Hp) (D : Addr) (y : V) (Nx : Hp → Prop) : Prop := ∃ (k : Key) (ks : List Key), y = kV k ∧ H D = some (SetXO P w D ks) ∧ ks.length + 1 < scanBound ∧ ∀ us, us.length ≤ ks.length + 1 → us.Nodup → (∀ j, j ∈ us ↔ j ∈ ks ∨ j = k) → Nx (upd H D (SetXO P w D us))
def tSc2 (P : Program) (w : World) (wi : TI) (g : TG) (tt : TT) (wi1 : TI) (g1 : TG) (tt1 : TT) (te : TE) (vs vs1 : List Nat) : TE := fun σ H Q => wi σ H fun J H1 => ∀ D, H1 D = none → ∃ W : Nat → Nat → Hp → Prop, (∃ m, W 0 m (upd H1 D (SetXO P w D []))) ∧ ∀ i m H, W i m H →
  (J.stop i H ∧ Q (.ref D) H) ∨ (J.go i H ∧ ∃ Nx : Hp → Prop, (∀ H', Nx H' → ∃ m', m' < m ∧ W (i + 1) m' H') ∧ ∀ x H', J.yld i H x H' → g x (wipe σ vs) H' fun σ2 H2 => wipe σ2 vs = wipe σ vs ∧ tt σ2 H2 fun b H3 =>
    if b = true then wi1 σ2 H3 fun J1 H4 => ∃ W1 : Nat → Nat → Hp → Prop, (∃ m, W1 0 m H4) ∧ ∀ j k H, W1 j k H →
      (J1.stop j H ∧ Nx H) ∨ (J1.go j H ∧ ∃ Nx1 : Hp → Prop, (∀ H', Nx1 H' → ∃ k', k' < k ∧ W1 (j + 1) k' H') ∧ ∀ x H', J1.yld j H x H' → g1 x (wipe σ2 vs1) H' fun σ3 H5 => wipe σ3 vs1 = wipe σ2 vs1 ∧ tt1 σ3 H5 fun b H6 =>
        if b = true then te σ3 H6 fun y H7 => SPut P w H7 D y Nx1 else Nx1 H6)
    else Nx H3)
theorem sc2_core {pins : List (Addr × Obj)} {s : Shared} {σ : L2.St} {H : Hp} {Q : VK} {use : Option (Value → Sem Unit)} {Qf : Value → Shared → Prop} {pos' : Pos} {elt tg iter tg1 iter1 : Expr} {ifs ifs1 : List Expr} {scope : Scope} {own : List (Str × Nat)} {vs1 : List Nat} {pos : Pos} {wi wi1 : TI} {g g1 : TG} {tt tt1 : TT} {te : TE} (hc : X.calm = true) (hN : X.N.Nodup) (I : Inv X pins σ H s) (hi : PI X tg iter wi) (ok : BlkOk X.N X.env.scope scope own) (hv : ∀ i ∈ vs1, i ∈ own.map (·.2))
    (hg : ∀ (s : Shared) (H : Hp) (C : Addr) (cl : List (Str × Addr)) (fp : List Addr), PG (X.blk s H scope (compEnvC scope cl C X.env) fp) tg g) (ht : ∀ (s : Shared) (H : Hp) (C : Addr) (cl : List (Str × Addr)) (fp : List Addr), PTs (X.blk s H scope (compEnvC scope cl C X.env) fp) ifs tt)
    (hi1 : ∀ (s : Shared) (H : Hp) (C : Addr) (cl : List (Str × Addr)) (fp : List Addr), PI (X.blk s H scope (compEnvC scope cl C X.env) fp) tg1 iter1 wi1) (hg1 : ∀ (s : Shared) (H : Hp) (C : Addr) (cl : List (Str × Addr)) (fp : List Addr), PG (X.blk s H scope (compEnvC scope cl C X.env) fp) tg1 g1) (ht1 : ∀ (s : Shared) (H : Hp) (C : Addr) (cl : List (Str × Addr)) (fp : List Addr), PTs (X.blk s H scope (compEnvC scope cl C X.env) fp) ifs1 tt1)
    (he : ∀ (s : Shared) (H : Hp) (C : Addr) (cl : List (Str × Addr)) (fp : List Addr), PE (X.blk s H scope (compEnvC scope cl C X.env) fp) elt te)
    (hs : ∀ x, foldedSetIterable iter X.env x = pure x) (hs1 : ∀ env x, foldedSetIterable iter1 env x = pure x)
    (h : tSc2 X.prog X.w wi g tt wi1 g1 tt1 te (own.map (·.2)) vs1 σ H Q)
    (hRR : ∀ D C s' m H', Inv X pins σ H' s' → Q (.ref D) H' → s'.heap.Ns C m → FpOk X pins H' C → compPost (model X.prog X.w) X.A X.xe use Qf (.ref D) C (.ok .next) s') :
    wpAny (model X.prog X.w) X.A (comprehension (.SetComp elt [⟨tg, iter, ifs, 0⟩, ⟨tg1, iter1, ifs1, 0⟩] scope pos) scope X.env pos' (newSet (.type "set")) false (eval iter X.env) use) Qf X.xe s := by
  have hfree : ∀ y ∈ scope.names, y.2 = .free → ∃ c, X.env.cells.lookup y.1 = some c := fun y hy e => I.ok.has _ (ok.free y hy e)
  refine wpAny_comprehension_free (use := use) rfl hs (closure_ok hfree) ok.kind (fun y hy e => by rw [ok.uniq y hy, e]) (thn (hi.run pins s σ H _ I h) fun xv s1 hx => thn hx fun itv s2 h2 => ?_)
  obtain ⟨it, fp, tn, J, H2, e, I2, T, st2, f2, q⟩ := h2
  subst e
  refine PpSet.newSet_ok (newEnv_comp ?_)
  generalize hD : s2.heap.objs.size = D
  obtain ⟨W, ⟨m0, w0⟩, turn⟩ := q D (I2.hok.fresh (Nat.le_of_eq hD))
  generalize hs3 : ({ s2 with heap := s2.heap.push { cls := .type "set", dict := none, data := .set #[] 0 (.fresh 0 0 (!X.w.params.followText "set-order")) } } : Shared) = s3
  have h3 : s3.heap = s2.heap.push { cls := .type "set", dict := none, data := .set #[] 0 (.fresh 0 0 (!X.w.params.followText "set-order")) } := by rw [← hs3]
  have I3 : Inv X pins σ (upd H2 D (SetXO X.prog X.w D [])) s3 := by
    rw [← hs3]
    refine I2.laid (t' := s2.toks) (fun b o e => Heap.get?_push_of_some _ e) (Nat.le_of_eq hD) ?_
    rw [← hD]
    exact setXO_new (setX_fresh (Heap.get?_push_size _ rfl))
  have f3 : ∀ b ∈ fp, FpOk X pins (upd H2 D (SetXO X.prog X.w D [])) b ∧ b < s3.heap.objs.size := fun b hb => by
    obtain ⟨o, e, _⟩ := T.obj _ _ st2 b hb
    have hlt := Heap.lt_size e
    refine ⟨⟨?_, (f2 b hb).2⟩, by rw [h3, Heap.size_push]; exact Nat.lt_succ_of_lt hlt⟩
    rw [upd_ne (by rw [← hD]; exact Nat.ne_of_lt hlt)]
    exact (f2 b hb).1
  have st3 : tn 0 s3.heap := T.keep _ _ _ st2 fun b _ o e => by rw [h3]; exact Heap.get?_push_of_some _ e
  generalize hH3 : upd H2 D (SetXO X.prog X.w D []) = H3 at I3 f3 w0
  have I4 := block_start I3 ok hN f3
  have pg := hg s3 H3 s3.heap.objs.size (cellsFrom (s3.heap.objs.size + 1) scope.names (cloFrom X.env.cells scope.names [])) fp
  have pt := ht s3 H3 s3.heap.objs.size (cellsFrom (s3.heap.objs.size + 1) scope.names (cloFrom X.env.cells scope.names [])) fp
  have pi1 := hi1 s3 H3 s3.heap.objs.size (cellsFrom (s3.heap.objs.size + 1) scope.names (cloFrom X.env.cells scope.names [])) fp
  have pg1 := hg1 s3 H3 s3.heap.objs.size (cellsFrom (s3.heap.objs.size + 1) scope.names (cloFrom X.env.cells scope.names [])) fp
  have pt1 := ht1 s3 H3 s3.heap.objs.size (cellsFrom (s3.heap.objs.size + 1) scope.names (cloFrom X.env.cells scope.names [])) fp
  have pe := he s3 H3 s3.heap.objs.size (cellsFrom (s3.heap.objs.size + 1) scope.names (cloFrom X.env.cells scope.names [])) fp
  have nfp : ∀ b ∈ fp, H3 b = none := fun b hb => (f3 b hb).1.1
  show codeAny _ _ (.compStart (.SetComp elt [⟨tg, iter, ifs, 0⟩, ⟨tg1, iter1, ifs1, 0⟩] scope pos) 0 (.ref it) (.ref D) (compEnvC scope (cellsFrom (s3.heap.objs.size + 1) scope.names (cloFrom X.env.cells scope.names [])) s3.heap.objs.size X.env)) _ { s3 with heap := pushCells (s3.heap.push { cls := .type "dict", data := .dict #[] }) scope.names }
  generalize hce : compEnvC scope (cellsFrom (s3.heap.objs.size + 1) scope.names (cloFrom X.env.cells scope.names [])) s3.heap.objs.size X.env = ce at I4 pg pt pi1 pg1 pt1 pe ⊢
  have cL : ce.locals = s3.heap.objs.size := by subst hce; rfl
  generalize hs4 : ({ s3 with heap := pushCells (s3.heap.push { cls := .type "dict", data := .dict #[] }) scope.names } : Shared) = s4 at I4 ⊢
  have st4 : tn 0 s4.heap := T.keep _ _ _ st3 fun b _ o e => by rw [← hs4]; exact pushCells_keeps _ _ _ _ (Heap.get?_push_of_some _ e)
  have stat : ∀ {σ' : L2.St} {H' : Hp} {s' : Shared}, Inv (X.blk s3 H3 scope ce fp) [] σ' H' s' → (∀ b ∈ fp, H' b = none) → ∀ b ∈ fp, FpOk (X.blk s3 H3 scope ce fp) [] H' b := fun {σ' H' s'} I' hn b hb =>
    ⟨hn b hb, (I'.ok.exf b hb).1, I'.ok.exfs b hb, .inl hb, fun x c e => (I'.ok.exf b hb).2 x c e, fun p hp => nomatch (show p ∈ ([] : List (Addr × Obj)) from hp)⟩
  have loop : codeAny (model X.prog X.w) X.A (.compLoop (.SetComp elt [⟨tg, iter, ifs, 0⟩, ⟨tg1, iter1, ifs1, 0⟩] scope pos) 0 (.ref it) (.ref D) ce) (compPost (model X.prog X.w) X.A X.xe use Qf (.ref D) s3.heap.objs.size) s4 := by
    refine loop2S_out (hs1 ce) (fun n s' => ∃ i H', Inv (X.blk s3 H3 scope ce fp) [] (wipe σ (own.map (·.2))) H' s' ∧ tn i s'.heap ∧ (∀ b ∈ fp, H' b = none) ∧ W i n H') ?_ m0 ⟨0, H3, I4, st4, nfp, w0⟩
    rintro n s5 ⟨i, H5, I5, st5, n5, w5⟩
    rcases turn i n H5 w5 with ⟨stop, qq⟩ | ⟨go, Nx, hNx, step⟩
    · refine thnF (T.done (X.blk s3 H3 scope ce fp) rfl rfl rfl hc i [] s5 _ H5 (fun _ _ => False) I5 (stat I5 n5) st5 stop) fun r s6 ⟨hr, I6⟩ => ?_
      subst hr
      have I7 : Inv X pins σ H5 s6 := I3.call' (ch := fp) I6.os I6.base I6.hok I6.bare fun b hb => ⟨(f3 b hb).1.2.2.2.1, (f3 b hb).1.2.1, (f3 b hb).1.2.2.2.2.1, (f3 b hb).1.2.2.2.2.2⟩
      have nC : H5 s3.heap.objs.size = none := by
        have z : H5 ce.locals = none := I6.free
        rw [cL] at z
        exact z
      obtain ⟨m, hn, _⟩ := I6.loc
      have hn : s6.heap.Ns ce.locals m := hn
      rw [cL] at hn
      exact hRR D s3.heap.objs.size s6 m H5 I7 qq hn (I3.fpOk (Nat.le_refl _) nC)
    · refine thnF (T.item (X.blk s3 H3 scope ce fp) rfl rfl rfl hc i [] s5 _ H5 (fun _ _ => False) I5 (stat I5 n5) st5 go) fun r s6 ⟨u, hr, h6⟩ => ?_
      subst hr
      refine thnF h6 fun _ s7 ⟨x, H7, I7, r7, y7, st7, n7⟩ => ?_
      have I7' := I7.pinned (stat I7 n7) (T.obj _ _ st7)
      refine thnF (pg.run _ s7 _ H7 x u _ I7' r7 (step x H7 y7)) fun _ s8 ⟨σ8, H8, I8, hw8, q8⟩ => ?_
      refine thnF (pt.run _ s8 σ8 H8 _ I8 q8) fun b s9 ⟨H9, I9, q9⟩ => ?_
      have fin : ∀ {σ9 : L2.St} {s' : Shared} {H' : Hp}, Inv (X.blk s3 H3 scope ce fp) ([] ++ pinsAt fp s7.heap) σ9 H' s' → (wipe σ (own.map (·.2))).length = σ9.length → (∀ (j : Nat) v, (wipe σ (own.map (·.2)))[j]? = some (some v) → σ9[j]? = some (some v)) → Nx H' →
          ∃ m, m < n ∧ ∃ i H', Inv (X.blk s3 H3 scope ce fp) [] (wipe σ (own.map (·.2))) H' s' ∧ tn i s'.heap ∧ (∀ b ∈ fp, H' b = none) ∧ W i m H' := fun {σ9 s' H'} I' hl hk nx => by
        obtain ⟨m', hm, w'⟩ := hNx H' nx
        have pin' : ∀ b ∈ fp, ∀ o, s7.heap.get? b = some o → s'.heap.get? b = some o ∧ H' b = none := fun b hb o e => by
          have z := I'.pin (b, o) (List.mem_append_right _ (List.mem_append_right _ (mem_pinsAt hb e)))
          exact ⟨z.1, z.2.1⟩
        refine ⟨m', hm, i + 1, H', (I'.unpinned (pins := [])).weak hl hk, T.keep _ _ _ st7 fun b hb o e => (pin' b hb o e).1, fun b hb => ?_, w'⟩
        obtain ⟨o, e, _⟩ := T.obj _ _ st7 b hb
        exact (pin' b hb o e).2
      have hl8 : (wipe σ (own.map (·.2))).length = σ8.length := by rw [← hw8, wipe_length]
      have hk8 : ∀ (j : Nat) v, (wipe σ (own.map (·.2)))[j]? = some (some v) → σ8[j]? = some (some v) := fun j v e => by
        rw [← hw8] at e
        exact (wipe_some e).1
      have hk9 : ∀ (j : Nat) v, (wipe σ (own.map (·.2)))[j]? = some (some v) → (wipe σ8 vs1)[j]? = some (some v) := fun j v e => by
        rw [← hw8] at e
        obtain ⟨e1, e2⟩ := wipe_some e
        rw [wipe_out fun z => e2 (hv j z)]
        exact e1
      cases b with
      | false =>
        simp only [Bool.false_eq_true, if_false] at q9 ⊢
        exact fin I9 hl8 hk8 q9
      | true =>
        simp only [if_true] at q9 ⊢
        refine thnF (pi1.run _ s9 σ8 H9 _ I9 q9) fun xv s10 hx => thnF hx fun itv s11 h11 => ?_
        obtain ⟨it1, fp1, tn1, J1, H11, e1, I11, T1, st11, f11, W1, ⟨m1, w1⟩, turn1⟩ := h11
        subst e1
        have stat1 : ∀ {H' : Hp}, (∀ b ∈ fp1, H' b = none) → ∀ b ∈ fp1, FpOk (X.blk s3 H3 scope ce fp) ([] ++ pinsAt fp s7.heap) H' b := fun hn b hb => ⟨hn b hb, (f11 b hb).2⟩
        have loop1 : codeAny (model X.prog X.w) X.A (.compLoop (.SetComp elt [⟨tg, iter, ifs, 0⟩, ⟨tg1, iter1, ifs1, 0⟩] scope pos) 1 (.ref it1) (.ref D) ce)
            (fun r s' => match r with
              | .ok _ => ∃ m, m < n ∧ ∃ i H', Inv (X.blk s3 H3 scope ce fp) [] (wipe σ (own.map (·.2))) H' s' ∧ tn i s'.heap ∧ (∀ b ∈ fp, H' b = none) ∧ W i m H'
              | .error _ => False) s11 := by
          refine loop2S_in (fun k s' => ∃ j H', Inv (X.blk s3 H3 scope ce fp) ([] ++ pinsAt fp s7.heap) (wipe σ8 vs1) H' s' ∧ tn1 j s'.heap ∧ (∀ b ∈ fp1, H' b = none) ∧ W1 j k H') ?_ m1 ⟨0, H11, I11.weak (wipe_length _ _) (fun j v e => (wipe_some e).1), st11, fun b hb => (f11 b hb).1, w1⟩
          rintro k s12 ⟨j, H12, I12, st12, n12, w12⟩
          rcases turn1 j k H12 w12 with ⟨stop1, nx1⟩ | ⟨go1, Nx1, hNx1, step1⟩
          · refine thnF (T1.done (X.blk s3 H3 scope ce fp) rfl rfl rfl hc j _ s12 (wipe σ8 vs1) H12 (fun _ _ => False) I12 (stat1 n12) st12 stop1) fun r s13 ⟨hr, I13⟩ => ?_
            subst hr
            exact fin I13 (hl8.trans (wipe_length σ8 vs1).symm) hk9 nx1
          · refine thnF (T1.item (X.blk s3 H3 scope ce fp) rfl rfl rfl hc j _ s12 (wipe σ8 vs1) H12 (fun _ _ => False) I12 (stat1 n12) st12 go1) fun r s13 ⟨u1, hr, h13⟩ => ?_
            subst hr
            refine thnF h13 fun _ s14 ⟨x1, H14, I14, r14, y14, st14, n14⟩ => ?_
            have I14' := I14.pinned (stat1 n14) (T1.obj _ _ st14)
            refine thnF (pg1.run _ s14 (wipe σ8 vs1) H14 x1 u1 _ I14' r14 (step1 x1 H14 y14)) fun _ s15 ⟨σ15, H15, I15, hw15, q15⟩ => ?_
            refine thnF (pt1.run _ s15 σ15 H15 _ I15 q15) fun b1 s16 ⟨H16, I16, q16⟩ => ?_
            have fin1 : ∀ {s' : Shared} {H' : Hp}, Inv (X.blk s3 H3 scope ce fp) (([] ++ pinsAt fp s7.heap) ++ pinsAt fp1 s14.heap) σ15 H' s' → Nx1 H' →
                ∃ m, m < k ∧ ∃ j H', Inv (X.blk s3 H3 scope ce fp) ([] ++ pinsAt fp s7.heap) (wipe σ8 vs1) H' s' ∧ tn1 j s'.heap ∧ (∀ b ∈ fp1, H' b = none) ∧ W1 j m H' := fun {s' H'} I' nx => by
              obtain ⟨m', hm, w'⟩ := hNx1 H' nx
              have pin' : ∀ b ∈ fp1, ∀ o, s14.heap.get? b = some o → s'.heap.get? b = some o ∧ H' b = none := fun b hb o e => by
                have z := I'.pin (b, o) (List.mem_append_right _ (List.mem_append_right _ (mem_pinsAt hb e)))
                exact ⟨z.1, z.2.1⟩
              refine ⟨m', hm, j + 1, H', I'.unpinned.weak (by rw [← hw15, wipe_length]) (fun j v e => by rw [← hw15] at e; exact (wipe_some e).1), T1.keep _ _ _ st14 fun b hb o e => (pin' b hb o e).1, fun b hb => ?_, w'⟩
              obtain ⟨o, e, _⟩ := T1.obj _ _ st14 b hb
              exact (pin' b hb o e).2
            cases b1 with
            | false =>
              simp only [Bool.false_eq_true, if_false] at q16 ⊢
              exact fin1 I16 q16
            | true =>
              simp only [if_true] at q16 ⊢
              refine thnF (pe.run _ s16 σ15 H16 _ I16 q16) fun z s17 ⟨yk, H17, I17, r17, kk, ks, ey, hD17, rm, nx⟩ => ?_
              subst ey
              exact addX_ok (X := X.blk s3 H3 scope ce fp) I17 (key_rel r17) hD17 rm fun s18 us l1 l2 l3 I18 => fin1 I18 (nx us l1 l2 l3)
        exact start2S loop1 (T1.self X.A 0 _ _ _ st11 loop1)
  exact PpSet.codeAny_compStart_set loop (T.self X.A 0 _ _ _ st4 loop)
theorem pe_sc2 {elt tg iter tg1 iter1 : Expr} {ifs ifs1 : List Expr} {scope : Scope} {own : List (Str × Nat)} {vs1 : List Nat} {pos : Pos} {wi wi1 : TI} {g g1 : TG} {tt tt1 : TT} {te : TE} (hc : X.calm = true) (hN : X.N.Nodup) (hi : PI X tg iter wi) (ok : BlkOk X.N X.env.scope scope own) (hv : ∀ i ∈ vs1, i ∈ own.map (·.2))
    (hg : ∀ (s : Shared) (H : Hp) (C : Addr) (cl : List (Str × Addr)) (fp : List Addr), PG (X.blk s H scope (compEnvC scope cl C X.env) fp) tg g) (ht : ∀ (s : Shared) (H : Hp) (C : Addr) (cl : List (Str × Addr)) (fp : List Addr), PTs (X.blk s H scope (compEnvC scope cl C X.env) fp) ifs tt)
    (hi1 : ∀ (s : Shared) (H : Hp) (C : Addr) (cl : List (Str × Addr)) (fp : List Addr), PI (X.blk s H scope (compEnvC scope cl C X.env) fp) tg1 iter1 wi1) (hg1 : ∀ (s : Shared) (H : Hp) (C : Addr) (cl : List (Str × Addr)) (fp : List Addr), PG (X.blk s H scope (compEnvC scope cl C X.env) fp) tg1 g1) (ht1 : ∀ (s : Shared) (H : Hp) (C : Addr) (cl : List (Str × Addr)) (fp : List Addr), PTs (X.blk s H scope (compEnvC scope cl C X.env) fp) ifs1 tt1)
    (he : ∀ (s : Shared) (H : Hp) (C : Addr) (cl : List (Str × Addr)) (fp : List Addr), PE (X.blk s H scope (compEnvC scope cl C X.env) fp) elt te)
    (hs : ∀ x, foldedSetIterable iter X.env x = pure x := by intro _; rfl) (hs1 : ∀ env x, foldedSetIterable iter1 env x = pure x := by intro _ _; rfl) :
    PE X (.SetComp elt [⟨tg, iter, ifs, 0⟩, ⟨tg1, iter1, ifs1, 0⟩] scope pos) (tSc2 X.prog X.w wi g tt wi1 g1 tt1 te (own.map (·.2)) vs1) := by
  refine ⟨fun pins s σ H Q I h => ?_⟩
  rw [PpSet.eval_SetComp]
  refine sc2_core hc hN I hi ok hv hg ht hi1 hg1 ht1 he hs hs1 h fun D C s' m H' I' q hn f => ⟨m, hn, fun h'' sb => ?_⟩
  obtain ⟨f0, f1, f2, f3, f4, f5⟩ := f
  exact ⟨.ref D, H', I'.turned (t' := s'.toks) (fun b o hb e => (sb.2 b hb).trans e) f0 f1 f3 f4 f5, rfl, q⟩
end
end MN
/-! the signs of a form -/
namespace MN
open PySem PySem.Spec PyProof.Rows L2
theorem lkD_rt : ∀ (ks : List Lk) (D : Ends) (v : V) (H : Hp), (ks.map (·.1)).Nodup → (∀ k ∈ ks, H k.1 = some (.frz k.2.2 k.2.1)) → D.rt v (thaw ks H) → (lkD ks D).rt v H
  | [], _, _, _, _, _, q => q
  | (d, u, o) :: r, D, v, H, hn, h, q => by
    have hn' := List.nodup_cons.mp hn
    refine lkD_rt r _ v H hn'.2 (fun k hk => h k (List.mem_cons_of_mem _ hk)) ⟨?_, q⟩
    rw [thaw_off r H hn'.1]
    exact h _ List.mem_cons_self
/-- the dicts of moves, locked -/
structure LkM (K : PySem.W.Frag) (H : Hp) (M : Addr) (ds : List Addr) (ms : List Mv) (ks : List Lk) : Prop where
  nd : (ks.map (·.1)).Nodup
  at_ : ∀ k ∈ ks, H k.1 = some k.2.1
  off : ∀ b o, H b = some o → (∀ kvs, o ≠ .dK kvs) → fzH ks H b = some o
  seq : SqL K (fzH ks H) M (ds.map V.ref)
  fz : ∀ (i : Nat) d m, ds[i]? = some d → ms[i]? = some m → ∃ od, fzH ks H d = some (.frz od (.dK (mvK m)))
theorem lkM_of {K : PySem.W.Frag} {H : Hp} {M : Addr} {ds : List Addr} {ms : List Mv} {ks : List Lk} (hM : MovesAt K H M ds ms) (hnd : ds.Nodup) (hks : ks.map (fun k => (k.1, k.2.1)) = lkOf ds ms) : LkM K H M ds ms ks := by
  have kfst : ks.map (·.1) = ds := by rw [← lkOf_fst hM.2.1, ← hks, List.map_map]; rfl
  have knd : (ks.map (·.1)).Nodup := by rw [kfst]; exact hnd
  have kat : ∀ k ∈ ks, H k.1 = some k.2.1 := fun k hk => by
    have := lkOf_at hM.2 (k.1, k.2.1) (by rw [← hks]; exact List.mem_map.mpr ⟨k, hk, rfl⟩)
    exact this.1
  have off : ∀ b o, H b = some o → (∀ kvs, o ≠ .dK kvs) → fzH ks H b = some o := fun b o hb ho => by
    rw [fzH_off ks H fun q => ?_]
    · exact hb
    · obtain ⟨k, hk, rfl⟩ := List.mem_map.mp q
      have h2 : (k.1, k.2.1) ∈ lkOf ds ms := by rw [← hks]; exact List.mem_map.mpr ⟨k, hk, rfl⟩
      obtain ⟨q', _, e⟩ := List.mem_map.mp h2
      have h3 := kat k hk
      rw [hb] at h3
      have e2 : (HO.dK (mvK q'.2)) = k.2.1 := congrArg Prod.snd e
      exact ho _ ((Option.some.inj h3).trans e2.symm)
  refine ⟨knd, kat, off, ?_, fun i d m h1 h2 => ?_⟩
  · rcases hM.1 with (h | ⟨o, h⟩) | h
    · exact .inl (.inl (off _ _ h (fun _ z => by cases z)))
    · exact .inl (.inr ⟨o, off _ _ h (fun _ z => by cases z)⟩)
    · exact .inr h
  · have hdm : (d, HO.dK (mvK m)) ∈ lkOf ds ms := List.mem_map.mpr ⟨(d, m), List.mem_of_getElem? (i := i) (List.getElem?_zip_eq_some.mpr ⟨h1, h2⟩), rfl⟩
    rw [← hks] at hdm
    obtain ⟨k, hk, ek⟩ := List.mem_map.mp hdm
    have ek1 : k.1 = d := congrArg Prod.fst ek
    have ek2 : k.2.1 = HO.dK (mvK m) := congrArg Prod.snd ek
    have fz := fzH_at ks H knd k hk
    rw [ek1, ek2] at fz
    exact ⟨_, fz⟩
theorem LkM.slt {K : PySem.W.Frag} {H : Hp} {M : Addr} {ds : List Addr} {ms : List Mv} {ks : List Lk} (L : LkM K H M ds ms ks) {x C dx : Addr} {ws : List (Option V)} (h : SlX.Slt H x C dx ws) : SlX.Slt (fzH ks H) x C dx ws := by
  rcases h with ⟨h1, h2⟩ | ⟨h1, h2⟩
  · exact .inl ⟨L.off _ _ h1 (fun _ z => by cases z), h2⟩
  · exact .inr ⟨L.off _ _ h1 (fun _ z => by unfold SlX.SlO at z; cases z), L.off _ _ h2 (fun _ z => by cases z)⟩
theorem LkM.free {K : PySem.W.Frag} {H : Hp} {M : Addr} {ds : List Addr} {ms : List Mv} {ks : List Lk} (L : LkM K H M ds ms ks) {b : Addr} (h : fzH ks H b = none) : b ∉ ks.map (·.1) := fun q => by
  obtain ⟨k, hk, rfl⟩ := List.mem_map.mp q
  rw [fzH_at ks H L.nd k hk] at h
  cases h
section
variable {P : Program} {w : World} {K : PySem.W.Frag} {mg : Str → Option Value} {base : Heap} {C p0 p1 : Addr} {i0 i1 : Nat}
section
variable {vs vs1 : List Nat} {σ σ2 : L2.St} {H1 : Hp} {D : Addr} {Qd : Hp → Prop} {g g1 : TG} {tt tt1 : TT} {te : TE} {wi1 : TI}
theorem sc2_out {J : It} {n : Nat} {G : Hp → Prop} {Y : Nat → Hp → V → Hp → Prop} (wk : Walk J n G Y) (Pv : Nat → Hp → Prop) (h0 : Pv 0 (upd H1 D (SetXO P w D []))) (hG : ∀ i H, i ≤ n → Pv i H → G H)
    (hs : ∀ i x H H', i < n → Pv i H → Y i H x H' → g x (wipe σ vs) H' fun σ2 H2 => wipe σ2 vs = wipe σ vs ∧ tt σ2 H2 fun b H3 =>
      if b = true then wi1 σ2 H3 fun J1 H4 => ∃ W1 : Nat → Nat → Hp → Prop, (∃ m, W1 0 m H4) ∧ ∀ j k H, W1 j k H →
        (J1.stop j H ∧ Pv (i + 1) H) ∨ (J1.go j H ∧ ∃ Nx1 : Hp → Prop, (∀ H', Nx1 H' → ∃ k', k' < k ∧ W1 (j + 1) k' H') ∧ ∀ x H', J1.yld j H x H' → g1 x (wipe σ2 vs1) H' fun σ3 H5 => wipe σ3 vs1 = wipe σ2 vs1 ∧ tt1 σ3 H5 fun b H6 =>
          if b = true then te σ3 H6 fun y H7 => SPut P w H7 D y Nx1 else Nx1 H6)
      else Pv (i + 1) H3) (hd : ∀ H, Pv n H → Qd H) :
    ∃ W : Nat → Nat → Hp → Prop, (∃ m, W 0 m (upd H1 D (SetXO P w D []))) ∧ ∀ i m H, W i m H →
      (J.stop i H ∧ Qd H) ∨ (J.go i H ∧ ∃ Nx : Hp → Prop, (∀ H', Nx H' → ∃ m', m' < m ∧ W (i + 1) m' H') ∧ ∀ x H', J.yld i H x H' → g x (wipe σ vs) H' fun σ2 H2 => wipe σ2 vs = wipe σ vs ∧ tt σ2 H2 fun b H3 =>
        if b = true then wi1 σ2 H3 fun J1 H4 => ∃ W1 : Nat → Nat → Hp → Prop, (∃ m, W1 0 m H4) ∧ ∀ j k H, W1 j k H →
          (J1.stop j H ∧ Nx H) ∨ (J1.go j H ∧ ∃ Nx1 : Hp → Prop, (∀ H', Nx1 H' → ∃ k', k' < k ∧ W1 (j + 1) k' H') ∧ ∀ x H', J1.yld j H x H' → g1 x (wipe σ2 vs1) H' fun σ3 H5 => wipe σ3 vs1 = wipe σ2 vs1 ∧ tt1 σ3 H5 fun b H6 =>
            if b = true then te σ3 H6 fun y H7 => SPut P w H7 D y Nx1 else Nx1 H6)
        else Nx H3) := by
  refine ⟨fun i m H => m = n - i ∧ i ≤ n ∧ Pv i H, ⟨n, by simp, Nat.zero_le _, h0⟩, ?_⟩
  rintro i m H ⟨rfl, hi, p⟩
  have q := hG i H hi p
  by_cases hlt : i < n
  · exact .inr ⟨wk.goes i H hlt q, Pv (i + 1), fun H' p' => ⟨n - (i + 1), by omega, rfl, hlt, p'⟩, fun x H' y => hs i x H H' hlt p (wk.yields i H x H' hlt q y)⟩
  · obtain rfl : i = n := by omega
    exact .inl ⟨wk.stops H q, hd H p⟩
theorem sc2_in {J1 : It} {n : Nat} {G : Hp → Prop} {Y : Nat → Hp → V → Hp → Prop} {H4 : Hp} {R : Hp → Prop} (wk : Walk J1 n G Y) (Pv : Nat → Hp → Prop) (h0 : Pv 0 H4) (hG : ∀ i H, i ≤ n → Pv i H → G H)
    (hs : ∀ j x H H', j < n → Pv j H → Y j H x H' → g1 x (wipe σ2 vs1) H' fun σ3 H5 => wipe σ3 vs1 = wipe σ2 vs1 ∧ tt1 σ3 H5 fun b H6 =>
      if b = true then te σ3 H6 fun y H7 => SPut P w H7 D y (Pv (j + 1)) else Pv (j + 1) H6) (hd : ∀ H, Pv n H → R H) :
    ∃ W1 : Nat → Nat → Hp → Prop, (∃ m, W1 0 m H4) ∧ ∀ j k H, W1 j k H →
      (J1.stop j H ∧ R H) ∨ (J1.go j H ∧ ∃ Nx1 : Hp → Prop, (∀ H', Nx1 H' → ∃ k', k' < k ∧ W1 (j + 1) k' H') ∧ ∀ x H', J1.yld j H x H' → g1 x (wipe σ2 vs1) H' fun σ3 H5 => wipe σ3 vs1 = wipe σ2 vs1 ∧ tt1 σ3 H5 fun b H6 =>
        if b = true then te σ3 H6 fun y H7 => SPut P w H7 D y Nx1 else Nx1 H6) := by
  refine ⟨fun i m H => m = n - i ∧ i ≤ n ∧ Pv i H, ⟨n, by simp, Nat.zero_le _, h0⟩, ?_⟩
  rintro i m H ⟨rfl, hi, p⟩
  have q := hG i H hi p
  by_cases hlt : i < n
  · exact .inr ⟨wk.goes i H hlt q, Pv (i + 1), fun H' p' => ⟨n - (i + 1), by omega, rfl, hlt, p'⟩, fun x H' y => hs i x H H' hlt p (wk.yields i H x H' hlt q y)⟩
  · obtain rfl : i = n := by omega
    exact .inl ⟨wk.stops H q, hd H p⟩
end
def spSignsF (K : PySem.W.Frag) (C : Addr) (i0 i1 : Nat) : Sp := fun vs H Q _ => ∃ x dx M L ds ms ls, vs = [.ref x] ∧ FormM K C i0 i1 H x dx M L ds ms ls ∧ ms.length ≤ 8 ∧ (∀ m ∈ ms, m.length ≤ 5) ∧ ∀ (q : Addr) (H' : Hp) (ys : List Str), Same H H' → H' q = some (.tup (ys.map V.str)) → ys.length ≤ 40 → (∀ y ∈ ys, ∃ m ∈ ms, ∃ r ∈ m, r.1 = y) → Q (.ref q) H'
abbrev N_fsigns : List Str := ["self", "moves", "sign"]
theorem sc_fsigns : FnScope N_fsigns ["self"] (defScope (inClass (top 51) 5)) := ⟨rfl, rfl, rfl, by decide +kernel, rfl, by decide +kernel, by decide +kernel⟩
theorem f_fsigns {f : Addr} {fd : FuncData} (FC : FormC K C p0 p1 i0 i1) (F : FunAt K "signs" "Form.signs" (inClass (top 51) 5) [] f fd) (B : Blt mg) : FnOk P w K mg base CX0 1 f fd ["self"] (spSignsF K C i0 i1) := by
  refine fnok_of F sc_fsigns (fun vs H Q E h => ?_) (fun cdv A outer s H vs Q E hr h => ?_)
  · obtain ⟨_, _, _, _, _, _, _, rfl, _⟩ := h; rfl
  · obtain ⟨x, dx, M, L, ds, ms, ls, rfl, hF, h8, h5, hQ⟩ := h
    refine ⟨_, pss_one (ps_locks (ps_ret (pe_callTy call_tuple_of (by rfl) B.tuple (by decide +kernel) (pa_cons (pe_callB (cr_sortedX rfl) (by rfl) B.sorted (by decide +kernel) (pa_cons (pe_sc2 (own := [("moves", 1), ("sign", 2)]) (vs1 := [2]) (g := gName 1) (g1 := gName 2) (tt := tYes) (tt1 := tYes) (by rfl) sc_fsigns.nd (pi_list (SlX.pe_sl (pv 0))) (blkOk_by (own := [("moves", 1), ("sign", 2)]) (N := N_fsigns) (sc := defScope (inClass (top 51) 5)) (by decide +kernel)) (by decide)
      (fun _ _ _ _ _ => (pg_name (i := 1) sc_fsigns.nd rfl (Or.inl rfl))) (fun _ _ _ _ _ => pts_nil) (fun _ _ _ _ _ => pi_keys (pv 1)) (fun _ _ _ _ _ => (pg_name (i := 2) sc_fsigns.nd rfl (Or.inl rfl))) (fun _ _ _ _ _ => pts_nil) (fun _ _ _ _ _ => pv 2)) pa_nil)) pa_nil)))), ?_⟩
    have hM := hF.m
    refine ⟨_, lockS_of (lkOf ds ms) _ _ (lkOf_at hM.2) (by rw [lkOf_fst hM.2.1]; exact hF.nd) fun ks hks => ?_⟩
    have LK := lkM_of hM hF.nd hks
    obtain ⟨ws, hs, w0, w1⟩ := hF.f.ex
    refine ⟨_, rfl, x, C, dx, p0, ws, i0, _, rfl, LK.slt hs, FC.sc, FC.s0, w0, M, rfl, ⟨_, LK.seq⟩, fun D hD => ?_⟩
    refine sc2_out (walk_list (xs := ds.map V.ref)) (fun i H' => Same (fzH ks H) H' ∧ ∃ us : List Str, H' D = some (SetXO P w D (us.map Sum.inr)) ∧ us.length ≤ 5 * i ∧ ∀ y ∈ us, ∃ m ∈ ms, ∃ r ∈ m, r.1 = y) ⟨same_new hD, [], by rw [upd_same]; rfl, Nat.zero_le _, fun y hy => nomatch hy⟩ (fun i H' _ e => Same.seq e.1 LK.seq) (fun i y Ha Hb hi e hy => ?_) (fun H' e => ?_)
    · obtain ⟨rfl, hx⟩ := hy
      rw [List.getElem?_map] at hx
      obtain ⟨d, hd, rfl⟩ := Option.map_eq_some_iff.mp hx
      have il : i < ms.length := by rw [← hM.2.1]; exact (List.getElem?_eq_some_iff.mp hd).1
      have hm := List.getElem?_eq_getElem il
      obtain ⟨od, fz⟩ := LK.fz i d _ hd hm
      obtain ⟨e1, us, e2, e3, e4⟩ := e
      refine ⟨rfl, yes_q (iteT ⟨_, rfl, d, od, rfl, .inl ⟨_, e1 _ _ fz, ?_⟩⟩)⟩
      have m5 := h5 _ (List.getElem_mem il)
      have lm : (mvK ms[i]).length = ms[i].length := by simp [mvK]
      refine sc2_in walk_keys (fun j H' => Same (fzH ks H) H' ∧ ∃ us : List Str, H' D = some (SetXO P w D (us.map Sum.inr)) ∧ us.length ≤ 5 * i + j ∧ ∀ y ∈ us, ∃ m ∈ ms, ∃ r ∈ m, r.1 = y) ⟨e1, us, e2, e3, e4⟩ (fun j H' _ q => q.1 _ _ fz) (fun j y H3 H3' hj q hy => ?_) (fun H3 q => ?_)
      · obtain ⟨rfl, kk, v, hkk, rfl⟩ := hy
        rw [mvK, List.getElem?_map] at hkk
        obtain ⟨q0, hq0, e0⟩ := Option.map_eq_some_iff.mp hkk
        cases e0
        obtain ⟨q1, vs', q2, q3, q4⟩ := q
        refine ⟨rfl, yes_q (iteT ⟨_, rfl, .inr q0.1, vs'.map Sum.inr, rfl, q2, ?_, fun us2 l1 l2 l3 => ⟨fun b o z => ?_, ?_⟩⟩)⟩
        · rw [List.length_map]
          unfold scanBound
          omega
        · rw [upd_ne (ne_of_none z hD)]
          exact q1 _ _ z
        · obtain ⟨zs, rfl⟩ := map_inr us2 (q0.1 :: vs') fun k hk => by
            rcases (l3 k).mp hk with h | h
            · obtain ⟨z, hz, rfl⟩ := List.mem_map.mp h
              exact ⟨z, rfl, List.mem_cons_of_mem _ hz⟩
            · exact ⟨_, h, List.mem_cons_self⟩
          refine ⟨zs, upd_same, ?_, fun y hy => ?_⟩
          · rw [List.length_map, List.length_map] at l1
            omega
          · rcases (l3 (.inr y)).mp (List.mem_map.mpr ⟨y, hy, rfl⟩) with h | h
            · obtain ⟨z, hz, e⟩ := List.mem_map.mp h
              cases e
              exact q4 y hz
            · cases h
              exact ⟨_, List.getElem_mem il, q0, List.mem_of_getElem? hq0, rfl⟩
      · obtain ⟨q1, vs', q2, q3, q4⟩ := q
        exact ⟨q1, vs', q2, by omega, q4⟩
    · obtain ⟨e1, us, e2, e3, e4⟩ := e
      rw [List.length_map, hM.2.1] at e3
      refine ⟨D, us, rfl, e2, by omega, fun ys p py _ hp => ?_⟩
      obtain ⟨s3, u3⟩ := laid (.lst (ys.map V.str)) hp
      generalize upd H' p (.lst (ys.map V.str)) = H3 at s3 u3 ⊢
      refine ⟨p, _, rfl, .inl ⟨SqL.of u3, fun q hq => ?_⟩⟩
      obtain ⟨s4, u4⟩ := laid (.tup (ys.map V.str)) hq
      generalize upd H3 q (.tup (ys.map V.str)) = H4 at s4 u4 ⊢
      obtain ⟨s5, kf⟩ := thaw_same LK.nd LK.at_ rfl (e1.trans (s3.trans s4))
      refine lkD_rt ks _ _ _ LK.nd kf ?_
      have qoff : q ∉ ks.map (·.1) := LK.free ((e1.trans s3).free hq)
      exact hQ q _ ys s5 (by rw [thaw_off ks H4 qoff]; exact u4) (by rw [py.length_eq]; omega) fun y hy => e4 y (py.mem_iff.mp hy)
end
end MN
/-! *text in a display; defs called with their defaults -/
namespace MN
open PySem PySem.Spec PyProof.Rows L2
section
variable {X : Cx} {pins : List (Addr × Obj)} {σ : L2.St} {H : Hp} {s : Shared}
theorem vals_signs {z : Str} {acc : Array Value} (hacc : ItemsOf (SignAt z) acc z.cps.size) : Vals (signsOf z) acc.toList := by
  have e := vals_of_get acc.toList (fun j => V.str ⟨#[(z.cps[j]?).getD 0]⟩) fun j u hj => by
    obtain ⟨c, uu, h1, h2⟩ := hacc.2 j u (by simpa using hj)
    rw [h1, h2]
    exact ⟨_, rfl⟩
  have e2 : (List.range acc.toList.length).map (fun j => V.str ⟨#[(z.cps[j]?).getD 0]⟩) = signsOf z := by
    apply List.ext_getElem?
    intro i
    unfold signsOf
    rw [List.getElem?_map, List.getElem?_map]
    have hl : acc.toList.length = z.cps.size := by simpa using hacc.1
    by_cases hi : i < z.cps.size
    · rw [List.getElem?_range (by omega)]
      simp [hi]
    · rw [List.getElem?_eq_none (by simpa [hl] using Nat.le_of_not_lt hi), List.getElem?_eq_none (by simpa using Nat.le_of_not_lt hi)]
      rfl
  rw [e2] at e
  exact e
theorem star_str {z : Str} {t : Tok} {E : Value → Shared → Prop} {Q : List Value → Shared → Prop} (hc : X.calm = true) (I : L2.Inv X pins σ H s) (hz : z.length ≤ 1000000) (hQ : ∀ us s', L2.Inv X pins σ H s' → Vals (signsOf z) us → Q us s') : PySem.W.StarOf (model X.prog X.w) X.A E (.str z t) Q s := by
  have hz1 : z.cps.size ≤ sizeLine := Nat.le_trans hz (by decide)
  have c : wpAny (model X.prog X.w) X.A (collect (.str z t)) Q E s := wpAny_collect_str (I.ok.hd hc) z t (fun s' acc hk hg hd ho hacc => hQ _ s' (I.call' (ch := []) ho (Un.kept hk) (I.hok.kept hk) (by rw [hg]; exact I.bare) (fun _ h => nomatch h)) (vals_signs hacc)) hz1
  unfold PySem.W.StarOf notIterableAtAll
  exact wpAny_bind (wpAny_specialOf (T := "str") (typeIs_str s z t) PySem.F.slot_str_iter.lookup (wpAny_pure ⟨rfl, c⟩))
/-- *e in a display, e a text: its signs -/
def tStarS (te : TE) (t : TA) : TA := fun σ H Q => te σ H fun x H1 => ∃ z, x = V.str z ∧ z.length ≤ 1000000 ∧ t σ H1 fun ys H2 => Q (signsOf z ++ ys) H2
theorem pa_starS {e : Expr} {es : List Expr} {te : TE} {t : TA} {p : Pos} (hc : X.calm = true) (he : PE X e te) (hr : PA X es t) (hs : starEach (.Starred e p :: es) X.env = (true, eval e X.env) :: starEach es X.env := by rfl) : PA X (.Starred e p :: es) (tStarS te t) := by
  refine ⟨fun pos pins s σ H Q I h => ?_⟩
  refine PySem.W.items_star (thn (he.run pins s σ H _ I h) fun v s1 ⟨y, H1, I1, ry, z, ey, hx, q⟩ => ?_) hs
  subst ey
  obtain ⟨tk, rfl⟩ := ry
  refine star_str hc I1 hx fun us s2 I2 rv => ?_
  exact thn (hr.run pos pins s2 σ H1 _ I2 q) fun ws s3 ⟨vs, H3, I3, r3, q3⟩ => ⟨signsOf z ++ vs, H3, I3, rv.append r3, q3⟩
end
/-- a def that may be called by its name, the last parameters by their defaults -/
structure CalD (P : Program) (w : World) (K : PySem.W.Frag) (mg : Str → Option Value) (base : Heap) (k : Nat) (x : Str) (dv : List V) (sp : Sp) : Prop where
  ex : ∃ (f : Addr) (fd : FuncData) (ps : List Str) (ds : List Value), FnOk P w K mg base CX0 k f fd ps sp ∧ mg x = some (.ref f) ∧ PySem.W.keepIn K (.ref f) = true ∧ Vals dv ds ∧ Binds K fd ps ds
section
variable {X : Cx} {k j : Nat} {x : Str} {sp : Sp} {dv : List V} {p pos : Pos} {e : Expr} {es : List Expr} {t : TA}
theorem pe_cD (c : CalD X.prog X.w X.K X.mg X.base k x dv sp) (hr : Room j X.A) (hk : k ≤ j) (hg : Gl X x) (ha : PA X (e :: es) t)
    (hdb : (x == ("__debug__" : Str)) = false := by decide) (he : starEach (e :: es) X.env = (false, eval e X.env) :: starEach es X.env := by rfl)
    (hpl : (backTo pos (starEach es X.env)).any (·.1) = false := by rfl) : PE X (.Call (.Name x p) (e :: es) [] pos) (tCall sp dv E0 t) := by
  obtain ⟨f, fd, ps, ds, F, hm, kp, hv, b⟩ := c.ex
  exact pe_call F (hr.mono hk) hg hm kp b hv pass0 ha hdb he hpl
end
/-- a def with defaults, under its name -/
def AtD (K : PySem.W.Frag) (mg : Str → Option Value) (x : Str) (st : Stmt) (dvs : List V) : Prop := ∃ f fd, FunD K x x (defArgs st) (defBody st) (defScope st) dvs [] f fd ∧ mg x = some (.ref f)
end MN
/-! tables of numbers; lowered_ways -/
namespace MN
open PySem PySem.Spec PyProof.Rows L2
def rowI (n : Nat) (f : Nat → Int) : List V := (List.range n).map fun t => V.int (f t)
theorem rowI_len {n : Nat} {f : Nat → Int} : (rowI n f).length = n := by simp [rowI]
theorem rowI_get {n : Nat} {f : Nat → Int} {t : Nat} (h : t < n) : (rowI n f)[t]? = some (.int (f t)) := by
  unfold rowI
  rw [List.getElem?_map, List.getElem?_range h]; rfl
theorem rowI_set {n : Nat} {f : Nat → Int} {t : Nat} {v : Int} : (rowI n f).set t (.int v) = rowI n (fun y => if y = t then v else f y) := by
  refine List.ext_getElem? fun k => ?_
  rw [List.getElem?_set]
  by_cases hk : k < n
  · by_cases e : t = k
    · subst e
      rw [if_pos rfl, if_pos (by rw [rowI_len]; exact hk), rowI_get hk]
      simp
    · rw [if_neg e, rowI_get hk, rowI_get hk]
      have e' : ¬ k = t := fun q => e q.symm
      simp only [e', if_false]
  · have l1 : (rowI n f).length ≤ k := by rw [rowI_len]; omega
    have l2 : (rowI n (fun y => if y = t then v else f y)).length ≤ k := by rw [rowI_len]; omega
    rw [List.getElem?_eq_none l2, List.getElem?_eq_none l1]
    split
    · split
      · rw [rowI_len] at *; omega
      · rfl
    · rfl
theorem rowI_congr {n : Nat} {f g : Nat → Int} (h : ∀ t, t < n → f t = g t) : rowI n f = rowI n g := by
  unfold rowI
  exact List.map_congr_left fun t ht => by rw [h t (List.mem_range.mp ht)]
/-- a table of numbers: a list of lists -/
structure MatAt (H : Hp) (a : Addr) (rs : List Addr) (n : Nat) (W : Nat → Nat → Int) : Prop where
  l : rs.length = n
  a : H a = some (.lst (rs.map V.ref))
  r : ∀ (p : Nat) t, rs[p]? = some t → H t = some (.lst (rowI n (W p)))
  nd : rs.Nodup
theorem MatAt.same {H H' : Hp} {a : Addr} {rs : List Addr} {n : Nat} {W : Nat → Nat → Int} (h : MatAt H a rs n W) (e : Same H H') : MatAt H' a rs n W := ⟨h.l, e _ _ h.a, fun p t q => e _ _ (h.r p t q), h.nd⟩
theorem MatAt.congr {H : Hp} {a : Addr} {rs : List Addr} {n : Nat} {W W' : Nat → Nat → Int} (h : MatAt H a rs n W) (e : ∀ p t, p < n → t < n → W p t = W' p t) : MatAt H a rs n W' := ⟨h.l, h.a, fun p t q => by
  have hp : p < n := by rw [← h.l]; exact (List.getElem?_eq_some_iff.mp q).1
  rw [h.r p t q, rowI_congr fun t ht => e p t hp ht], h.nd⟩
/-- the number at a place, as it is read -/
theorem MatAt.at_ {K : PySem.W.Frag} {H : Hp} {a : Addr} {rs : List Addr} {n : Nat} {W : Nat → Nat → Int} (h : MatAt H a rs n W) {p : Nat} (hp : p < n) : ∃ r, rs[p]? = some r ∧ SqL K H a (rs.map V.ref) ∧ atI (rs.map V.ref) (p : Int) = some (.ref r) ∧ SqL K H r (rowI n (W p)) := by
  have e : rs[p]? = some (rs[p]'(by rw [h.l]; exact hp)) := List.getElem?_eq_getElem _
  exact ⟨_, e, SqL.of h.a, atI_nat (by rw [List.getElem?_map, e]; rfl), SqL.of (h.r p _ e)⟩
theorem rowI_at {n : Nat} {f : Nat → Int} {t : Nat} (h : t < n) : atI (rowI n f) (t : Int) = some (.int (f t)) := atI_nat (rowI_get h)
/-- a comprehension each item of which is a new object -/
theorem lc_newF {J : It} {n : Nat} {G : Hp → Prop} {Y : Nat → Hp → V → Hp → Prop} (w : Walk J n G Y) (xs : List V) (hn : xs.length = n) (hz : n ≤ 1000) (hY : ∀ i H x H', i < n → Y i H x H' → H' = H ∧ xs[i]? = some x)
    {j : Nat} {te : TE} {vs : List Nat} {σ : L2.St} {H1 : Hp} {D : Addr} {Qd : Hp → Prop} (hD : H1 D = none) (hG : ∀ H', Same H1 H' → G H')
    (hw : ∀ x ∈ xs, wipe ((wipe σ vs).set j (some x)) vs = wipe σ vs)
    (R : Nat → Addr → Hp → Prop) (hR : ∀ k v H H', (∀ b o, b ≠ D → H b = some o → H' b = some o) → v ≠ D → R k v H → R k v H') (hE : ∀ k v H, R k v H → ∃ o, H v = some o)
    (he : ∀ (i : Nat) (x : V), xs[i]? = some x → ∀ H2, Same H1 H2 → (∃ o, H2 D = some o) → ∀ Q : VK, (∀ y H3, H2 y = none → Same H2 H3 → R i y H3 → Q (.ref y) H3) → te ((wipe σ vs).set j (some x)) H2 Q)
    (hd : ∀ (H' : Hp) (qs : List Addr), Same H1 H' → H' D = some (.lst (qs.map V.ref)) → qs.Nodup → D ∉ qs → qs.length = n → (∀ (k : Nat) (q : Addr), qs[k]? = some q → R k q H') → Qd H') : LcGoal J (gName j) tYes te vs σ H1 D Qd := by
  refine lc_it w (fun i H' => Same H1 H' ∧ ∃ qs : List Addr, H' D = some (.lst (qs.map V.ref)) ∧ qs.Nodup ∧ D ∉ qs ∧ qs.length = i ∧ ∀ (k : Nat) (v : Addr), qs[k]? = some v → R k v H') ⟨same_new hD, [], upd_same, List.nodup_nil, by simp, rfl, fun k v z => by simp at z⟩ (fun i H' _ e => hG _ e.1) (fun i x H H' hi e y => ?_) (fun H' e => ?_)
  · obtain ⟨rfl, hx⟩ := hY i H x H' hi y
    obtain ⟨e1, qs, e2, nd, nD, e3, e4⟩ := e
    refine ⟨hw _ (List.mem_of_getElem? hx), yes_q (iteT ?_)⟩
    refine he i _ hx _ e1 ⟨_, e2⟩ _ fun y H3 fy s3 r3 => ⟨qs.map V.ref, s3 _ _ e2, ?_, fun b o q => ?_, qs ++ [y], by rw [upd_same, List.map_append]; rfl, ?_, ?_, by rw [List.length_append, e3]; rfl, fun k v z => ?_⟩
    · have : 1000000 < sizeLine := by decide
      rw [List.length_map]
      omega
    · rw [upd_ne (ne_of_none q hD)]
      exact s3 _ _ (e1 _ _ q)
    · rw [List.nodup_append]
      refine ⟨nd, by simp, fun q hq q' hq' z => ?_⟩
      rw [List.mem_singleton.mp hq'] at z
      obtain ⟨k, hk⟩ := List.mem_iff_getElem?.mp hq
      obtain ⟨o, ho⟩ := hE _ _ _ (e4 k q hk)
      rw [z, fy] at ho
      cases ho
    · intro z
      rcases List.mem_append.mp z with z | z
      · exact nD z
      · rw [← List.mem_singleton.mp z, e2] at fy
        cases fy
    · have up : ∀ b o, b ≠ D → H3 b = some o → upd H3 D (.lst (qs.map V.ref ++ [.ref y])) b = some o := fun b o n q => by rw [upd_ne n]; exact q
      have yD : y ≠ D := fun z => by rw [z, e2] at fy; cases fy
      rcases Nat.lt_or_ge k qs.length with hk | hk
      · rw [List.getElem?_append_left hk] at z
        exact hR _ _ _ _ (fun b o n q => up b o n (s3 _ _ q)) (fun q => nD (by rw [← q]; exact List.mem_of_getElem? z)) (e4 k v z)
      · rw [List.getElem?_append_right hk] at z
        have hk2 : k - qs.length = 0 := by
          have := (List.getElem?_eq_some_iff.mp z).1
          simp at this
          omega
        rw [hk2] at z
        obtain rfl : y = v := by simpa using z
        obtain rfl : k = i := by omega
        exact hR _ _ _ _ up yD r3
  · obtain ⟨e1, qs, e2, nd, nD, e3, e4⟩ := e
    exact hd H' qs e1 e2 nd nD e3 e4
theorem rg_range (n : Nat) : rgV 0 (n : Int) = rangeV n := by
  unfold rgV rangeV
  rw [show ((n : Int) - 0).toNat = n by omega]
  exact List.map_congr_left fun i _ => by rw [Int.zero_add]
theorem rangeV_get {n i : Nat} {x : V} (h : (rangeV n)[i]? = some x) : i < n ∧ x = .int (i : Int) := by
  have hl := (List.getElem?_eq_some_iff.mp h).1
  simp only [rangeV, List.length_map, List.length_range] at hl
  unfold rangeV at h
  rw [List.getElem?_map, List.getElem?_range hl] at h
  exact ⟨hl, (Option.some.inj h).symm⟩
theorem rangeV_mem {n : Nat} {x : V} (h : x ∈ rangeV n) : ∃ i, i < n ∧ x = .int (i : Int) := by
  obtain ⟨i, hi⟩ := List.mem_iff_getElem?.mp h
  exact ⟨i, rangeV_get hi⟩
theorem rangeV_len (n : Nat) : (rangeV n).length = n := by simp [rangeV]
/-- numbers by a place -/
def numF (f : Nat → Int) : V → V
  | .int t => .int (f t.toNat)
  | v => v
theorem rangeV_map (n : Nat) (f : Nat → Int) : (rangeV n).map (numF f) = rowI n f := by
  unfold rangeV rowI
  rw [List.map_map]
  exact List.map_congr_left fun i _ => by simp [numF]
section
variable {P : Program} {w : World} {K : PySem.W.Frag} {mg : Str → Option Value} {base : Heap}
def spLowered : Sp := fun vs H Q _ => ∃ a rs n W m, vs = [.ref a, .int ((m : Nat) : Int)] ∧ MatAt H a rs n W ∧ m < n ∧ n ≤ 40 ∧ ∀ q rs' H', H q = none → Same H H' → MatAt H' q rs' n (lowW m W) → Q (.ref q) H'
abbrev N_lowered_ways : List Str := ["ways", "middle", "many", "t", "p"]
theorem sc_lowered_ways : FnScope N_lowered_ways ["ways", "middle"] (defScope (top 68)) := ⟨rfl, rfl, rfl, by decide +kernel, rfl, by decide +kernel, by decide +kernel⟩
abbrev scW : Scope := { kind := .function, names := [(".0", .local), ("p", .cell), ("many", .cell), ("middle", .cell), ("ways", .cell)], isGenerator := false, isCoroutine := false }
theorem c_lowered_ways (A : At K mg "lowered_ways" (top 68)) (B : Blt mg) : Cal P w K mg base 1 "lowered_ways" spLowered := by
  refine cal_of A sc_lowered_ways (fun _ _ _ _ _ _ us hl => match us, hl with | [_, _], _ => rfl) (fun vs H Q E h => ?_) (fun _ cdv A outer s H vs Q E hr h => ?_)
  · obtain ⟨_, _, _, _, _, rfl, _⟩ := h; rfl
  · obtain ⟨a, rs, n, W, m, rfl, hM, hm, h8, hQ⟩ := h
    refine ⟨_, (pss_cons (ps_set (i := 2) sc_lowered_ways.nd rfl (Or.inr rfl) (pe_listRg rfl (by rfl) B.list (prg_1 (by rfl) B.range (pe_callB call_len_seq (by rfl) B.len (by decide +kernel) (pa_cons (pv 0) pa_nil)))))
      (pss_one (ps_ret (pe_lc (own := [("p", 4)]) (g := gName 4) (tt := tYes) (by rfl) sc_lowered_ways.nd (pi_list (pv 2)) (blkOk_by (own := [("p", 4)]) (N := N_lowered_ways) (sc := defScope (top 68)) (by decide +kernel)) (fun _ _ _ _ _ => (pg_name (i := 4) sc_lowered_ways.nd rfl (Or.inr rfl))) (fun _ _ _ _ _ => pts_nil)
        (fun _ _ _ _ _ => (pe_lc (own := [("t", 3)]) (g := gName 3) (tt := tYes) (by rfl) sc_lowered_ways.nd (piListK (K := K) rfl (pv 2)) (blkOk_by (own := [("t", 3)]) (N := N_lowered_ways) (sc := scW) (by decide +kernel)) (fun _ _ _ _ _ => (pg_name (i := 3) sc_lowered_ways.nd rfl (Or.inl rfl))) (fun _ _ _ _ _ => pts_nil)
          (fun _ _ _ _ _ => (pe_callB (call_min2 rfl) (by rfl) B.min (by decide +kernel) (pa_cons (pe_ix (ixLK (K := K) rfl) (pe_ix (ixLK (K := K) rfl) (pv 0) (pv 4) (fun _ _ => rfl)) (pv 3) (fun _ _ => rfl)) (pa_cons (pe_op op_add (pe_ix (ixLK (K := K) rfl) (pe_ix (ixLK (K := K) rfl) (pv 0) (pv 4) (fun _ _ => rfl)) (pv 1) (fun _ _ => rfl)) (pe_ix (ixLK (K := K) rfl) (pe_ix (ixLK (K := K) rfl) (pv 0) (pv 1) (fun _ _ => rfl)) (pv 3) (fun _ _ => rfl))) pa_nil)))))))))), ?_⟩
    have hl := hM.l
    have ln : (rs.map V.ref).length = n := by rw [List.length_map, hl]
    refine ⟨_, rfl, a, _, rfl, .inl (SqL.of hM.a), _, rfl, RgOk.of_le (by decide) (by omega) (by decide) (by omega), fun l0 hl0 => ?_⟩
    rw [ln, rg_range]
    obtain ⟨s1, u1⟩ := laid (.lst (rangeV n)) hl0
    generalize upd H l0 (.lst (rangeV n)) = H1 at s1 u1 ⊢
    refine ⟨_, rfl, l0, rfl, ⟨_, SqL.of u1⟩, fun D hD => ?_⟩
    refine lc_newF walk_list (rangeV n) rfl (by rw [rangeV_len]; omega) (fun _ _ _ _ _ y => y) hD (fun H' e => Same.seq e (SqL.of u1)) (fun _ _ => rfl) (fun k v H' => H' v = some (.lst (rowI n (lowW m W k)))) (fun k v _ _ up n r => up _ _ n r) (fun _ _ _ r => ⟨_, r⟩) (fun i x hx H2 e2 _ Q q => ?_) (fun H' qs e' u' nq nD lq r' => ?_)
    · obtain ⟨hi, rfl⟩ := rangeV_get hx
      have M2 := hM.same (s1.trans e2)
      obtain ⟨ri, g1, g2, g3, g4⟩ := M2.at_ (K := K) hi
      obtain ⟨rm, k1, k2, k3, k4⟩ := M2.at_ (K := K) hm
      refine ⟨_, rfl, l0, rfl, ⟨_, SqL.of (e2 _ _ u1)⟩, fun D2 hD2 => ?_⟩
      refine lc_lstE (SqL.of (e2 _ _ u1)) hD2 (by rw [rangeV_len]; omega) (fun _ => true) (numF (lowW m W i)) (fun _ _ => rfl) (fun _ _ H3 e3 Q q => q _ (Same.refl _)) (fun y hy _ H3 e3 Q q => ?_) (fun H3 e3 u3 => ?_)
      · obtain ⟨t, ht, rfl⟩ := rangeV_mem hy
        have q1 := Same.seq e3 g2
        have q2 := Same.seq e3 g4
        have q3 := Same.seq e3 k4
        refine ⟨_, rfl, _, rfl, a, _, _, _, rfl, rfl, q1, g3, _, rfl, ri, _, _, _, rfl, rfl, q2, rowI_at ht, ?_⟩
        refine ⟨_, rfl, _, rfl, a, _, _, _, rfl, rfl, q1, g3, _, rfl, ri, _, _, _, rfl, rfl, q2, rowI_at hm, ?_⟩
        refine ⟨_, rfl, _, rfl, a, _, _, _, rfl, rfl, q1, k3, _, rfl, rm, _, _, _, rfl, rfl, q3, rowI_at ht, _, _, rfl, rfl, _, _, rfl, ?_⟩
        have : (if W i m + W m t < W i t then W i m + W m t else W i t) = lowW m W i ((t : Int).toNat) := by
          unfold lowW
          rw [Int.toNat_natCast]
          split <;> omega
        rw [this]
        exact q _ (Same.refl _)
      · rw [filter_all, rangeV_map] at u3
        exact q _ _ hD2 e3 u3
    · rw [rangeV_len] at lq
      exact hQ D qs H' (s1.free hD) (s1.trans e') ⟨lq, u', fun p t h => r' p t h, nq⟩
end
end MN
/-! put_ways -/
namespace MN
open PySem PySem.Spec PyProof.Rows L2
def edgeM (ms : List Mv) (p a t : Nat) : Prop := ∃ m, ms[p]? = some m ∧ (sgS a, t) ∈ m
def putW (W : Nat → Nat → Int) (p t : Nat) (v : Int) : Nat → Nat → Int := fun x y => if x = p ∧ y = t then v else W x y
section
variable {ms : List Mv} {n : Nat} {pc : Nat → Int} {far : Int} {dn dn' : Nat → Nat → Nat → Prop} {W : Nat → Nat → Int}
structure EgOk (ms : List Mv) (n : Nat) (pc : Nat → Int) (far : Int) (dn : Nat → Nat → Nat → Prop) (W : Nat → Nat → Int) : Prop where
  z : ∀ p, p < n → W p p = 0
  nn : ∀ p t, p < n → t < n → 0 ≤ W p t
  eg : ∀ p a t, p < n → t < n → dn p a t → W p t ≤ pc a
  at_ : ∀ p t, p < n → t < n → far ≤ W p t ∨ ∃ v, LedR (edgeM ms) p v t ∧ sumP pc v = W p t
theorem EgOk.start (h0 : 0 ≤ far) : EgOk ms n pc far (fun _ _ _ => False) (fun p t => if p = t then 0 else far) := by
  refine ⟨fun p _ => if_pos rfl, fun p t _ _ => ?_, fun _ _ _ _ _ h => h.elim, fun p t _ _ => ?_⟩
  · show 0 ≤ if p = t then 0 else far
    split <;> omega
  · by_cases e : p = t
    · subst e
      exact .inr ⟨[], .nil, by simp [sumP]⟩
    · exact .inl (by simp [e])
theorem EgOk.mono (E : EgOk ms n pc far dn W) (h : ∀ p a t, p < n → t < n → dn' p a t → dn p a t ∨ (p = t ∧ 0 ≤ pc a)) : EgOk ms n pc far dn' W := by
  refine ⟨E.z, E.nn, fun p a t hp ht q => ?_, E.at_⟩
  rcases h p a t hp ht q with k | ⟨rfl, k⟩
  · exact E.eg p a t hp ht k
  · rw [E.z p hp]; exact k
theorem EgOk.put (E : EgOk ms n pc far dn W) {i a t : Nat} (hi : i < n) (ht : t < n) (ne : i ≠ t) (he : edgeM ms i a t) (pa : 0 ≤ pc a) (h : ∀ p b s, dn' p b s → dn p b s ∨ (p = i ∧ b = a ∧ s = t)) : EgOk ms n pc far dn' (putW W i t (min (W i t) (pc a))) := by
  refine ⟨fun p hp => ?_, fun p s hp hs => ?_, fun p b s hp hs q => ?_, fun p s hp hs => ?_⟩
  · unfold putW
    rw [if_neg fun q => ne (q.1.symm.trans q.2)]
    exact E.z p hp
  · have h1 := E.nn p s hp hs
    have h2 := E.nn i t hi ht
    unfold putW
    split <;> omega
  · unfold putW
    rcases h p b s q with q | ⟨rfl, rfl, rfl⟩
    · have h1 := E.eg p b s hp hs q
      split
      · rename_i e
        obtain ⟨rfl, rfl⟩ := e
        omega
      · exact h1
    · rw [if_pos ⟨rfl, rfl⟩]; omega
  · unfold putW
    by_cases e : p = i ∧ s = t
    · obtain ⟨rfl, rfl⟩ := e
      rw [if_pos ⟨rfl, rfl⟩]
      by_cases c : W p s ≤ pc a
      · rw [Int.min_eq_left c]; exact E.at_ p s hp hs
      · rw [Int.min_eq_right (by omega)]
        exact .inr ⟨[a], .cons .nil he, by simp [sumP]⟩
    · rw [if_neg e]; exact E.at_ p s hp hs
theorem EgOk.ways (E : EgOk ms n pc far (edgeM ms) W) : FwOk (edgeM ms) n pc far (fun _ => False) W := ⟨E.z, E.nn, fun _ _ _ h => h.elim, fun p a t hp ht e => E.eg p a t hp ht e, E.at_⟩
theorem FwOk.mono {ed : Nat → Nat → Nat → Prop} {M M' : Nat → Prop} (F : FwOk ed n pc far M W) (h : ∀ q, M' q → M q) : FwOk ed n pc far M' W := ⟨F.z, F.nn, fun q p t hq => F.tri q p t (h q hq), F.eg, F.at_⟩
end
theorem MatAt.put {H : Hp} {D : Addr} {rs : List Addr} {n : Nat} {W : Nat → Nat → Int} (h : MatAt H D rs n W) (nD : D ∉ rs) {i t : Nat} {r : Addr} {v : Int} (hr : rs[i]? = some r) : MatAt (upd H r (.lst ((rowI n (W i)).set t (.int v)))) D rs n (putW W i t v) := by
  refine ⟨h.l, ?_, fun p q hq => ?_, h.nd⟩
  · rw [upd_ne fun z => nD (by rw [z]; exact List.mem_of_getElem? hr)]; exact h.a
  · by_cases e : q = r
    · subst e
      have hp : p < rs.length := (List.getElem?_eq_some_iff.mp hq).1
      obtain rfl : p = i := (List.getElem?_inj hp h.nd).mp (hq.trans hr.symm)
      rw [upd_same, rowI_set]
      have : (fun y => if y = t then v else W p y) = putW W p t v p := by
        funext y
        simp [putW]
      rw [this]
    · rw [upd_ne e, h.r p q hq]
      have ne : p ≠ i := fun z => e (by rw [z, hr] at hq; exact (Option.some.inj hq).symm)
      refine congrArg some (congrArg HO.lst (rowI_congr fun y _ => ?_))
      simp [putW, ne]
theorem ixN_lt {n k : Nat} (h : k < n) : ixN n (k : Int) = some k := by
  unfold ixN
  rw [if_pos (by omega), if_pos (by omega)]
  simp
theorem lc_newRng {n : Nat} (hz : n ≤ 1000) {j : Nat} {te : TE} {vs : List Nat} {σ : L2.St} {H1 : Hp} {D : Addr} {Qd : Hp → Prop} (hD : H1 D = none) (hw : ∀ x ∈ rangeV n, wipe ((wipe σ vs).set j (some x)) vs = wipe σ vs)
    (R : Nat → Addr → Hp → Prop) (hR : ∀ k v H H', (∀ b o, b ≠ D → H b = some o → H' b = some o) → v ≠ D → R k v H → R k v H') (hE : ∀ k v H, R k v H → ∃ o, H v = some o)
    (he : ∀ (i : Nat), i < n → ∀ H2, Same H1 H2 → (∃ o, H2 D = some o) → ∀ Q : VK, (∀ y H3, H2 y = none → Same H2 H3 → R i y H3 → Q (.ref y) H3) → te ((wipe σ vs).set j (some (.int (i : Int)))) H2 Q)
    (hd : ∀ (H' : Hp) (qs : List Addr), Same H1 H' → H' D = some (.lst (qs.map V.ref)) → qs.Nodup → D ∉ qs → qs.length = n → (∀ (k : Nat) (q : Addr), qs[k]? = some q → R k q H') → Qd H') : LcGoal (Itr 0 n) (gName j) tYes te vs σ H1 D Qd := by
  refine lc_newF (walk_range (lo := 0)) (rangeV n) (rangeV_len n) hz (fun i H x H' hi y => ?_) hD (fun _ _ => trivial) hw R hR hE (fun i x hx H2 e2 o2 Q q => ?_) hd
  · obtain ⟨e1, e2⟩ := y
    exact ⟨e1, by simp [rangeV, hi, e2]⟩
  · obtain ⟨hi, rfl⟩ := rangeV_get hx
    exact he i hi H2 e2 o2 Q q
theorem lc_rngE {n : Nat} (hz : n ≤ 1000000) {j : Nat} {te : TE} {vs : List Nat} {σ : L2.St} {H1 : Hp} {D : Addr} {Qd : Hp → Prop} (hD : H1 D = none) (f : Nat → Int) (hw : ∀ x ∈ rangeV n, wipe ((wipe σ vs).set j (some x)) vs = wipe σ vs)
    (he : ∀ t, t < n → ∀ H2, Same H1 H2 → ∀ (Q : VK), (∀ H3, Same H2 H3 → Q (.int (f t)) H3) → te ((wipe σ vs).set j (some (.int (t : Int)))) H2 Q)
    (hd : ∀ H', Same H1 H' → H' D = some (.lst (rowI n f)) → Qd H') : LcGoal (Itr 0 n) (gName j) tYes te vs σ H1 D Qd := by
  refine lc_ext (walk_range (lo := 0)) (rangeV n) (rangeV_len n) hz (fun i H x H' hi y => ?_) hD (fun _ => true) (numF f) (fun _ _ => trivial) hw (fun _ _ H3 e3 Q q => q _ (Same.refl _)) (fun x hx _ H2 e2 Q q => ?_) (fun H' e' u' => hd H' e' ?_)
  · obtain ⟨e1, e2⟩ := y
    exact ⟨e1, by simp [rangeV, hi, e2]⟩
  · obtain ⟨t, ht, rfl⟩ := rangeV_mem hx
    exact he t ht H2 e2 Q q
  · rw [filter_all, rangeV_map] at u'
    exact u'
section
variable {P : Program} {w : World} {K : PySem.W.Frag} {mg : Str → Option Value} {base : Heap}
/-- moves by the signs of some prices -/
structure MvsOk (ys : List Str) (ms : List Mv) : Prop where
  n8 : ms.length ≤ 8
  five : ∀ m ∈ ms, m.length ≤ 5
  sg : ∀ m ∈ ms, ∀ q ∈ m, q.1 ∈ ys ∧ q.2 < ms.length
def spPutWays (K : PySem.W.Frag) : Sp := fun vs H Q _ => ∃ M p far ds ms ys g, vs = [.ref M, .ref p, .int far] ∧ MovesAt K H M ds ms ∧ MvsOk ys ms ∧ H p = some (.dK (dkF ys g)) ∧ ys.Nodup ∧ (∀ z ∈ ys, ∃ c ∈ ("abcde" : Str).cps.toList, z = ⟨#[c]⟩) ∧ (∀ z ∈ ys, 0 ≤ g z) ∧ 0 ≤ far ∧
  ∀ q rs W H', Same H H' → MatAt H' q rs ms.length W → WaysOk (edgeM ms) ms.length (fun a => g (sgS a)) far W → Q (.ref q) H'
abbrev N_put_ways : List Str := ["moves", "puts", "far", "ways", "t", "p", "row", "sign", "middle"]
theorem sc_put_ways : FnScope N_put_ways ["moves", "puts", "far"] (defScope (top 69)) := ⟨rfl, rfl, rfl, by decide +kernel, rfl, by decide +kernel, by decide +kernel⟩
abbrev scP : Scope := { kind := .function, names := [(".0", .local), ("p", .cell), ("range", .globalImplicit), ("len", .globalImplicit), ("far", .cell), ("moves", .cell)], isGenerator := false, isCoroutine := false }
theorem c_put_ways (A : At K mg "put_ways" (top 69)) (B : Blt mg) (c_lowered_ways : Cal P w K mg base 1 "lowered_ways" spLowered) : Cal P w K mg base 2 "put_ways" (spPutWays K) := by
  refine cal_of A sc_put_ways (fun _ _ _ _ _ _ us hl => match us, hl with | [_, _, _], _ => rfl) (fun vs H Q E h => ?_) (fun _ cdv A outer s H vs Q E hr h => ?_)
  · obtain ⟨_, _, _, _, _, _, _, rfl, _⟩ := h; rfl
  · obtain ⟨M, p, far, ds, ms, ys, g, rfl, hM, hO, hp, nd, sg, g0, f0, hQ⟩ := h
    refine ⟨_, (pss_cons (ps_setLc (i := 3) (own := [("p", 5)]) (g := gName 5) (tt := tYes) (by rfl) sc_put_ways.nd rfl rfl (sw_true rfl rfl rfl (by decide +kernel)) (pi_range1 (by rfl) B.range (pa_cons (pe_callB call_len_seq (by rfl) B.len (by decide +kernel) (pa_cons (pv 0) pa_nil)) pa_nil)) (blkOk_by (own := [("p", 5)]) (N := N_put_ways) (sc := defScope (top 69)) (by decide +kernel)) (fun _ _ _ _ _ => (pg_name (i := 5) sc_put_ways.nd rfl (Or.inr rfl))) (fun _ _ _ _ _ => pts_nil)
        (fun _ _ _ _ _ => (pe_lc (own := [("t", 4)]) (g := gName 4) (tt := tYes) (by rfl) sc_put_ways.nd (pi_range1 (by rfl) B.range (pa_cons (pe_callB (lenK (K := K) rfl) (by rfl) B.len (by decide +kernel) (pa_cons (pv 0) pa_nil)) pa_nil)) (blkOk_by (own := [("t", 4)]) (N := N_put_ways) (sc := scP) (by decide +kernel)) (fun _ _ _ _ _ => (pg_name (i := 4) sc_put_ways.nd rfl (Or.inl rfl))) (fun _ _ _ _ _ => pts_nil)
          (fun _ _ _ _ _ => (pe_ifExp (pt_cmpR op_eq (pv 5) (pv 4) (nomark _)) pe_int (pv 2))))))
      (pss_cons (ps_for PassesOwn.never rfl (pi_enum (by rfl) B.enumerate (pa_cons (pv 0) pa_nil)) (pg_tup rfl (pgs_cons (pg_name (i := 5) sc_put_ways.nd rfl (Or.inl rfl)) (pgs_cons (pg_name (i := 6) sc_put_ways.nd rfl (Or.inl rfl)) pgs_nil)))
        (pss_one (ps_lock (ps_for PassesOwn.never rfl (pi_items (pv 6)) (pg_tup rfl (pgs_cons (pg_name (i := 7) sc_put_ways.nd rfl (Or.inl rfl)) (pgs_cons (pg_name (i := 4) sc_put_ways.nd rfl (Or.inl rfl)) pgs_nil)))
          (pss_one (ps_if (pt_cmpR op_ne (pv 5) (pv 4) (nomark _))
            (pss_one (ps_asg (pe_callB (call_min2 rfl) (by rfl) B.min (by decide +kernel) (pa_cons (pe_ix ix_list (pe_ix ix_list (pv 3) (pv 5) (fun _ _ => rfl)) (pv 4) (fun _ _ => rfl)) (pa_cons (pe_dget (hu_of hr) (pv 1) (pv 7) (fun _ _ => rfl)) pa_nil))) (pg_sub (pe_ix ix_list (pv 3) (pv 5) (fun _ _ => rfl)) (pv 4) set_list)))
            pss_nil))))))
      (pss_cons (ps_for PassesOwn.never rfl (pi_range1 (by rfl) B.range (pa_cons (pe_callB call_len_seq (by rfl) B.len (by decide +kernel) (pa_cons (pv 0) pa_nil)) pa_nil)) (pg_name (i := 8) sc_put_ways.nd rfl (Or.inl rfl))
        (pss_one (ps_set (i := 3) sc_put_ways.nd rfl (Or.inl rfl) (pe_c c_lowered_ways hr (by decide) (by rfl) (pa_cons (pv 3) (pa_cons (pv 8) pa_nil))))))
      (pss_one (ps_ret (pv 3)))))), ?_⟩
    have n8 := hO.n8
    have ln : (ds.map V.ref).length = ms.length := by rw [List.length_map, hM.2.1]
    refine ⟨_, rfl, M, _, rfl, .inl hM.1, _, rfl, by omega, by omega, fun D hD => ?_⟩
    rw [ln]
    refine lc_newRng (n := ms.length) (by omega) hD (fun _ _ => rfl) (fun k v H' => H' v = some (.lst (rowI ms.length (fun t => if k = t then 0 else far))) ∧ H v = none) (fun k v _ _ up n r => ⟨up _ _ n r.1, r.2⟩) (fun _ _ _ r => ⟨_, r.1⟩) (fun i hi H2 e2 _ Q q => ?_) (fun H1 rs e1 u1 nr nD lr r1 => ?_)
    · refine ⟨_, rfl, M, _, rfl, .inl (Same.seq e2 hM.1), _, rfl, by omega, by omega, fun D2 hD2 => ?_⟩
      rw [ln]
      refine lc_rngE (n := ms.length) (by omega) hD2 (fun t => if i = t then 0 else far) (fun _ _ => rfl) (fun t ht H3 e3 Q q => ?_) (fun H3 e3 u3 => ?_)
      · refine ⟨_, rfl, _, rfl, rfl, _, rfl, ?_⟩
        by_cases e : i = t
        · subst e
          rw [decide_eq_true rfl]
          rw [if_pos rfl] at q
          exact iteT (q _ (Same.refl _))
        · rw [decide_eq_false (fun z => e (by injection z with z; omega))]
          rw [if_neg e] at q
          exact iteF ⟨_, rfl, q _ (Same.refl _)⟩
      · exact q D2 H3 hD2 e3 ⟨u3, e2.free hD2⟩
    · have M1 : MatAt H1 D rs ms.length (fun p t => if p = t then 0 else far) := ⟨lr, u1, fun p t h => (r1 p t h).1, nr⟩
      have rn : ∀ r ∈ rs, H r = none := fun r hr => by
        obtain ⟨k, hk⟩ := List.mem_iff_getElem?.mp hr
        exact (r1 k r hk).2
      clear r1 u1
      refine ⟨_, rfl, M, _, rfl, Same.seq e1 hM.1, for_it walk_enum (fun i σ H' => (∃ o4 o5 o6 o7, σ = [some (.ref M), some (.ref p), some (.int far), some (.ref D), o4, o5, o6, o7, none]) ∧ Same H H' ∧ ∃ W, MatAt H' D rs ms.length W ∧ EgOk ms ms.length (fun a => g (sgS a)) far (fun q a t => q < i ∧ edgeM ms q a t) W) ⟨⟨_, _, _, _, rfl⟩, e1, _, M1, (EgOk.start f0).mono fun _ _ _ _ _ q => absurd q.1 (Nat.not_lt_zero _)⟩ (fun i σ H' _ e => Same.seq e.2.1 hM.1) (fun i y σ Ha Hb hi e hy => ?_) (fun σ H2 e => ?_)⟩
      · obtain ⟨T, x1, y1, rfl, hT, rfl, h1, h2⟩ := hy
        cases h1
        obtain ⟨⟨o4, o5, o6, o7, rfl⟩, ea, W, MA, EA⟩ := e
        replace h2 : (ds.map V.ref)[i]? = some y1 := h2
        rw [List.getElem?_map] at h2
        obtain ⟨d, hd, rfl⟩ := Option.map_eq_some_iff.mp h2
        have il : i < ms.length := by rw [ln] at hi; exact hi
        have hm := List.getElem?_eq_getElem il
        generalize hmm : ms[i] = m at hm
        have mm : m ∈ ms := List.mem_of_getElem? hm
        have hdH := hM.2.2 i d m hd hm
        have sT := same_new (o := .tup [.int (i : Nat), .ref d]) hT
        refine ⟨T, _, rfl, .inl (.inl upd_same), rfl, _, _, rfl, _, _, rfl, rfl, ?_⟩
        have eb := ea.trans sT
        have MB := MA.same sT
        show (tLock _ : TS) _ _ (upd Ha T (.tup [.int (i : Nat), .ref d]))
        generalize upd Ha T (.tup [.int (i : Nat), .ref d]) = Hb at eb MB ⊢
        have rd : ∀ r ∈ rs, r ≠ d := fun r hr z => by have := rn r hr; rw [z, hdH] at this; cases this
        have Dd : D ≠ d := fun z => by rw [z, hdH] at hD; cases hD
        refine ⟨d, _, eb _ _ hdH, trivial, fun od => ⟨_, rfl, d, od, _, rfl, upd_same, for_it walk_items (fun j σ H' => (∃ o4 o7, σ = [some (.ref M), some (.ref p), some (.int far), some (.ref D), o4, some (.int (i : Nat)), some (.ref d), o7, none]) ∧ (∀ b o, b ≠ d → H b = some o → H' b = some o) ∧ H' d = some (.frz od (.dK (mvK m))) ∧ ∃ W, MatAt H' D rs ms.length W ∧ EgOk ms ms.length (fun a => g (sgS a)) far (fun q a t => (q < i ∧ edgeM ms q a t) ∨ (q = i ∧ (sgS a, t) ∈ m.take j)) W) ⟨⟨_, _, rfl⟩, fun b o n q => by rw [upd_ne n]; exact eb _ _ q, upd_same, W, ?_, EA.mono fun _ _ _ _ _ q => .inl (by simpa using q)⟩ (fun j σ H' _ e => e.2.2.1) (fun j y σ Hc Hd hj e hy => ?_) (fun σ H3 e => ?_)⟩⟩
        · exact ⟨MB.l, by rw [upd_ne Dd]; exact MB.a, fun k r h => by rw [upd_ne (rd r (List.mem_of_getElem? h))]; exact MB.r k r h, MB.nd⟩
        · obtain ⟨T2, x1, y1, rfl, hT2, rfl, h1, h2⟩ := hy
          obtain ⟨⟨o4, o7, rfl⟩, ec, fc, W, MC, EC⟩ := e
          obtain ⟨kv, hkv, rfl⟩ := Option.map_eq_some_iff.mp h1
          replace h2 : (mvK m)[j]?.map Prod.snd = some y1 := h2
          rw [hkv] at h2
          cases h2
          unfold mvK at hkv
          rw [List.getElem?_map] at hkv
          obtain ⟨⟨z, t⟩, hq, rfl⟩ := Option.map_eq_some_iff.mp hkv
          obtain ⟨zy, tn⟩ := hO.sg m mm _ (List.mem_of_getElem? hq)
          have zc : sgS (codeOf z) = z := nS_code (sg z zy)
          have sT := same_new (o := .tup [.str z, .int (t : Int)]) hT2
          have tk : ∀ q, q ∈ m.take (j + 1) ↔ q ∈ m.take j ∨ q = (z, t) := fun q => by rw [List.take_add_one, hq]; simp
          refine ⟨T2, _, rfl, .inl (.inl upd_same), rfl, _, _, rfl, _, _, rfl, rfl, ?_⟩
          show (tIfS _ _ _ : TS) _ _ (upd Hc T2 (.tup [.str z, .int (t : Int)]))
          have ed : ∀ b o, b ≠ d → H b = some o → upd Hc T2 (.tup [.str z, .int (t : Int)]) b = some o := fun b o n q => sT _ _ (ec b o n q)
          have fd' := sT _ _ fc
          have MD := MC.same sT
          generalize upd Hc T2 (.tup [.str z, .int (t : Int)]) = He at ed fd' MD ⊢
          refine ⟨_, rfl, _, rfl, rfl, _, rfl, ?_⟩
          by_cases e : i = t
          · subst e
            rw [show (!decide (V.int ((i : Nat) : Int) = V.int ((i : Nat) : Int))) = false by simp]
            refine iteF ⟨⟨_, _, rfl⟩, ed, fd', W, MD, EC.mono fun q a s hq hs k => ?_⟩
            rcases k with k | ⟨rfl, k⟩
            · exact .inl (.inl k)
            · rcases (tk _).mp k with k | k
              · exact .inl (.inr ⟨rfl, k⟩)
              · refine .inr ⟨(congrArg Prod.snd k).symm, g0 _ ?_⟩
                rw [show sgS a = z from congrArg Prod.fst k]
                exact zy
          · rw [show (!decide (V.int ((i : Nat) : Int) = V.int ((t : Nat) : Int))) = true by
              have : ¬ ((i : Nat) : Int) = ((t : Nat) : Int) := fun q => e (by omega)
              simp [this]]
            obtain ⟨r, g1, g2, g3, g4⟩ := MD.at_ (K := K) il
            have rr : r ∈ rs := List.mem_of_getElem? g1
            have rdp : Rd He p (.dK (dkF ys g)) := by
              by_cases z : p = d
              · subst z
                rw [hp] at hdH
                rw [Option.some.inj hdH]
                exact .inr ⟨od, fd'⟩
              · exact .inl (ed _ _ z hp)
            refine iteT ⟨_, rfl, _, rfl, D, _, _, _, rfl, rfl, g2, g3, _, rfl, r, _, _, _, rfl, rfl, g4, rowI_at tn, _, rfl, _, rfl, p, .int (g z), rfl, .inl ⟨_, .inr z, rdp, rfl, (dkF_val nd g zy).symm⟩, _, _, rfl, _, rfl, _, rfl, D, _, _, _, rfl, rfl, g2, g3, _, rfl, r, _, _, t, rfl, rfl, MD.r i r g1, by rw [rowI_len]; exact ixN_lt tn, ?_⟩
            have hv : (if g z < W i t then g z else W i t) = min (W i t) (g (sgS (codeOf z))) := by
              rw [zc]
              split <;> omega
            rw [hv]
            refine ⟨⟨_, _, rfl⟩, fun b o n q => ?_, ?_, _, MD.put nD g1, EC.put il tn e ⟨m, hm, by rw [zc]; exact List.mem_of_getElem? hq⟩ (g0 _ (by rw [zc]; exact zy)) fun q b s k => ?_⟩
            · rw [upd_ne (ne_of_none q (rn r rr))]; exact ed b o n q
            · rw [upd_ne (rd r rr).symm]; exact fd'
            · rcases k with k | ⟨rfl, k⟩
              · exact .inl (.inl k)
              · rcases (tk _).mp k with k | k
                · exact .inl (.inr ⟨rfl, k⟩)
                · refine .inr ⟨rfl, ?_, congrArg Prod.snd k⟩
                  have : sgS b = z := congrArg Prod.fst k
                  rw [← this]; rfl
        · obtain ⟨⟨o4, o7, rfl⟩, ec, fc, W, MC, EC⟩ := e
          refine ⟨fc, ⟨_, _, _, _, rfl⟩, fun b o q => ?_, W, ⟨MC.l, by rw [upd_ne Dd]; exact MC.a, fun k r h => by rw [upd_ne (rd r (List.mem_of_getElem? h))]; exact MC.r k r h, MC.nd⟩, EC.mono fun q a s hq hs k => .inl ?_⟩
          · by_cases z : b = d
            · rw [z, upd_same]; rw [z, hdH] at q; exact q
            · rw [upd_ne z]; exact ec b o z q
          · obtain ⟨k1, k2⟩ := k
            rcases Nat.lt_or_ge q i with h | h
            · exact .inl ⟨h, k2⟩
            · obtain rfl : q = i := by omega
              obtain ⟨m', h1, h2⟩ := k2
              rw [hm] at h1
              cases h1
              refine .inr ⟨rfl, ?_⟩
              rw [show (mvK m).length = m.length by simp [mvK], List.take_length]
              exact h2
      · obtain ⟨⟨o4, o5, o6, o7, rfl⟩, e2, W, M2, E2⟩ := e
        rw [ln] at E2
        have F2 : FwOk (edgeM ms) ms.length (fun a => g (sgS a)) far (fun q => q < 0) W := (E2.mono (dn' := edgeM ms) fun q a t hq _ k => .inl ⟨hq, k⟩).ways.mono fun q k => absurd k (Nat.not_lt_zero _)
        refine ⟨_, rfl, M, _, rfl, .inl (Same.seq e2 hM.1), _, rfl, by omega, by omega, ?_⟩
        rw [ln]
        refine for_it (n := ms.length) (walk_range (lo := 0)) (fun i σ H' => (∃ q o8, σ = [some (.ref M), some (.ref p), some (.int far), some (.ref q), o4, o5, o6, o7, o8] ∧ ∃ rs W, MatAt H' q rs ms.length W ∧ FwOk (edgeM ms) ms.length (fun a => g (sgS a)) far (fun k => k < i) W) ∧ Same H H') ⟨⟨_, _, rfl, _, _, M2, F2⟩, e2⟩ (fun _ _ _ _ _ => trivial) (fun i y σ Ha Hb hi e hy => ?_) (fun σ H3 e => ?_)
        · obtain ⟨rfl, rfl⟩ := hy
          obtain ⟨⟨q, o8, rfl, rs, W, MA, FA⟩, ea⟩ := e
          refine ⟨_, rfl, _, rfl, q, rs, ms.length, W, i, (by show [V.ref q, V.int (0 + (i : Int))] = _; rw [Int.zero_add]), MA, hi, by omega, fun q' rs' H' _ e' M' => ⟨⟨q', _, rfl, rs', _, M', (FA.phase hi).mono fun k hk => ?_⟩, ea.trans e'⟩⟩
          show k < i ∨ k = i
          omega
        · obtain ⟨⟨q, o8, rfl, rs, W, MA, FA⟩, ea⟩ := e
          exact ⟨_, rfl, hQ q rs W H3 ea MA FA⟩
end
end MN
/-! require_priced, require_target -/
namespace MN
open PySem PySem.Spec PyProof.Rows L2
theorem signs_w (u : List Nat) : signsOf (wS u) = (u.map sgS).map V.str := by
  unfold signsOf
  rw [wS_cps, List.map_map]; rfl
section
variable {P : Program} {w : World} {K : PySem.W.Frag} {mg : Str → Option Value} {base : Heap} {Cp Cc C p0 p1 : Addr} {i0 i1 : Nat}
def spPriced2 (K : PySem.W.Frag) (Cp : Addr) : Sp := fun vs H Q _ => ∃ (x dx : Addr) (ys ys2 : List Str) (g o : Str → Int) (qs : List ((Str × Str) × Int)) (l : Addr) (zs : List Str), vs = [.ref x, .ref l] ∧ PrAt Cp H x dx ys ys2 g o qs ∧ PrN ys ys2 g o qs ∧ SqL K H l (zs.map V.str) ∧ zs.length ≤ 5000 ∧ (∀ z ∈ zs, z ∈ ys) ∧ ∀ H', Same H H' → Q .non H'
abbrev N_require_priced : List Str := ["prices", "signs", "sign"]
theorem sc_require_priced : FnScope N_require_priced ["prices", "signs"] (defScope (top 66)) := ⟨rfl, rfl, rfl, by decide +kernel, rfl, by decide +kernel, by decide +kernel⟩
theorem c_require_priced (A : At K mg "require_priced" (top 66)) (B : Blt mg) (PC : PrC K mg Cp Cc) (c_is_sign : Cal P w K mg base 1 "is_sign" (spIsSign K)) : Cal P w K mg base 3 "require_priced" (spPriced2 K Cp) := by
  obtain ⟨gh, h1, h2, h3⟩ := r_has (P := P) (w := w) (base := base) PC c_is_sign
  refine cal_of A sc_require_priced (fun _ _ _ _ _ _ us hl => match us, hl with | [_, _], _ => rfl) (fun vs H Q E h => ?_) (fun _ cdv A outer s H vs Q E hr h => ?_)
  · obtain ⟨_, _, _, _, _, _, _, _, _, rfl, _⟩ := h; rfl
  · obtain ⟨x, dx, ys, ys2, g, o, qs, l, zs, rfl, hP, N, hl, l5, hz, hQ⟩ := h
    refine ⟨_, (pss_one (ps_if (pt_not (pt_val (pe_callB (cr_all rfl) (by rfl) B.all (by decide +kernel) (pa_cons (pe_lc (own := [("sign", 2)]) (g := gName 2) (tt := tYes) (by rfl) sc_require_priced.nd (pi_list (pv 1)) (blkOk_by (own := [("sign", 2)]) (N := N_require_priced) (sc := defScope (top 66)) (by decide +kernel)) (fun _ _ _ _ _ => (pg_name (i := 2) sc_require_priced.nd rfl (Or.inl rfl))) (fun _ _ _ _ _ => pts_nil) (fun _ _ _ _ _ => (pe_cmpR (op_inOwn h1 h2 h3 hr pass0) (pv 2) (pv 0) (by rfl)))) pa_nil))))
      (pss_one ps_never)
      pss_nil)), ?_⟩
    refine ⟨_, rfl, l, rfl, ⟨_, hl⟩, fun D hD => ?_⟩
    refine lc_lstE hl hD (by rw [List.length_map]; omega) (fun _ => true) (fun _ => .bl true) (fun _ _ => rfl) (fun _ _ H2 e2 Q q => q _ (Same.refl _)) (fun y hy _ H5 e5 Q q => ?_) (fun H5 e5 h5 => ?_)
    · obtain ⟨z, hz', rfl⟩ := List.mem_map.mp hy
      have hP5 := hP.same e5
      obtain ⟨PA, PB, PS, vs, hs, _⟩ := id hP5
      exact ⟨_, rfl, _, rfl, x, dx, vs, rfl, .inr hs, x, dx, ys, ys2, g, o, qs, z, rfl, hP5, N, hz z hz', true, rfl, q _ (Same.refl _)⟩
    have bs : (((zs.map V.str).filter fun _ => true).map fun _ => V.bl true) = (List.replicate zs.length true).map V.bl := by
      rw [filter_all, List.map_map, List.map_replicate]
      exact List.map_const' ..
    rw [bs] at h5
    refine ⟨D, _, rfl, .inl (.inl h5), _, rfl, ?_⟩
    rw [show (List.replicate zs.length true).all id = true by simp]
    exact iteF (hQ _ e5)
/-- the class Form: its signs -/
def FormS (K : PySem.W.Frag) (C : Addr) : Prop := ∃ p g fd, PropOf K C "signs" p g ∧ FunAt K "signs" "Form.signs" (inClass (top 51) 5) [] g fd
theorem r_fsigns (FC : FormC K C p0 p1 i0 i1) (FS : FormS K C) (B : Blt mg) : ∃ p g, PropOf K C "signs" p g ∧ FnR P w K mg base CX0 1 g (fun vs H Q E => spSignsF K C i0 i1 (vs ++ []) H Q E) := by
  obtain ⟨p, g, fd, h, F⟩ := FS
  have b := FunD.bindsN (ps := ["self"]) F fun _ _ _ _ _ _ us hl => match us, hl with | [_], _ => rfl
  exact ⟨p, g, h, (f_fsigns FC F B).raw b .nil⟩
def spReqTarget (K : PySem.W.Frag) (C : Addr) (i0 i1 : Nat) (Cp : Addr) : Sp := fun vs H Q _ => ∃ x dx M L ds ms ls px pdx ys ys2 g o qs u v, vs = [.ref x, .ref px, .str (wS u), .str (wS v)] ∧ FormM K C i0 i1 H x dx M L ds ms ls ∧ ms.length ≤ 6 ∧ MvsOk ys ms ∧ PrAt Cp H px pdx ys ys2 g o qs ∧ PrN ys ys2 g o qs ∧
  (∀ c ∈ u, c ∈ codesOf ys) ∧ (∀ c ∈ v, c ∈ codesOf ys) ∧ u.length ≤ 1000 ∧ v.length ≤ 1000 ∧ ∀ H', Same H H' → Q .non H'
abbrev N_require_target : List Str := ["target", "prices", "word", "sign"]
theorem sc_require_target : FnScope N_require_target ["target", "prices", "word", "sign"] (defScope (top 67)) := ⟨rfl, rfl, rfl, by decide +kernel, rfl, by decide +kernel, by decide +kernel⟩
theorem f_require_target {f : Addr} {fd : FuncData} {dvs : List V} (F : FunD K "require_target" "require_target" (defArgs (top 67)) (defBody (top 67)) (defScope (top 67)) dvs [] f fd) (FC : FormC K C p0 p1 i0 i1) (FS : FormS K C) (B : Blt mg) (c_require_priced : Cal P w K mg base 3 "require_priced" (spPriced2 K Cp)) (c_require_small : Cal P w K mg base 3 "require_small" (spReqForm K C i0 i1)) : FnOk P w K mg base CX0 4 f fd ["target", "prices", "word", "sign"] (spReqTarget K C i0 i1 Cp) := by
  obtain ⟨ps, gs, hs, Fs⟩ := r_fsigns (P := P) (w := w) (mg := mg) (base := base) FC FS B
  refine fnok_of F sc_require_target (fun vs H Q E h => ?_) (fun cdv A outer s H vs Q E hr h => ?_)
  · obtain ⟨_, _, _, _, _, _, _, _, _, _, _, _, _, _, _, _, rfl, _⟩ := h; rfl
  · obtain ⟨x, dx, M, L, ds, ms, ls, px, pdx, ys, ys2, g, o, qs, u, v, rfl, hF, h6, hO, hP, N, hu, hv, lu, lv, hQ⟩ := h
    refine ⟨_, (pss_cons (ps_expr (pe_c c_require_priced hr (by decide) (by rfl) (pa_cons (pv 1) (pa_cons (pe_lst (StX.pa_star (SlX.pe_propSl (E := E0) (pv 0) FC.sc hs.at_ hs.get hs.tak hs.rec_ Fs (hr.mono (by decide)) (fun _ _ _ _ h => h)) (pa_starS rfl (pv 2) (pa_starS rfl (pv 3) pa_nil)))) pa_nil))))
      (pss_one (ps_expr (pe_c c_require_small hr (by decide) (by rfl) (pa_cons (pv 0) pa_nil))))), ?_⟩
    have big : 100000 < sizeLine := by decide
    obtain ⟨ws, h1, h2, h3⟩ := hF.f.ex
    refine ⟨_, rfl, _, rfl, x, dx, ws, rfl, h1, x, dx, M, L, ds, ms, ls, rfl, hF, by omega, hO.five, fun q H1 ss e1 hq l40 hss => ?_⟩
    refine ⟨q, _, rfl, .inl (.inl (.inl hq)), _, rfl, wS u, rfl, by rw [wS_len]; omega, _, rfl, wS v, rfl, by rw [wS_len]; omega, ?_, fun l hl => ?_⟩
    · rw [signs_w, signs_w]
      simp only [List.length_append, List.length_map, List.length_nil]
      omega
    · rw [signs_w, signs_w]
      have ez : ss.map V.str ++ ((u.map sgS).map V.str ++ ((v.map sgS).map V.str ++ [])) = (ss ++ (u.map sgS ++ v.map sgS)).map V.str := by simp
      rw [ez]
      obtain ⟨s2, u2⟩ := laid (.lst ((ss ++ (u.map sgS ++ v.map sgS)).map V.str)) hl
      generalize upd H1 l (.lst ((ss ++ (u.map sgS ++ v.map sgS)).map V.str)) = H2 at s2 u2 ⊢
      refine ⟨px, pdx, ys, ys2, g, o, qs, l, _, rfl, (hP.same e1).same s2, N, SqL.of u2, by simp only [List.length_append, List.length_map]; omega, fun z hz => ?_, fun H3 e3 => ?_⟩
      · rcases List.mem_append.mp hz with hz | hz
        · obtain ⟨m, hm, r, hr', rfl⟩ := hss z hz
          exact (hO.sg m hm r hr').1
        · rcases List.mem_append.mp hz with hz | hz
          · obtain ⟨c, hc, rfl⟩ := List.mem_map.mp hz
            exact (mem_codes N.sg).mp (hu c hc)
          · obtain ⟨c, hc, rfl⟩ := List.mem_map.mp hz
            exact (mem_codes N.sg).mp (hv c hc)
      · have e := (e1.trans s2).trans e3
        exact ⟨_, rfl, x, dx, M, L, _, ls, rfl, hF.f.same e, h6, hQ H3 e⟩
/-- with no sign -/
theorem c_require_target1 {f : Addr} {fd : FuncData} (hm : mg "require_target" = some (.ref f)) (F : FunD K "require_target" "require_target" (defArgs (top 67)) (defBody (top 67)) (defScope (top 67)) [.str "", .str ""] [] f fd) (FC : FormC K C p0 p1 i0 i1) (FS : FormS K C) (B : Blt mg) (c_require_priced : Cal P w K mg base 3 "require_priced" (spPriced2 K Cp)) (c_require_small : Cal P w K mg base 3 "require_small" (spReqForm K C i0 i1)) : CalD P w K mg base 4 "require_target" [.str ""] (spReqTarget K C i0 i1 Cp) := by
  obtain ⟨ds, hv, b⟩ := FunD.binds1 (ps := ["target", "prices", "word", "sign"]) F 3 1 (by simp) rfl fun T kV doc pm an cdv ct us its h1 h2 => match us, its, h1, h2 with | [_, _, _], [_, _], _, _ => ⟨_, rfl, rfl⟩
  exact ⟨f, fd, _, ds, f_require_target F FC FS B c_require_priced c_require_small, hm, F.kp, hv, b⟩
end
end MN
/-! the class Steps: its maker -/
namespace MN
open PySem PySem.Spec PyProof.Rows L2
/-- lists, tuples, dicts -/
def plB : HO → Bool
  | .lst _ => true
  | .tup _ => true
  | .dK _ => true
  | .dT _ => true
  | .frz _ _ => true
  | _ => false
/-- an instance and its dict: no lists, no dicts -/
def Apart (H : Hp) (x dx : Addr) : Prop := (∃ o, H x = some o ∧ plB o = false) ∧ ∃ o, H dx = some o ∧ plB o = false
theorem apart_new {H : Hp} {x dx C : Addr} (h1 : H x = some (.ins C dx [])) (h2 : H dx = some (.own x)) : Apart H x dx := ⟨⟨_, h1, rfl⟩, _, h2, rfl⟩
theorem apart_sl {H : Hp} {x dx C : Addr} {ws : List (Option V)} (h : Sl2 H x C dx ws) : Apart H x dx := ⟨⟨_, h.1, by unfold SlX.SlO plB; rfl⟩, _, h.2, rfl⟩
theorem Apart.ne {H : Hp} {x dx b : Addr} {o : HO} (h : Apart H x dx) (hb : H b = some o) (ho : plB o = true) : b ≠ x ∧ b ≠ dx := by
  obtain ⟨⟨o1, a1, a2⟩, o2, b1, b2⟩ := h
  refine ⟨fun z => ?_, fun z => ?_⟩
  · rw [z, a1] at hb; cases hb; rw [ho] at a2; cases a2
  · rw [z, b1] at hb; cases hb; rw [ho] at b2; cases b2
theorem Apart.same {H H' : Hp} {x dx : Addr} (h : Apart H x dx) (e : Same H H') : Apart H' x dx := by
  obtain ⟨⟨o1, a1, a2⟩, o2, b1, b2⟩ := h
  exact ⟨⟨_, e _ _ a1, a2⟩, _, e _ _ b1, b2⟩
section
variable {K : PySem.W.Frag} {H H' : Hp} {x dx : Addr}
theorem kp_at {b : Addr} {o : HO} (k : Kp x dx H H') (a : Apart H x dx) (hb : H b = some o) (ho : plB o = true) : H' b = some o := k b o (a.ne hb ho).1 (a.ne hb ho).2 hb
theorem kp_L {t : Addr} {xs : List V} (k : Kp x dx H H') (a : Apart H x dx) (h : SqL K H t xs) : SqL K H' t xs := by
  rcases h with (h | ⟨o, h⟩) | h
  · exact .inl (.inl (kp_at k a h rfl))
  · exact .inl (.inr ⟨o, kp_at k a h rfl⟩)
  · exact .inr h
theorem kp_T {t : Addr} {xs : List V} (k : Kp x dx H H') (a : Apart H x dx) (h : SqT K H t xs) : SqT K H' t xs := by
  rcases h with (h | ⟨o, h⟩) | h
  · exact .inl (.inl (kp_at k a h rfl))
  · exact .inl (.inr ⟨o, kp_at k a h rfl⟩)
  · exact .inr h
theorem kp_mv {M : Addr} {ds : List Addr} {ms : List Mv} (k : Kp x dx H H') (a : Apart H x dx) (h : MovesAt K H M ds ms) : MovesAt K H' M ds ms := ⟨kp_L k a h.1, h.2.1, fun i d m h1 h2 => kp_at k a (h.2.2 i d m h1 h2) rfl⟩
theorem kp_mat {q : Addr} {rs : List Addr} {n : Nat} {W : Nat → Nat → Int} (k : Kp x dx H H') (a : Apart H x dx) (h : MatAt H q rs n W) : MatAt H' q rs n W := ⟨h.l, kp_at k a h.a rfl, fun p t e => kp_at k a (h.r p t e) rfl, h.nd⟩
theorem kp_sl {q dq C : Addr} {ws : List (Option V)} (k : Kp x dx H H') (h : Sl2 H q C dq ws) (n1 : q ≠ x) (n2 : q ≠ dx) (n3 : dq ≠ x) (n4 : dq ≠ dx) : Sl2 H' q C dq ws := ⟨k _ _ n1 n2 h.1, k _ _ n3 n4 h.2⟩
end
section
variable {P : Program} {w : World} {K : PySem.W.Frag} {mg : Str → Option Value} {base : Heap} {Cp Cc Cs C p0 p1 : Addr} {i0 i1 : Nat}
/-- the class Steps -/
structure StepC (K : PySem.W.Frag) (mg : Str → Option Value) (Cs : Addr) : Prop where
  sc : SlX.SCls K Cs
  s0 : ∃ p, SlX.Slot1 K Cs "own_closed" p 0
  s1 : ∃ p, SlX.Slot1 K Cs "own_lasts" p 1
  s2 : ∃ p, SlX.Slot1 K Cs "own_moves" p 2
  s3 : ∃ p, SlX.Slot1 K Cs "own_start" p 3
  s4 : ∃ p, SlX.Slot1 K Cs "own_ways" p 4
  gs : mg "Steps" = some (.ref Cs)
  ini : ∃ f fd, Mk K Cs f ∧ FunAt K "__init__" "Steps.__init__" (inClass (top 70) 1) [] f fd
  pos : ∃ g fd, Meth K Cs "price_of_swap" g ∧ FunAt K "price_of_swap" "Steps.price_of_swap" (inClass (top 70) 3) [] g fd
  fil : ∃ g fd, Meth K Cs "filled" g ∧ FunAt K "filled" "Steps.filled" (inClass (top 70) 4) [] g fd
  beh : ∃ g fd, Meth K Cs "behind" g ∧ FunAt K "behind" "Steps.behind" (inClass (top 70) 5) [] g fd
  row : ∃ g fd, Meth K Cs "row_of_word" g ∧ FunAt K "row_of_word" "Steps.row_of_word" (inClass (top 70) 7) [] g fd
/-- an instance of it -/
def StepsAt (K : PySem.W.Frag) (Cc Cs : Addr) (H : Hp) (q dq : Addr) (ys : List Str) (c : Nd → Nd → Int) (ms : List Mv) (ls : List Bool) (W : Nat → Nat → Int) : Prop :=
  ∃ ws cl dcl L M ds St Wd rs, Sl2 H q Cs dq ws ∧ ws[0]? = some (some (.ref cl)) ∧ ws[1]? = some (some (.ref L)) ∧ ws[2]? = some (some (.ref M)) ∧ ws[3]? = some (some (.ref St)) ∧ ws[4]? = some (some (.ref Wd)) ∧
    ClAt Cc H cl dcl ys c ∧ SqL K H L (ls.map V.bl) ∧ MovesAt K H M ds ms ∧ SqT K H St (rowI ms.length (W 0)) ∧ MatAt H Wd rs ms.length W
theorem StepsAt.same {H H' : Hp} {q dq : Addr} {ys : List Str} {c : Nd → Nd → Int} {ms : List Mv} {ls : List Bool} {W : Nat → Nat → Int} (h : StepsAt K Cc Cs H q dq ys c ms ls W) (e : Same H H') : StepsAt K Cc Cs H' q dq ys c ms ls W := by
  obtain ⟨ws, cl, dcl, L, M, ds, St, Wd, rs, h1, h2, h3, h4, h5, h6, h7, h8, h9, h10, h11⟩ := h
  exact ⟨ws, cl, dcl, L, M, ds, St, Wd, rs, ⟨e _ _ h1.1, e _ _ h1.2⟩, h2, h3, h4, h5, h6, h7.same e, Same.seq e h8, h9.same e, Same.seqT e h10, h11.same e⟩
abbrev FAR : Int := 10000 * 10000
def spSInit (K : PySem.W.Frag) (C : Addr) (i0 i1 : Nat) (Cp Cc Cs : Addr) : Sp := fun vs H Q _ => ∃ x dx fx fdx px pdx M L ds ms ls ys ys2 g o qs, vs = [.ref x, .ref fx, .ref px] ∧ H x = some (.ins Cs dx []) ∧ H dx = some (.own x) ∧ dx ≠ x ∧ FormM K C i0 i1 H fx fdx M L ds ms ls ∧ MvsOk ys ms ∧ 0 < ms.length ∧ PrAt Cp H px pdx ys ys2 g o qs ∧ PrN ys ys2 g o qs ∧
  ∀ H' c W, Kp x dx H H' → Clo (codesOf ys) (rOf (codesOf ys) g o qs) c → WaysOk (edgeM ms) ms.length (fun a => c none (some a)) FAR W → StepsAt K Cc Cs H' x dx ys c ms ls W → Q .non H'
abbrev N_sinit : List Str := ["self", "target", "prices"]
theorem sc_sinit : FnScope N_sinit ["self", "target", "prices"] (defScope (inClass (top 70) 1)) := ⟨rfl, rfl, rfl, by decide +kernel, rfl, by decide +kernel, by decide +kernel⟩
theorem f_sinit {f : Addr} {fd : FuncData} (SC : StepC K mg Cs) (FC : FormC K C p0 p1 i0 i1) (PC : PrC K mg Cp Cc) (F : FunAt K "__init__" "Steps.__init__" (inClass (top 70) 1) [] f fd) (B : Blt mg) (GB : GlC mg "BEYOND" (.int 10000)) (c_closed_of : Cal P w K mg base 3 "closed_of" (spClosedOf Cp Cc)) (c_put_ways : Cal P w K mg base 2 "put_ways" (spPutWays K)) : FnOk P w K mg base CX0 4 f fd ["self", "target", "prices"] (spSInit K C i0 i1 Cp Cc Cs) := by
  refine fnok_of F sc_sinit (fun vs H Q E h => ?_) (fun cdv A outer s H vs Q E hr h => ?_)
  · obtain ⟨_, _, _, _, _, _, _, _, _, _, _, _, _, _, _, _, rfl, _⟩ := h; rfl
  · obtain ⟨x, dx, fx, fdx, px, pdx, M, L, ds, ms, ls, ys, ys2, g, o, qs, rfl, hx, hdx, dxx, hF, hO, n0, hP, N, hQ⟩ := h
    obtain ⟨q0, s0⟩ := SC.s0
    obtain ⟨q1, s1⟩ := SC.s1
    obtain ⟨q2, s2⟩ := SC.s2
    obtain ⟨q3, s3⟩ := SC.s3
    obtain ⟨q4, s4⟩ := SC.s4
    obtain ⟨c1, t1⟩ := PC.sc.s1
    refine ⟨_, pss_cons (SlX.ps_sl (pv 0) (SlX.pe_sl (pv 1)))
      (pss_cons (SlX.ps_sl (pv 0) (SlX.pe_sl (pv 1)))
      (pss_cons (SlX.ps_sl (pv 0) (pe_c c_closed_of hr (by decide) (by rfl) (pa_cons (pv 2) pa_nil)))
      (pss_cons (SlX.ps_sl (pv 0) (pe_c c_put_ways hr (by decide) (by rfl) (pa_cons (SlX.pe_sl (pv 0)) (pa_cons (SlX.pe_sl (SlX.pe_sl (pv 0))) (pa_cons (pe_op op_mul (pe_gl (by rfl) GB) (pe_gl (by rfl) GB)) pa_nil)))))
      (pss_one (SlX.ps_sl (pv 0) (pe_callTy call_tuple_of (by rfl) B.tuple (by decide +kernel) (pa_cons (pe_ix ix_list (SlX.pe_sl (pv 0)) pe_int (fun _ _ => rfl)) pa_nil))))))), ?_⟩
    have ap := apart_new hx hdx
    obtain ⟨fws, fs, f0, f1⟩ := hF.f.ex
    have fs2 : Sl2 H fx C fdx fws := by
      rcases fs with ⟨_, z⟩ | fs
      · rw [z] at f0; simp at f0
      · exact fs
    obtain ⟨PA, PB, PS, pws, ps, w1, w0, w2, nAB, hA, hB, hS⟩ := id hP
    have sn : ∀ {q dq C' : Addr} {ws : List (Option V)}, Sl2 H q C' dq ws → q ≠ x ∧ q ≠ dx ∧ dq ≠ x ∧ dq ≠ dx := fun {q dq C' ws} h => by
      refine ⟨fun z => ?_, fun z => ?_, fun z => ?_, fun z => ?_⟩
      · have := h.1; rw [z, hx] at this; injection this with this; unfold SlX.SlO at this; cases this
      · have := h.1; rw [z, hdx] at this; injection this with this; unfold SlX.SlO at this; cases this
      · have := h.2; rw [z, hx] at this; cases this
      · have := h.2; rw [z, hdx] at this; cases this
    -- moves
    refine ⟨_, rfl, fx, C, fdx, p0, fws, i0, _, rfl, fs, FC.sc, FC.s0, f0, _, rfl, x, Cs, dx, q2, [], 2, rfl, .inl ⟨hx, rfl⟩, SC.sc, s2, ?_⟩
    have k1 : Kp x dx H (SlX.slH H x Cs dx (SlX.putS 2 (.ref M) [])) := Kp.sl fun b o _ _ q => q
    have z1 : Sl2 (SlX.slH H x Cs dx (SlX.putS 2 (.ref M) [])) x Cs dx (SlX.putS 2 (.ref M) []) := slH_sl2 dxx
    have v1 : (SlX.putS 2 (.ref M) [])[2]? = some (some (.ref M)) := SlX.putS_get _ _ _
    generalize SlX.putS 2 (.ref M) [] = u1 at *
    generalize SlX.slH H x Cs dx u1 = H1 at *
    -- lasts
    obtain ⟨a1, a2, a3, a4⟩ := sn fs2
    refine ⟨_, rfl, fx, C, fdx, p1, fws, i1, _, rfl, .inr (kp_sl k1 fs2 a1 a2 a3 a4), FC.sc, FC.s1, f1, _, rfl, x, Cs, dx, q1, u1, 1, rfl, .inr z1, SC.sc, s1, ?_⟩
    have k2 : Kp x dx H (SlX.slH H1 x Cs dx (SlX.putS 1 (.ref L) u1)) := k1.sl
    have z2 : Sl2 (SlX.slH H1 x Cs dx (SlX.putS 1 (.ref L) u1)) x Cs dx (SlX.putS 1 (.ref L) u1) := slH_sl2 dxx
    have v21 : (SlX.putS 1 (.ref L) u1)[1]? = some (some (.ref L)) := SlX.putS_get _ _ _
    have v22 : (SlX.putS 1 (.ref L) u1)[2]? = some (some (.ref M)) := (SlX.putS_ne (by decide)).mpr v1
    generalize SlX.putS 1 (.ref L) u1 = u2 at *
    generalize SlX.slH H1 x Cs dx u2 = H2 at *
    clear z1 k1 v1 u1 H1
    -- closed
    obtain ⟨b1, b2, b3, b4⟩ := sn ps
    have hP2 : PrAt Cp H2 px pdx ys ys2 g o qs := ⟨PA, PB, PS, pws, kp_sl k2 ps b1 b2 b3 b4, w1, w0, w2, nAB, kp_at k2 ap hA rfl, kp_at k2 ap hB rfl, kp_at k2 ap hS rfl⟩
    refine ⟨_, rfl, px, pdx, ys, ys2, g, o, qs, rfl, hP2, N, fun cl dcl c H3 e3 ncl ndcl CL hC => ?_⟩
    have z3 : Sl2 H3 x Cs dx u2 := ⟨e3 _ _ z2.1, e3 _ _ z2.2⟩
    refine ⟨_, rfl, x, Cs, dx, q0, u2, 0, rfl, .inr z3, SC.sc, s0, ?_⟩
    have k34 : Kp x dx H3 (SlX.slH H3 x Cs dx (SlX.putS 0 (.ref cl) u2)) := Kp.sl fun b o _ _ q => q
    have k4 : Kp x dx H (SlX.slH H3 x Cs dx (SlX.putS 0 (.ref cl) u2)) := (k2.same e3).sl
    have z4 : Sl2 (SlX.slH H3 x Cs dx (SlX.putS 0 (.ref cl) u2)) x Cs dx (SlX.putS 0 (.ref cl) u2) := slH_sl2 dxx
    have v40 : (SlX.putS 0 (.ref cl) u2)[0]? = some (some (.ref cl)) := SlX.putS_get _ _ _
    have v41 : (SlX.putS 0 (.ref cl) u2)[1]? = some (some (.ref L)) := (SlX.putS_ne (by decide)).mpr v21
    have v42 : (SlX.putS 0 (.ref cl) u2)[2]? = some (some (.ref M)) := (SlX.putS_ne (by decide)).mpr v22
    obtain ⟨qs1, AP, CA, CB, CS, cws, cs, cw1, cw0, cw2, cAB, chA, chB, chS⟩ := hC
    have ap3 := apart_sl z3
    have nclx : cl ≠ x := fun z => by rw [z, z2.1] at ncl; cases ncl
    have ncld : cl ≠ dx := fun z => by rw [z, z2.2] at ncl; cases ncl
    have ndx : dcl ≠ x := fun z => by rw [z, z2.1] at ndcl; cases ndcl
    have ndd : dcl ≠ dx := fun z => by rw [z, z2.2] at ndcl; cases ndcl
    have hC4 : PrAt Cc (SlX.slH H3 x Cs dx (SlX.putS 0 (.ref cl) u2)) cl dcl ys ys (gC c) (oC c) qs1 := ⟨CA, CB, CS, cws, kp_sl k34 cs nclx ncld ndx ndd, cw1, cw0, cw2, cAB, kp_at k34 ap3 chA rfl, kp_at k34 ap3 chB rfl, kp_at k34 ap3 chS rfl⟩
    clear cs chA chB chS cw1 cw0 cw2 cAB k34 ap3 z3 z2 v21 v22
    generalize SlX.putS 0 (.ref cl) u2 = u4 at *
    generalize SlX.slH H3 x Cs dx u4 = H4 at *
    clear k2 hP2 ncl ndcl
    obtain ⟨CA, CB, CS, cws, cs, cw1, cw0, cw2, cAB, chA, chB, chS⟩ := id hC4
    have sgc := N.sg
    -- ways
    have gp : ∀ z ∈ ys, 0 ≤ gC c z := fun z hz => by
      have := CL.pos none (some (codeOf z)) InL.no (InL.of (code_mem sgc hz)) (fun e => nomatch e)
      show 0 ≤ c none (some (codeOf z))
      omega
    refine ⟨_, rfl, x, Cs, dx, q2, u4, 2, _, rfl, .inr z4, SC.sc, s2, v42, _, rfl, x, Cs, dx, q0, u4, 0, _, rfl, .inr z4, SC.sc, s0, v40, cl, Cc, dcl, c1, cws, 1, _, rfl, .inr cs, PC.sc.sc, t1, cw1, _, _, rfl, rfl, .inl ⟨by decide, by decide⟩, ?_⟩
    refine ⟨M, CA, _, ds, ms, ys, gC c, rfl, kp_mv k4 ap hF.m, hO, chA, N.nd, sgc, gp, by decide, fun Wd rs W H5 e5 MW WW => ?_⟩
    have z5 : Sl2 H5 x Cs dx u4 := ⟨e5 _ _ z4.1, e5 _ _ z4.2⟩
    refine ⟨_, rfl, x, Cs, dx, q4, u4, 4, rfl, .inr z5, SC.sc, s4, ?_⟩
    have ap5 := apart_sl z5
    have k56 : Kp x dx H5 (SlX.slH H5 x Cs dx (SlX.putS 4 (.ref Wd) u4)) := Kp.sl fun b o _ _ q => q
    have k6 : Kp x dx H (SlX.slH H5 x Cs dx (SlX.putS 4 (.ref Wd) u4)) := (k4.same e5).sl
    have z6 : Sl2 (SlX.slH H5 x Cs dx (SlX.putS 4 (.ref Wd) u4)) x Cs dx (SlX.putS 4 (.ref Wd) u4) := slH_sl2 dxx
    have v64 : (SlX.putS 4 (.ref Wd) u4)[4]? = some (some (.ref Wd)) := SlX.putS_get _ _ _
    have v60 : (SlX.putS 4 (.ref Wd) u4)[0]? = some (some (.ref cl)) := (SlX.putS_ne (by decide)).mpr v40
    have v61 : (SlX.putS 4 (.ref Wd) u4)[1]? = some (some (.ref L)) := (SlX.putS_ne (by decide)).mpr v41
    have v62 : (SlX.putS 4 (.ref Wd) u4)[2]? = some (some (.ref M)) := (SlX.putS_ne (by decide)).mpr v42
    have M6 := kp_mat k56 ap5 MW
    have hC6 : PrAt Cc (SlX.slH H5 x Cs dx (SlX.putS 4 (.ref Wd) u4)) cl dcl ys ys (gC c) (oC c) qs1 := by
      have h5 := hC4.same e5
      obtain ⟨CA, CB, CS, cws, cs, cw1, cw0, cw2, cAB, chA, chB, chS⟩ := h5
      exact ⟨CA, CB, CS, cws, kp_sl k56 cs nclx ncld ndx ndd, cw1, cw0, cw2, cAB, kp_at k56 ap5 chA rfl, kp_at k56 ap5 chB rfl, kp_at k56 ap5 chS rfl⟩
    clear cs chA chB chS cw1 cw0 cw2 cAB
    generalize SlX.putS 4 (.ref Wd) u4 = u6 at *
    generalize SlX.slH H5 x Cs dx u6 = H6 at *
    clear k56 z5 ap5 MW z4 k4 hC4
    -- start
    obtain ⟨r0, g1, g2, g3, g4⟩ := M6.at_ (K := K) n0
    refine ⟨_, rfl, x, Cs, dx, q4, u6, 4, _, rfl, .inr z6, SC.sc, s4, v64, Wd, _, 0, _, rfl, rfl, g2, g3, r0, _, rfl, .inl ⟨g4, fun St hSt => ?_⟩⟩
    obtain ⟨s7, w7⟩ := laid (.tup (rowI ms.length (W 0))) hSt
    generalize upd H6 St (.tup (rowI ms.length (W 0))) = H7 at s7 w7 ⊢
    have z7 : Sl2 H7 x Cs dx u6 := ⟨s7 _ _ z6.1, s7 _ _ z6.2⟩
    have ap7 := apart_sl z7
    refine ⟨_, rfl, x, Cs, dx, q3, u6, 3, rfl, .inr z7, SC.sc, s3, ?_⟩
    have k78 : Kp x dx H7 (SlX.slH H7 x Cs dx (SlX.putS 3 (.ref St) u6)) := Kp.sl fun b o _ _ q => q
    have k8 : Kp x dx H (SlX.slH H7 x Cs dx (SlX.putS 3 (.ref St) u6)) := (k6.same s7).sl
    have h7 := hC6.same s7
    obtain ⟨CA, CB, CS, cws, cs, cw1, cw0, cw2, cAB, chA, chB, chS⟩ := h7
    refine hQ _ c W k8 CL WW ⟨_, cl, dcl, L, M, ds, St, Wd, rs, slH_sl2 dxx, (SlX.putS_ne (by decide)).mpr v60, (SlX.putS_ne (by decide)).mpr v61, (SlX.putS_ne (by decide)).mpr v62, SlX.putS_get _ _ _, (SlX.putS_ne (by decide)).mpr v64, ⟨qs1, AP, CA, CB, CS, cws, kp_sl k78 cs nclx ncld ndx ndd, cw1, cw0, cw2, cAB, kp_at k78 ap7 chA rfl, kp_at k78 ap7 chB rfl, kp_at k78 ap7 chS rfl⟩, kp_L k8 ap hF.f.la, kp_mv k8 ap hF.m, .inl (.inl (kp_at k78 ap7 w7 rfl)), kp_mat k78 ap7 (M6.same s7)⟩
end
end MN
/-! the methods of Steps: price_of_swap, filled -/
namespace MN
open PySem PySem.Spec PyProof.Rows L2
theorem minK {X : Cx} {K : PySem.W.Frag} (hK : X.K = K) (hc : X.calm = true) : CallR X (.builtin "min") (rMin K) := hK ▸ cr_min hc
theorem piEnumK {X : Cx} {K : PySem.W.Frag} (hK : X.K = K) {e : Expr} {ta : TA} {p pos tpos : Pos} {elts : List Expr} {kk : Nat} (hg : Gl X "enumerate") (hm : X.mg "enumerate" = none) (ha : PA X [e] ta) (hs : starEach [e] X.env = [(false, eval e X.env)] := by rfl) :
    PI X (.Tuple elts kk tpos) (.Call (.Name "enumerate" p) [e] [] pos) (iEnum K ta) := hK ▸ pi_enum hg hm ha hs
theorem rowI_succ {n : Nat} {f : Nat → Int} : rowI (n + 1) f = rowI n f ++ [.int (f n)] := by
  unfold rowI
  rw [List.range_succ, List.map_append]; rfl
theorem rowI_ints {n : Nat} {f : Nat → Int} : rowI n f = ((List.range n).map f).map V.int := by
  unfold rowI
  rw [List.map_map]; rfl
/-- the least of some numbers by places -/
structure MinAt (n : Nat) (g : Nat → Int) (m : Int) : Prop where
  in_ : ∃ p, p < n ∧ m = g p
  le : ∀ p, p < n → m ≤ g p
theorem MinAt.uniq {n : Nat} {g : Nat → Int} {m m' : Int} (h : MinAt n g m) (h' : MinAt n g m') : m = m' := by
  obtain ⟨p, hp, e⟩ := h.in_
  obtain ⟨p', hp', e'⟩ := h'.in_
  have := h.le p' hp'
  have := h'.le p hp
  omega
def minR (g : Nat → Int) : Nat → Int
  | 0 => g 0
  | n + 1 => min (minR g n) (g (n + 1))
theorem minR_at (g : Nat → Int) : ∀ n, MinAt (n + 1) g (minR g n)
  | 0 => ⟨⟨0, Nat.zero_lt_succ _, rfl⟩, fun p hp => by
    have e : p = 0 := by omega
    rw [e]
    exact Int.le_refl _⟩
  | n + 1 => by
    have ih := minR_at g n
    unfold minR
    refine ⟨?_, fun p hp => ?_⟩
    · by_cases c : minR g n ≤ g (n + 1)
      · rw [Int.min_eq_left c]
        obtain ⟨p, hp, e⟩ := ih.in_
        exact ⟨p, by omega, e⟩
      · rw [Int.min_eq_right (by omega)]
        exact ⟨n + 1, by omega, rfl⟩
    · by_cases e : p = n + 1
      · subst e; omega
      · have := ih.le p (by omega); omega
theorem minR_of {g : Nat → Int} {n : Nat} (h : 0 < n) : MinAt n g (minR g (n - 1)) := by
  have := minR_at g (n - 1)
  rwa [show n - 1 + 1 = n by omega] at this
theorem lc_enumI {K : PySem.W.Frag} {a D : Addr} {H1 : Hp} {σ : L2.St} {vs : List Nat} {te : TE} {j1 j2 : Nat} {Qd : Hp → Prop} (xs : List V) (hs : SqL K H1 a xs) (hz : xs.length ≤ 1000) (hD : H1 D = none) (f : Nat → Int)
    (hw : ∀ (i : Nat) x, wipe (((wipe σ vs).set j1 (some (.int (i : Int)))).set j2 (some x)) vs = wipe σ vs)
    (he : ∀ (i : Nat) x, xs[i]? = some x → ∀ H2, Same H1 H2 → ∀ Q : VK, (∀ H3, Same H2 H3 → Q (.int (f i)) H3) → te (((wipe σ vs).set j1 (some (.int (i : Int)))).set j2 (some x)) H2 Q)
    (hd : ∀ H', Same H1 H' → H' D = some (.lst (rowI xs.length f)) → Qd H') : LcGoal (Ite K a) (gTup K 2 (gCons (gName j1) (gCons (gName j2) gNil))) tYes te vs σ H1 D Qd := by
  refine lc_it (walk_enum (xs := xs)) (fun i H' => Same H1 H' ∧ H' D = some (.lst (rowI i f))) ⟨same_new hD, by rw [upd_same]; rfl⟩ (fun i H' _ e => Same.seq e.1 hs) (fun i x H H' hi e y => ?_) (fun H' e => hd H' e.1 e.2)
  obtain ⟨T, x1, y1, rfl, hT, rfl, h1, h2⟩ := y
  cases h1
  obtain ⟨e1, e2⟩ := e
  have sT := same_new (o := .tup [.int (i : Nat), y1]) hT
  have s1 := e1.trans sT
  refine ⟨T, _, rfl, .inl (.inl upd_same), rfl, _, _, rfl, _, _, rfl, rfl, hw i y1, yes_q (iteT ?_)⟩
  refine he i y1 h2 _ s1 _ fun H3 s3 => ⟨_, s3 _ _ (sT _ _ e2), ?_, fun b o q => ?_, ?_⟩
  · have : 1000000 < sizeLine := by decide
    rw [rowI_len]
    omega
  · rw [upd_ne (ne_of_none q hD)]
    exact s3 _ _ (s1 _ _ q)
  · rw [upd_same, rowI_succ]
section
variable {P : Program} {w : World} {K : PySem.W.Frag} {mg : Str → Option Value} {base : Heap} {Cp Cc Cs C p0 p1 : Addr} {i0 i1 : Nat}
/-- what price_of_swap reads -/
def SwapAt (Cc Cs : Addr) (H : Hp) (q dq : Addr) (ys : List Str) (c : Nd → Nd → Int) : Prop := ∃ ws cl dcl cws CS qs, Sl2 H q Cs dq ws ∧ ws[0]? = some (some (.ref cl)) ∧ Sl2 H cl Cc dcl cws ∧ cws[2]? = some (some (.ref CS)) ∧ H CS = some (.dT (dtF qs)) ∧ AllP ys (sC c) qs
theorem StepsAt.swap {H : Hp} {q dq : Addr} {ys : List Str} {c : Nd → Nd → Int} {ms : List Mv} {ls : List Bool} {W : Nat → Nat → Int} (h : StepsAt K Cc Cs H q dq ys c ms ls W) : SwapAt Cc Cs H q dq ys c := by
  obtain ⟨ws, cl, dcl, L, M, ds, St, Wd, rs, h1, h2, h3, h4, h5, h6, ⟨qs, AP, CA, CB, CS, cws, cs, cw1, cw0, cw2, cAB, chA, chB, chS⟩, _⟩ := h
  exact ⟨ws, cl, dcl, cws, CS, qs, h1, h2, cs, cw2, chS, AP⟩
/-- a dict locked besides -/
theorem SwapAt.off {H H' : Hp} {q dq d : Addr} {ys : List Str} {c : Nd → Nd → Int} {kvs : List (Key × V)} (h : SwapAt Cc Cs H q dq ys c) (hd : H d = some (.dK kvs)) (e : ∀ b o, b ≠ d → H b = some o → H' b = some o) : SwapAt Cc Cs H' q dq ys c := by
  obtain ⟨ws, cl, dcl, cws, CS, qs, h1, h2, h3, h4, h5, h6⟩ := h
  have n1 : ∀ {a C dx : Addr} {vs : List (Option V)}, Sl2 H a C dx vs → Sl2 H' a C dx vs := fun {a C dx vs} s => by
    refine ⟨e _ _ (fun z => ?_) s.1, e _ _ (fun z => ?_) s.2⟩
    · have := s.1; rw [z, hd] at this; injection this with this; unfold SlX.SlO at this; cases this
    · have := s.2; rw [z, hd] at this; cases this
  exact ⟨ws, cl, dcl, cws, CS, qs, n1 h1, h2, n1 h3, h4, e _ _ (fun z => by rw [z, hd] at h5; cases h5) h5, h6⟩
def spSwap26 (Cc Cs : Addr) : Sp := fun vs H Q _ => ∃ q dq ys c a b, vs = [.ref q, .str (sgS a), .str (sgS b)] ∧ SwapAt Cc Cs H q dq ys c ∧ sgS a ∈ ys ∧ sgS b ∈ ys ∧ (∀ x, c x x = 0) ∧ ∀ H', Same H H' → Q (.int (c (some a) (some b))) H'
abbrev N_sswap : List Str := ["self", "sign", "other"]
theorem sc_sswap : FnScope N_sswap ["self", "sign", "other"] (defScope (inClass (top 70) 3)) := ⟨rfl, rfl, rfl, by decide +kernel, rfl, by decide +kernel, by decide +kernel⟩
theorem f_sswap {f : Addr} {fd : FuncData} (SC : StepC K mg Cs) (PC : PrC K mg Cp Cc) (F : FunAt K "price_of_swap" "Steps.price_of_swap" (inClass (top 70) 3) [] f fd) : FnOk P w K mg base CX0 1 f fd ["self", "sign", "other"] (spSwap26 Cc Cs) := by
  refine fnok_of F sc_sswap (fun vs H Q E h => ?_) (fun cdv A outer s H vs Q E hr h => ?_)
  · obtain ⟨_, _, _, _, _, _, rfl, _⟩ := h; rfl
  · obtain ⟨q, dq, ys, c, a, b, rfl, hS, ha, hb, cz, hQ⟩ := h
    obtain ⟨p0, s0⟩ := SC.s0
    obtain ⟨c2, t2⟩ := PC.sc.s2
    refine ⟨_, pss_one (ps_ret (pe_ifExp (pt_cmpR op_eq (pv 1) (pv 2) (nomark _)) pe_int (pe_dget (hu_of hr) (SlX.pe_sl (SlX.pe_sl (pv 0))) (pe_tup (pa_cons (pv 1) (pa_cons (pv 2) pa_nil))) (fun _ _ => rfl)))), ?_⟩
    obtain ⟨ws, cl, dcl, cws, CS, qs, h1, h2, h3, h4, h5, h6⟩ := hS
    refine ⟨_, rfl, _, rfl, rfl, _, rfl, ?_⟩
    by_cases n : a = b
    · subst n
      rw [decide_eq_true rfl]
      have := hQ H (Same.refl _)
      rw [cz] at this
      exact iteT this
    · have ne : sgS a ≠ sgS b := fun e => n (Option.some.inj (nS_inj (x := some a) (y := some b) e))
      rw [show decide (V.str (sgS a) = V.str (sgS b)) = false by simp [ne]]
      refine iteF ⟨_, rfl, q, Cs, dq, p0, ws, 0, _, rfl, .inr h1, SC.sc, s0, h2, cl, Cc, dcl, c2, cws, 2, _, rfl, .inr h3, PC.sc.sc, t2, h4, _, rfl, _, rfl, (show 2 ≤ sizeLine by decide), fun t ht => ?_⟩
      have f2 := same_new (o := .tup [.str (sgS a), .str (sgS b)]) ht
      exact ⟨CS, .int (c (some a) (some b)), rfl, .inr ⟨_, [.inr (sgS a), .inr (sgS b)], t, .inl (f2 _ _ h5), rfl, upd_same, (dtF_val h6.nd ((h6.iff _).mpr ⟨ha, hb, ne, rfl⟩)).symm⟩, hQ _ f2⟩
/-! ### filled -/
def spFilled26 (K : PySem.W.Frag) (Cs : Addr) : Sp := fun vs H Q _ => ∃ q dq ws Wd rs R n f W, vs = [.ref q, .ref R] ∧ Sl2 H q Cs dq ws ∧ ws[4]? = some (some (.ref Wd)) ∧ MatAt H Wd rs n W ∧ H R = some (.lst (rowI n f)) ∧ 0 < n ∧ n ≤ 40 ∧
  ∀ r H' res, H r = none → Same H H' → H' r = some (.tup (rowI n res)) → (∀ t, t < n → MinAt n (fun p => f p + W p t) (res t)) → Q (.ref r) H'
abbrev N_sfil : List Str := ["self", "row", "ways", "p", "number", "t"]
theorem sc_sfil : FnScope N_sfil ["self", "row"] (defScope (inClass (top 70) 4)) := ⟨rfl, rfl, rfl, by decide +kernel, rfl, by decide +kernel, by decide +kernel⟩
abbrev scFl : Scope := { kind := .function, names := [(".0", .local), ("t", .cell), ("min", .globalImplicit), ("enumerate", .globalImplicit), ("row", .cell), ("ways", .cell)], isGenerator := false, isCoroutine := false }
theorem f_sfil {f : Addr} {fd : FuncData} (SC : StepC K mg Cs) (F : FunAt K "filled" "Steps.filled" (inClass (top 70) 4) [] f fd) (B : Blt mg) : FnOk P w K mg base CX0 1 f fd ["self", "row"] (spFilled26 K Cs) := by
  refine fnok_of F sc_sfil (fun vs H Q E h => ?_) (fun cdv A outer s H vs Q E hr h => ?_)
  · obtain ⟨_, _, _, _, _, _, _, _, _, rfl, _⟩ := h; rfl
  · obtain ⟨q, dq, ws, Wd, rs, R, n, f, W, rfl, hs, h4, hM, hR, n0, n40, hQ⟩ := h
    obtain ⟨p4, s4⟩ := SC.s4
    refine ⟨_, (pss_cons (ps_set (i := 2) sc_sfil.nd rfl (Or.inr rfl) (SlX.pe_sl (pv 0)))
      (pss_one (ps_ret (pe_callTy call_tuple_of (by rfl) B.tuple (by decide +kernel) (pa_cons (pe_lc (own := [("t", 5)]) (g := gName 5) (tt := tYes) (by rfl) sc_sfil.nd (pi_range1 (by rfl) B.range (pa_cons (pe_callB call_len_seq (by rfl) B.len (by decide +kernel) (pa_cons (pv 1) pa_nil)) pa_nil)) (blkOk_by (own := [("t", 5)]) (N := N_sfil) (sc := defScope (inClass (top 70) 4)) (by decide +kernel)) (fun _ _ _ _ _ => (pg_name (i := 5) sc_sfil.nd rfl (Or.inr rfl))) (fun _ _ _ _ _ => pts_nil)
        (fun _ _ _ _ _ => (pe_callB (minK (K := K) rfl rfl) (by rfl) B.min (by decide +kernel) (pa_cons (pe_lc (own := [("p", 3), ("number", 4)]) (tt := tYes) (by rfl) sc_sfil.nd (piEnumK (K := K) rfl (by rfl) B.enumerate (pa_cons (pv 1) pa_nil)) (blkOk_by (own := [("p", 3), ("number", 4)]) (N := N_sfil) (sc := scFl) (by decide +kernel)) (fun _ _ _ _ _ => (pg_tupK (K := K) (n := 2) rfl rfl (pgs_cons (pg_name (i := 3) sc_sfil.nd rfl (Or.inl rfl)) (pgs_cons (pg_name (i := 4) sc_sfil.nd rfl (Or.inl rfl)) pgs_nil)))) (fun _ _ _ _ _ => pts_nil)
          (fun _ _ _ _ _ => (pe_op op_add (pv 4) (pe_ix (ixLK (K := K) rfl) (pe_ix (ixLK (K := K) rfl) (pv 2) (pv 3) (fun _ _ => rfl)) (pv 5) (fun _ _ => rfl))))) pa_nil)))) pa_nil))))), ?_⟩
    refine ⟨_, rfl, q, Cs, dq, p4, ws, 4, _, rfl, .inr hs, SC.sc, s4, h4, ?_⟩
    have lr : (rowI n f).length = n := rowI_len
    refine ⟨_, rfl, R, _, rfl, .inl (SqL.of hR), _, rfl, by omega, by omega, fun D hD => ?_⟩
    rw [lr]
    refine lc_rngE (n := n) (by omega) hD (fun t => minR (fun p => f p + W p t) (n - 1)) (fun _ _ => rfl) (fun t ht H2 e2 Q' q' => ?_) (fun H2 e2 u2 => ?_)
    · have hR2 := e2 _ _ hR
      refine ⟨_, rfl, R, _, rfl, SqL.of hR2, fun D2 hD2 => ?_⟩
      refine lc_enumI (rowI n f) (SqL.of hR2) (by omega) hD2 (fun p => f p + W p t) (fun _ _ => rfl) (fun p y hy H3 e3 Q3 q3 => ?_) (fun H3 e3 u3 => ?_)
      · have hp : p < n := by rw [← lr]; exact (List.getElem?_eq_some_iff.mp hy).1
        rw [rowI_get hp] at hy
        cases hy
        obtain ⟨r, g1, g2, g3, g4⟩ := (hM.same (e2.trans e3)).at_ (K := K) hp
        exact ⟨_, rfl, _, rfl, _, rfl, Wd, _, _, _, rfl, rfl, g2, g3, _, rfl, r, _, _, _, rfl, rfl, g4, rowI_at ht, _, _, rfl, rfl, q3 _ (Same.refl _)⟩
      · rw [lr] at u3
        refine ⟨D2, (List.range n).map (fun p => f p + W p t), rfl, by rw [← rowI_ints]; exact SqL.of u3, by simpa using n0, fun m hm hle => ?_⟩
        have : MinAt n (fun p => f p + W p t) m := by
          obtain ⟨p, hp, e⟩ := List.mem_map.mp hm
          exact ⟨⟨p, List.mem_range.mp hp, e.symm⟩, fun p hp => hle _ (List.mem_map.mpr ⟨p, List.mem_range.mpr hp, rfl⟩)⟩
        rw [this.uniq (minR_of n0)]
        exact q' _ e3
    · refine ⟨D, _, rfl, .inl ⟨SqL.of u2, fun r hr' => ?_⟩⟩
      exact hQ r _ _ (e2.free hr') (e2.trans (same_new hr')) upd_same fun t ht => minR_of n0
theorem r_sswap (SC : StepC K mg Cs) (PC : PrC K mg Cp Cc) : ∃ g, Meth K Cs "price_of_swap" g ∧ FnR P w K mg base CX0 1 g (fun vs H Q E => spSwap26 Cc Cs (vs ++ []) H Q E) := by
  obtain ⟨g, fd, h1, F⟩ := SC.pos
  have b := FunD.bindsN (ps := ["self", "sign", "other"]) F fun _ _ _ _ _ _ us hl => match us, hl with | [_, _, _], _ => rfl
  exact ⟨g, h1, (f_sswap SC PC F).raw b .nil⟩
theorem r_sfil (SC : StepC K mg Cs) (B : Blt mg) : ∃ g, Meth K Cs "filled" g ∧ FnR P w K mg base CX0 1 g (fun vs H Q E => spFilled26 K Cs (vs ++ []) H Q E) := by
  obtain ⟨g, fd, h1, F⟩ := SC.fil
  have b := FunD.bindsN (ps := ["self", "row"]) F fun _ _ _ _ _ _ us hl => match us, hl with | [_, _], _ => rfl
  exact ⟨g, h1, (f_sfil SC F B).raw b .nil⟩
end
end MN
/-! Steps.behind, row_of_word; row_of -/
namespace MN
open PySem PySem.Spec PyProof.Rows L2
/-- the numbers found so far -/
structure FndOk (ms : List Mv) (c : Nd → Nd → Int) (s : Nat) (n : Nat) (dn : Nat → Nat → Nat → Prop) (row f : Nat → Int) : Prop where
  f1 : ∀ t, t < n → f t ≤ row t + c (some s) none
  f2 : ∀ p a t, dn p a t → f t ≤ row p + c (some s) (some a)
  f3 : ∀ t, t < n → f t = row t + c (some s) none ∨ ∃ p a, edgeM ms p a t ∧ f t = row p + c (some s) (some a)
theorem FndOk.put {ms : List Mv} {c : Nd → Nd → Int} {s n : Nat} {dn dn' : Nat → Nat → Nat → Prop} {row f : Nat → Int} (F : FndOk ms c s n dn row f) {i a t : Nat} (he : edgeM ms i a t) (h : ∀ p b s, dn' p b s → dn p b s ∨ (p = i ∧ b = a ∧ s = t)) :
    FndOk ms c s n dn' row (fun y => if y = t then (if row i + c (some s) (some a) < f t then row i + c (some s) (some a) else f t) else f y) := by
  refine ⟨fun t' ht' => ?_, fun q b t' k => ?_, fun t' ht' => ?_⟩
  · have := F.f1 t' ht'
    show (if t' = t then _ else _) ≤ _
    split
    · rename_i e
      subst e
      split <;> omega
    · exact this
  · show (if t' = t then _ else _) ≤ _
    rcases h q b t' k with k | ⟨rfl, rfl, rfl⟩
    · have := F.f2 q b t' k
      split
      · rename_i e
        subst e
        split <;> omega
      · exact this
    · rw [if_pos rfl]
      split <;> omega
  · by_cases e : t' = t
    · subst e
      by_cases k : row i + c (some s) (some a) < f t'
      · exact .inr ⟨i, a, he, by simp [k]⟩
      · rcases F.f3 t' ht' with g | ⟨p, b, g1, g2⟩
        · exact .inl (by simp only [if_true, k, if_false]; exact g)
        · exact .inr ⟨p, b, g1, by simp only [if_true, k, if_false]; exact g2⟩
    · rcases F.f3 t' ht' with g | ⟨p, b, g1, g2⟩
      · exact .inl (by simp [e, g])
      · exact .inr ⟨p, b, g1, by simp only [e, if_false]; exact g2⟩
/-- the row behind a row and a sign -/
def BehR (ms : List Mv) (c : Nd → Nd → Int) (W : Nat → Nat → Int) (s : Nat) (row res : Nat → Int) : Prop := ∃ f, FndOk ms c s ms.length (edgeM ms) row f ∧ ∀ t, t < ms.length → MinAt ms.length (fun p => f p + W p t) (res t)
theorem edge_in {ys : List Str} {ms : List Mv} (hO : MvsOk ys ms) (sg : ∀ z ∈ ys, ∃ c ∈ ("abcde" : Str).cps.toList, z = ⟨#[c]⟩) : ∀ p a t, edgeM ms p a t → p < ms.length ∧ t < ms.length ∧ a ∈ codesOf ys := fun p a t ⟨m, h1, h2⟩ => by
  have mm := List.mem_of_getElem? h1
  obtain ⟨g1, g2⟩ := hO.sg m mm _ h2
  exact ⟨(List.getElem?_eq_some_iff.mp h1).1, g2, (mem_codes sg).mpr g1⟩
theorem BehR.row {L : List Nat} {r : Nd → Nd → Option Int} {c : Nd → Nd → Int} (C : Clo L r c) {ms : List Mv} {W : Nat → Nat → Int} {far : Int} (n0 : 0 < ms.length) (hed : ∀ p a t, edgeM ms p a t → p < ms.length ∧ t < ms.length ∧ a ∈ L) (F : WaysOk (edgeM ms) ms.length (fun a => c none (some a)) far W)
    {u : List Nat} {row res : Nat → Int} {s : Nat} (hs : s ∈ L) (R : RowOk (edgeM ms) ms.length c far u row) (h : BehR ms c W s row res) : RowOk (edgeM ms) ms.length c far (s :: u) res := by
  obtain ⟨f, hf, hm⟩ := h
  exact row_behind C n0 hed F hs R hf.f1 hf.f2 hf.f3 (fun q t hq ht => (hm t ht).le q hq) fun t ht => by
    obtain ⟨p, hp, e⟩ := (hm t ht).in_
    exact ⟨p, hp, e⟩
/-- the rows of a word, from the start -/
inductive RowsW (ms : List Mv) (c : Nd → Nd → Int) (W : Nat → Nat → Int) : List Nat → (Nat → Int) → Prop
  | nil : RowsW ms c W [] (W 0)
  | cons {u s row res} : RowsW ms c W u row → BehR ms c W s row res → RowsW ms c W (s :: u) res
theorem RowsW.ok {L : List Nat} {r : Nd → Nd → Option Int} {c : Nd → Nd → Int} (C : Clo L r c) {ms : List Mv} {W : Nat → Nat → Int} {far : Int} (n0 : 0 < ms.length) (hed : ∀ p a t, edgeM ms p a t → p < ms.length ∧ t < ms.length ∧ a ∈ L) (F : WaysOk (edgeM ms) ms.length (fun a => c none (some a)) far W)
    {u : List Nat} {row : Nat → Int} (hu : ∀ a ∈ u, a ∈ L) (h : RowsW ms c W u row) : RowOk (edgeM ms) ms.length c far u row := by
  induction h with
  | nil => exact row_start n0 (fun p a t h => ⟨(hed p a t h).1, (hed p a t h).2.1⟩) F
  | cons h b ih => exact BehR.row C n0 hed F (hu _ List.mem_cons_self) (ih fun a ha => hu a (List.mem_cons_of_mem _ ha)) b
section
variable {P : Program} {w : World} {K : PySem.W.Frag} {mg : Str → Option Value} {base : Heap} {Cp Cc Cs C p0 p1 : Addr} {i0 i1 : Nat}
def spBehind (K : PySem.W.Frag) (Cc Cs : Addr) : Sp := fun vs H Q _ => ∃ q dq ys c ms ls W R row s, vs = [.ref q, .ref R, .str (sgS s)] ∧ StepsAt K Cc Cs H q dq ys c ms ls W ∧ SqT K H R (rowI ms.length row) ∧ MvsOk ys ms ∧ 0 < ms.length ∧ ys.Nodup ∧ (∀ z ∈ ys, ∃ c ∈ ("abcde" : Str).cps.toList, z = ⟨#[c]⟩) ∧ sgS s ∈ ys ∧ (∀ x, c x x = 0) ∧
  ∀ r H' res, H r = none → Same H H' → H' r = some (.tup (rowI ms.length res)) → BehR ms c W s row res → Q (.ref r) H'
abbrev N_sbeh : List Str := ["self", "row", "sign", "found", "number", "p", "moves", "other", "t"]
theorem sc_sbeh : FnScope N_sbeh ["self", "row", "sign"] (defScope (inClass (top 70) 5)) := ⟨rfl, rfl, rfl, by decide +kernel, rfl, by decide +kernel, by decide +kernel⟩
def addV (k : Int) : V → V
  | .int n => .int (n + k)
  | v => v
theorem rowI_add {n : Nat} {f : Nat → Int} {k : Int} : (rowI n f).map (addV k) = rowI n (fun t => f t + k) := by
  unfold rowI
  rw [List.map_map]; rfl
theorem f_sbeh {f : Addr} {fd : FuncData} (SC : StepC K mg Cs) (PC : PrC K mg Cp Cc) (F : FunAt K "behind" "Steps.behind" (inClass (top 70) 5) [] f fd) (B : Blt mg) : FnOk P w K mg base CX0 2 f fd ["self", "row", "sign"] (spBehind K Cc Cs) := by
  obtain ⟨gs, hgs, Fs⟩ := r_sswap (P := P) (w := w) (base := base) SC PC
  obtain ⟨gf, hgf, Ff⟩ := r_sfil (P := P) (w := w) (base := base) SC B
  refine fnok_of F sc_sbeh (fun vs H Q E h => ?_) (fun cdv A outer s H vs Q E hr h => ?_)
  · obtain ⟨_, _, _, _, _, _, _, _, _, _, rfl, _⟩ := h; rfl
  · obtain ⟨q, dq, ys, c, ms, ls, W, R, row, s0, rfl, hS, hR, hO, n0, nd, sg, hs0, cz, hQ⟩ := h
    obtain ⟨p0, t0⟩ := SC.s0
    obtain ⟨p2, t2⟩ := SC.s2
    obtain ⟨cp0, ct0⟩ := PC.sc.s0
    refine ⟨_, (pss_cons (ps_setLc (i := 3) (own := [("number", 4)]) (g := gName 4) (tt := tYes) (by rfl) sc_sbeh.nd rfl rfl (sw_true rfl rfl rfl (by decide +kernel)) (pi_tup (pv 1)) (blkOk_by (own := [("number", 4)]) (N := N_sbeh) (sc := defScope (inClass (top 70) 5)) (by decide +kernel)) (fun _ _ _ _ _ => (pg_name (i := 4) sc_sbeh.nd rfl (Or.inl rfl))) (fun _ _ _ _ _ => pts_nil) (fun _ _ _ _ _ => (pe_op op_add (pv 4) (pe_dget (hu_of hr) (peSlK (K := K) rfl (peSlK (K := K) rfl (pv 0))) (pv 2) (fun _ _ => rfl)))))
      (pss_cons (ps_for PassesOwn.never rfl (pi_enum (by rfl) B.enumerate (pa_cons (SlX.pe_sl (pv 0)) pa_nil)) (pg_tup rfl (pgs_cons (pg_name (i := 5) sc_sbeh.nd rfl (Or.inl rfl)) (pgs_cons (pg_name (i := 6) sc_sbeh.nd rfl (Or.inl rfl)) pgs_nil)))
        (pss_one (ps_lock (ps_for PassesOwn.never rfl (pi_items (pv 6)) (pg_tup rfl (pgs_cons (pg_name (i := 7) sc_sbeh.nd rfl (Or.inl rfl)) (pgs_cons (pg_name (i := 8) sc_sbeh.nd rfl (Or.inl rfl)) pgs_nil)))
          (pss_one (ps_asg (pe_callB (call_min2 rfl) (by rfl) B.min (by decide +kernel) (pa_cons (pe_ix ix_list (pv 3) (pv 8) (fun _ _ => rfl)) (pa_cons (pe_op op_add (pe_ix ix_tup (pv 1) (pv 5) (fun _ _ => rfl)) (SlX.pe_methSl (E := E0) (pv 0) SC.sc hgs Fs (hr.mono (by decide)) pass0 (pa_cons (pv 2) (pa_cons (pv 7) pa_nil)))) pa_nil))) (pg_sub (pv 3) (pv 8) set_list)))))))
      (pss_one (ps_ret (SlX.pe_methSl (E := E0) (pv 0) SC.sc hgf Ff (hr.mono (by decide)) pass0 (pa_cons (pv 3) pa_nil)))))), ?_⟩
    have hSW := hS.swap
    have hS0 := hS
    obtain ⟨ws, cl, dcl, L, M, ds, St, Wd, rs, h1, h2, h3, h4, h5, h6, ⟨qs, AP, CA, CB, CS, cws, cs, cw1, cw0, cw2, cAB, chA, chB, chS⟩, h8, hM, h10, h11⟩ := hS
    have n8 := hO.n8
    have lr : (rowI ms.length row).length = ms.length := rowI_len
    have ln : (ds.map V.ref).length = ms.length := by rw [List.length_map, hM.2.1]
    refine ⟨_, rfl, R, rfl, ⟨_, hR⟩, fun D hD => ?_⟩
    refine lc_tplE hR hD (by omega) (fun _ => true) (addV (c (some s0) none)) (fun _ _ => rfl) (fun _ _ H2 e2 Q q => q _ (Same.refl _)) (fun y hy _ H2 e2 Q' q' => ?_) (fun H1 e1 u1 => ?_)
    · unfold rowI at hy
      obtain ⟨t, ht, rfl⟩ := List.mem_map.mp hy
      exact ⟨_, rfl, _, rfl, q, Cs, dq, p0, ws, 0, _, rfl, .inr ⟨e2 _ _ h1.1, e2 _ _ h1.2⟩, SC.sc, t0, h2, cl, Cc, dcl, cp0, cws, 0, _, rfl, .inr ⟨e2 _ _ cs.1, e2 _ _ cs.2⟩, PC.sc.sc, ct0, cw0, _, rfl, CB, .int (c (some s0) none), rfl, .inl ⟨_, .inr (sgS s0), .inl (e2 _ _ chB), rfl, (dkF_val nd (fun z => c (some (codeOf z)) none) hs0).symm⟩, _, _, rfl, rfl, q' _ (Same.refl _)⟩
    · rw [filter_all, rowI_add] at u1
      have F0 : FndOk ms c s0 ms.length (fun q a t => q < 0 ∧ edgeM ms q a t) row (fun t => row t + c (some s0) none) := ⟨fun _ _ => Int.le_refl _, fun _ _ _ k => absurd k.1 (Nat.not_lt_zero _), fun _ _ => .inl rfl⟩
      refine ⟨_, rfl, q, Cs, dq, p2, ws, 2, _, rfl, .inr ⟨e1 _ _ h1.1, e1 _ _ h1.2⟩, SC.sc, t2, h4, M, _, rfl, Same.seq e1 hM.1, for_it walk_enum (fun i σ H' => (∃ o5 o6 o7 o8, σ = [some (.ref q), some (.ref R), some (.str (sgS s0)), some (.ref D), none, o5, o6, o7, o8]) ∧ Same H H' ∧ ∃ f, H' D = some (.lst (rowI ms.length f)) ∧ FndOk ms c s0 ms.length (fun q a t => q < i ∧ edgeM ms q a t) row f) ⟨⟨_, _, _, _, rfl⟩, e1, _, u1, F0⟩ (fun i σ H' _ e => Same.seq e.2.1 hM.1) (fun i y σ Ha Hb hi e hy => ?_) (fun σ H2 e => ?_)⟩
      · obtain ⟨T, x1, y1, rfl, hT, rfl, g1, g2⟩ := hy
        cases g1
        obtain ⟨⟨o5, o6, o7, o8, rfl⟩, ea, f0, uD, FA⟩ := e
        replace g2 : (ds.map V.ref)[i]? = some y1 := g2
        rw [List.getElem?_map] at g2
        obtain ⟨d, hd, rfl⟩ := Option.map_eq_some_iff.mp g2
        have il : i < ms.length := by rw [ln] at hi; exact hi
        have hm := List.getElem?_eq_getElem il
        generalize hmm : ms[i] = m at hm
        have mm : m ∈ ms := List.mem_of_getElem? hm
        have hdH := hM.2.2 i d m hd hm
        have sT := same_new (o := .tup [.int (i : Nat), .ref d]) hT
        refine ⟨T, _, rfl, .inl (.inl upd_same), rfl, _, _, rfl, _, _, rfl, rfl, ?_⟩
        have eb := ea.trans sT
        have uDb := sT _ _ uD
        show (tLock _ : TS) _ _ (upd Ha T (.tup [.int (i : Nat), .ref d]))
        generalize upd Ha T (.tup [.int (i : Nat), .ref d]) = Hb at eb uDb ⊢
        have Dd : D ≠ d := fun z => by rw [z, hdH] at hD; cases hD
        have rR : ∀ {H' : Hp}, (∀ b o, b ≠ d → H b = some o → H' b = some o) → SqT K H' R (rowI ms.length row) := fun {H'} ec => by
          have nd' : ∀ {o}, H R = some o → (∀ kvs, o ≠ .dK kvs) → R ≠ d := fun {o} h n z => by rw [z, hdH] at h; exact n _ (Option.some.inj h).symm
          rcases hR with (h | ⟨o, h⟩) | h
          · exact .inl (.inl (ec _ _ (nd' h (fun _ z => by cases z)) h))
          · exact .inl (.inr ⟨o, ec _ _ (nd' h (fun _ z => by cases z)) h⟩)
          · exact .inr h
        refine ⟨d, _, eb _ _ hdH, trivial, fun od => ⟨_, rfl, d, od, _, rfl, upd_same, for_it walk_items (fun j σ H' => (∃ o7 o8, σ = [some (.ref q), some (.ref R), some (.str (sgS s0)), some (.ref D), none, some (.int (i : Nat)), some (.ref d), o7, o8]) ∧ (∀ b o, b ≠ d → H b = some o → H' b = some o) ∧ H' d = some (.frz od (.dK (mvK m))) ∧ ∃ f, H' D = some (.lst (rowI ms.length f)) ∧ FndOk ms c s0 ms.length (fun q a t => (q < i ∧ edgeM ms q a t) ∨ (q = i ∧ (sgS a, t) ∈ m.take j)) row f) ⟨⟨_, _, rfl⟩, fun b o n q => by rw [upd_ne n]; exact eb _ _ q, upd_same, f0, by rw [upd_ne Dd]; exact uDb, FA.f1, fun q a t k => FA.f2 q a t (by simpa using k), FA.f3⟩ (fun j σ H' _ e => e.2.2.1) (fun j y σ Hc Hd hj e hy => ?_) (fun σ H3 e => ?_)⟩⟩
        · obtain ⟨T2, x1, y1, rfl, hT2, rfl, g1, g2⟩ := hy
          obtain ⟨⟨o7, o8, rfl⟩, ec, fc, f1, uC, FC⟩ := e
          obtain ⟨kv, hkv, rfl⟩ := Option.map_eq_some_iff.mp g1
          replace g2 : (mvK m)[j]?.map Prod.snd = some y1 := g2
          rw [hkv] at g2
          cases g2
          unfold mvK at hkv
          rw [List.getElem?_map] at hkv
          obtain ⟨⟨z, t⟩, hq, rfl⟩ := Option.map_eq_some_iff.mp hkv
          obtain ⟨zy, tn⟩ := hO.sg m mm _ (List.mem_of_getElem? hq)
          have zc : sgS (codeOf z) = z := nS_code (sg z zy)
          have sT := same_new (o := .tup [.str z, .int (t : Int)]) hT2
          have tk : ∀ q, q ∈ m.take (j + 1) ↔ q ∈ m.take j ∨ q = (z, t) := fun q => by rw [List.take_add_one, hq]; simp
          refine ⟨T2, _, rfl, .inl (.inl upd_same), rfl, _, _, rfl, _, _, rfl, rfl, ?_⟩
          show (tAsg _ _ : TS) _ _ (upd Hc T2 (.tup [.str z, .int (t : Int)]))
          have ed : ∀ b o, b ≠ d → H b = some o → upd Hc T2 (.tup [.str z, .int (t : Int)]) b = some o := fun b o n q => sT _ _ (ec b o n q)
          have fd' := sT _ _ fc
          have uE := sT _ _ uC
          generalize upd Hc T2 (.tup [.str z, .int (t : Int)]) = He at ed fd' uE ⊢
          have hSW' := hSW.off hdH ed
          have nqd : q ≠ d := fun z => by have := h1.1; rw [z, hdH] at this; injection this with this; unfold SlX.SlO at this; cases this
          have ndqd : dq ≠ d := fun z => by have := h1.2; rw [z, hdH] at this; cases this
          refine ⟨_, rfl, _, rfl, D, _, _, _, rfl, rfl, SqL.of uE, rowI_at tn, _, rfl, _, rfl, R, _, _, _, rfl, rfl, rR ed, rowI_at il, _, rfl, q, dq, ws, rfl, .inr ⟨ed _ _ nqd h1.1, ed _ _ ndqd h1.2⟩, _, rfl, _, rfl, q, dq, ys, c, s0, codeOf z, by rw [zc]; rfl, hSW', hs0, by rw [zc]; exact zy, cz, fun Hf e6 => ?_⟩
          have uF := e6 _ _ uE
          refine ⟨_, _, rfl, rfl, _, _, rfl, _, rfl, _, rfl, D, _, _, t, rfl, rfl, uF, by rw [rowI_len]; exact ixN_lt tn, ⟨_, _, rfl⟩, fun b o n q => ?_, ?_, _, by rw [upd_same, rowI_set], FC.put (a := codeOf z) ⟨m, hm, by rw [zc]; exact List.mem_of_getElem? hq⟩ fun q b t' k => ?_⟩
          · rw [upd_ne (ne_of_none q hD)]; exact e6 _ _ (ed b o n q)
          · rw [upd_ne Dd.symm]; exact e6 _ _ fd'
          · rcases k with k | ⟨rfl, k⟩
            · exact .inl (.inl k)
            · rcases (tk _).mp k with k | k
              · exact .inl (.inr ⟨rfl, k⟩)
              · refine .inr ⟨rfl, ?_, congrArg Prod.snd k⟩
                have : sgS b = z := congrArg Prod.fst k
                rw [← this]; rfl
        · obtain ⟨⟨o7, o8, rfl⟩, ec, fc, f1, uC, FC⟩ := e
          refine ⟨fc, ⟨_, _, _, _, rfl⟩, fun b o q => ?_, f1, by rw [upd_ne Dd]; exact uC, FC.f1, fun q a s k => FC.f2 q a s ?_, FC.f3⟩
          · by_cases z : b = d
            · rw [z, upd_same]; rw [z, hdH] at q; exact q
            · rw [upd_ne z]; exact ec b o z q
          · obtain ⟨k1, k2⟩ := k
            rcases Nat.lt_or_ge q i with h | h
            · exact .inl ⟨h, k2⟩
            · obtain rfl : q = i := by omega
              obtain ⟨m', h1, h2⟩ := k2
              rw [hm] at h1
              cases h1
              refine .inr ⟨rfl, ?_⟩
              rw [show (mvK m).length = m.length by simp [mvK], List.take_length]
              exact h2
      · obtain ⟨⟨o5, o6, o7, o8, rfl⟩, e2, f0, uD, FA⟩ := e
        rw [ln] at FA
        have FB : FndOk ms c s0 ms.length (edgeM ms) row f0 := ⟨FA.f1, fun q a t k => FA.f2 q a t ⟨(edge_in hO sg q a t k).1, k⟩, FA.f3⟩
        refine ⟨_, rfl, q, dq, ws, rfl, .inr ⟨e2 _ _ h1.1, e2 _ _ h1.2⟩, _, rfl, q, dq, ws, Wd, rs, D, ms.length, f0, W, rfl, ⟨e2 _ _ h1.1, e2 _ _ h1.2⟩, h6, h11.same e2, uD, n0, by omega, fun r H3 res hr' e3 u3 hm => ?_⟩
        exact hQ r H3 res (e2.free hr') (e2.trans e3) u3 ⟨f0, FB, hm⟩
theorem r_sbeh (SC : StepC K mg Cs) (PC : PrC K mg Cp Cc) (B : Blt mg) : ∃ g, Meth K Cs "behind" g ∧ FnR P w K mg base CX0 2 g (fun vs H Q E => spBehind K Cc Cs (vs ++ []) H Q E) := by
  obtain ⟨g, fd, h1, F⟩ := SC.beh
  have b := FunD.bindsN (ps := ["self", "row", "sign"]) F fun _ _ _ _ _ _ us hl => match us, hl with | [_, _, _], _ => rfl
  exact ⟨g, h1, (f_sbeh SC PC F B).raw b .nil⟩
/-! ### row_of_word -/
def spRowW (K : PySem.W.Frag) (Cc Cs : Addr) : Sp := fun vs H Q _ => ∃ q dq ys c ms ls W u, vs = [.ref q, .str (wS u)] ∧ StepsAt K Cc Cs H q dq ys c ms ls W ∧ MvsOk ys ms ∧ 0 < ms.length ∧ ys.Nodup ∧ (∀ z ∈ ys, ∃ c ∈ ("abcde" : Str).cps.toList, z = ⟨#[c]⟩) ∧ (∀ a ∈ u, sgS a ∈ ys) ∧ (∀ x, c x x = 0) ∧
  ∀ r H' row, Same H H' → SqT K H' r (rowI ms.length row) → RowsW ms c W u.reverse row → Q (.ref r) H'
abbrev N_srow : List Str := ["self", "word", "row", "sign"]
theorem sc_srow : FnScope N_srow ["self", "word"] (defScope (inClass (top 70) 7)) := ⟨rfl, rfl, rfl, by decide +kernel, rfl, by decide +kernel, by decide +kernel⟩
theorem f_srow {f : Addr} {fd : FuncData} (SC : StepC K mg Cs) (PC : PrC K mg Cp Cc) (F : FunAt K "row_of_word" "Steps.row_of_word" (inClass (top 70) 7) [] f fd) (B : Blt mg) : FnOk P w K mg base CX0 3 f fd ["self", "word"] (spRowW K Cc Cs) := by
  obtain ⟨gb, hgb, Fb⟩ := r_sbeh (P := P) (w := w) (base := base) SC PC B
  refine fnok_of F sc_srow (fun vs H Q E h => ?_) (fun cdv A outer s H vs Q E hr h => ?_)
  · obtain ⟨_, _, _, _, _, _, _, _, rfl, _⟩ := h; rfl
  · obtain ⟨q, dq, ys, c, ms, ls, W, u, rfl, hS, hO, n0, nd, sg, hu, cz, hQ⟩ := h
    obtain ⟨p3, t3⟩ := SC.s3
    refine ⟨_, (pss_cons (ps_set (i := 2) sc_srow.nd rfl (Or.inl rfl) (SlX.pe_sl (pv 0)))
      (pss_cons (ps_for PassesOwn.never rfl (pi_str (pv 1)) (pg_name (i := 3) sc_srow.nd rfl (Or.inl rfl))
        (pss_one (ps_set (i := 2) sc_srow.nd rfl (Or.inl rfl) (SlX.pe_methSl (E := E0) (pv 0) SC.sc hgb Fb (hr.mono (by decide)) pass0 (pa_cons (pv 2) (pa_cons (pv 3) pa_nil))))))
      (pss_one (ps_ret (pv 2))))), ?_⟩
    have hS0 := hS
    obtain ⟨ws, cl, dcl, L, M, ds, St, Wd, rs, h1, h2, h3, h4, h5, h6, h7, h8, hM, h10, h11⟩ := hS
    refine ⟨_, rfl, q, Cs, dq, p3, ws, 3, _, rfl, .inr h1, SC.sc, t3, h5, _, rfl, wS u, rfl, for_it walk_str (fun i σ H' => (∃ r o3, σ = [some (.ref q), some (.str (wS u)), some (.ref r), o3] ∧ ∃ row, SqT K H' r (rowI ms.length row) ∧ RowsW ms c W (u.take i).reverse row) ∧ Same H H') ⟨⟨St, _, rfl, _, h10, by rw [List.take_zero]; exact .nil⟩, Same.refl _⟩ (fun _ _ _ _ _ => trivial) (fun i y σ Ha Hb hi e hy => ?_) (fun σ H2 e => ?_)⟩
    · obtain ⟨rfl, l, hl, rfl⟩ := hy
      obtain ⟨⟨r, o3, rfl, row, hr2, hR⟩, ea⟩ := e
      have hl' : u[i]? = some l := by simpa [wS] using hl
      have ml : sgS l ∈ ys := hu l (List.mem_of_getElem? hl')
      refine ⟨_, rfl, q, dq, ws, rfl, .inr ⟨ea _ _ h1.1, ea _ _ h1.2⟩, _, rfl, _, rfl, q, dq, ys, c, ms, ls, W, r, row, l, rfl, hS0.same ea, hr2, hO, n0, nd, sg, ml, cz, fun r' H' res _ e' u' hb => ⟨⟨r', _, rfl, res, .inl (.inl u'), ?_⟩, ea.trans e'⟩⟩
      rw [take_rev hl']
      exact .cons hR hb
    · obtain ⟨⟨r, o3, rfl, row, hr2, hR⟩, ea⟩ := e
      have : (wS u).cps.size = u.length := by simp [wS]
      rw [this, List.take_length] at hR
      exact ⟨_, rfl, hQ r H2 row ea hr2 hR⟩
theorem r_srow (SC : StepC K mg Cs) (PC : PrC K mg Cp Cc) (B : Blt mg) : ∃ g, Meth K Cs "row_of_word" g ∧ FnR P w K mg base CX0 3 g (fun vs H Q E => spRowW K Cc Cs (vs ++ []) H Q E) := by
  obtain ⟨g, fd, h1, F⟩ := SC.row
  have b := FunD.bindsN (ps := ["self", "word"]) F fun _ _ _ _ _ _ us hl => match us, hl with | [_, _], _ => rfl
  exact ⟨g, h1, (f_srow SC PC F B).raw b .nil⟩
/-! ### row_of -/
def spRowOf (K : PySem.W.Frag) (C : Addr) (i0 i1 : Nat) (Cp : Addr) : Sp := fun vs H Q _ => ∃ fx fdx px pdx M L ds ms ls ys ys2 g o qs u, vs = [.ref fx, .ref px, .str (wS u)] ∧ FormM K C i0 i1 H fx fdx M L ds ms ls ∧ ms.length ≤ 6 ∧ MvsOk ys ms ∧ 0 < ms.length ∧ PrAt Cp H px pdx ys ys2 g o qs ∧ PrN ys ys2 g o qs ∧ (∀ c ∈ u, c ∈ codesOf ys) ∧ u.length ≤ 1000 ∧
  ∀ r H' c row, Same H H' → Clo (codesOf ys) (rOf (codesOf ys) g o qs) c → SqT K H' r (rowI ms.length row) → RowOk (edgeM ms) ms.length c FAR u.reverse row → Q (.ref r) H'
theorem sc_row_of : FnScope ["target", "prices", "word"] ["target", "prices", "word"] (defScope (top 73)) := ⟨rfl, rfl, rfl, by decide +kernel, rfl, by decide +kernel, by decide +kernel⟩
theorem c_row_of (A : At K mg "row_of" (top 73)) (B : Blt mg) (SC : StepC K mg Cs) (FC : FormC K C p0 p1 i0 i1) (PC : PrC K mg Cp Cc) (GB : GlC mg "BEYOND" (.int 10000)) (c_require_form : Cal P w K mg base 1 "require_form" (spReqForm K C i0 i1)) (c_require_prices : Cal P w K mg base 1 "require_prices" (spReqPrices Cp)) (c_require_word : Cal P w K mg base 2 "require_word" spReqWord)
    (c_require_target : CalD P w K mg base 4 "require_target" [.str ""] (spReqTarget K C i0 i1 Cp)) (c_closed_of : Cal P w K mg base 3 "closed_of" (spClosedOf Cp Cc)) (c_put_ways : Cal P w K mg base 2 "put_ways" (spPutWays K)) : Cal P w K mg base 6 "row_of" (spRowOf K C i0 i1 Cp) := by
  obtain ⟨gr, hgr, Fr⟩ := r_srow (P := P) (w := w) (base := base) SC PC B
  obtain ⟨fi, fdi, M0, Fi⟩ := SC.ini
  have b0 := FunD.bindsN (ps := ["self", "target", "prices"]) Fi fun _ _ _ _ _ _ us hl => match us, hl with | [_, _, _], _ => rfl
  refine cal_of A sc_row_of (fun _ _ _ _ _ _ us hl => match us, hl with | [_, _, _], _ => rfl) (fun vs H Q E h => ?_) (fun _ cdv A outer s H vs Q E hr h => ?_)
  · obtain ⟨_, _, _, _, _, _, _, _, _, _, _, _, _, _, _, rfl, _⟩ := h; rfl
  · obtain ⟨fx, fdx, px, pdx, M, L, ds, ms, ls, ys, ys2, g, o, qs, u, rfl, hF, n6, hO, n0, hP, N, hu, lu, hQ⟩ := h
    refine ⟨_, (pss_cons (ps_expr (pe_c c_require_form hr (by decide) (by rfl) (pa_cons (pv 0) pa_nil)))
      (pss_cons (ps_expr (pe_c c_require_prices hr (by decide) (by rfl) (pa_cons (pv 1) pa_nil)))
      (pss_cons (ps_expr (pe_c c_require_word hr (by decide) (by rfl) (pa_cons (pv 2) pa_nil)))
      (pss_cons (ps_expr (pe_cD c_require_target hr (by decide) (by rfl) (pa_cons (pv 0) (pa_cons (pv 1) (pa_cons (pv 2) pa_nil)))))
      (pss_one (ps_ret (SlX.pe_methSl (E := E0) (pe_make M0 (f_sinit (P := P) (w := w) (base := base) SC FC PC Fi B GB c_closed_of c_put_ways) hr (by rfl) SC.gs b0 .nil pass0 (pa_cons (pv 0) (pa_cons (pv 1) pa_nil))) SC.sc hgr Fr (hr.mono (by decide)) pass0 (pa_cons (pv 2) pa_nil)))))))), ?_⟩
    refine ⟨_, rfl, fx, fdx, M, L, _, ls, rfl, hF.f, n6, ?_⟩
    refine ⟨_, rfl, px, pdx, ys, ys2, g, o, qs, rfl, hP, ?_⟩
    refine ⟨_, rfl, u, rfl, fun c hc => codes_sgn N.sg (hu c hc), lu, fun H1 e1 => ?_⟩
    refine ⟨_, rfl, _, rfl, _, rfl, fx, fdx, M, L, ds, ms, ls, px, pdx, ys, ys2, g, o, qs, u, [], rfl, hF.same e1, n6, hO, hP.same e1, N, hu, fun c hc => (nomatch hc), lu, by simp, fun H2 e2 => ?_⟩
    have e12 := e1.trans e2
    refine ⟨_, rfl, _, rfl, fun x dx hx hdx n => ?_⟩
    have nx : ∀ b o, H2 b = some o → b ≠ x ∧ b ≠ dx := fun b o e => ⟨ne_of_none e hx, ne_of_none e hdx⟩
    have up : Same H2 (upd (upd H2 dx (.own x)) x (.ins Cs dx [])) := fun b o e => by rw [upd_ne (nx b o e).1, upd_ne (nx b o e).2]; exact e
    refine ⟨x, dx, fx, fdx, px, pdx, M, L, ds, ms, ls, ys, ys2, g, o, qs, rfl, upd_same, by rw [upd_ne n, upd_same], n, hF.same (e12.trans up), hO, n0, hP.same (e12.trans up), N, fun H3 c W k CL WW hS => ⟨rfl, ?_⟩⟩
    have e23 : Same H2 H3 := fun b o q => k b o (nx _ _ q).1 (nx _ _ q).2 (up _ _ q)
    obtain ⟨ws, _, _, _, _, _, _, _, _, h1, _⟩ := id hS
    refine ⟨x, dx, ws, rfl, .inr h1, _, rfl, x, dx, ys, c, ms, ls, W, u, rfl, hS, hO, n0, N.nd, N.sg, fun a ha => (mem_codes N.sg).mp (hu a ha), CL.z, fun r H4 row e4 hr' hR => ?_⟩
    exact hQ r H4 c row ((e12.trans e23).trans e4) CL hr' (hR.ok CL n0 (edge_in hO N.sg) WW fun a ha => hu a (List.mem_reverse.mp ha))
end
end MN
/-! the laws k25 .. k34: drawn prices, prices of them, words -/
namespace MN
open PySem PySem.Spec PyProof.Rows L2
section
variable {P : Program} {w : World} {K : PySem.W.Frag} {mg : Str → Option Value} {base : Heap} {Cp Cc : Addr}
def spPlainP (K : PySem.W.Frag) : Sp := fun vs H Q _ => ∃ p l m zs, vs = [.ref p, .ref l, .int m] ∧ Pot H p ∧ l ≠ p ∧ SqL K H l (strsV zs) ∧ SgnOk zs ∧ 1 ≤ m ∧ m ≤ 9 ∧
  ∀ t A B S g o ps H', PrN zs zs g o ps → A ≠ B → H t = none → H A = none → H B = none → H S = none → Ex p H H' → TblAt H' t zs g o ps A B S → Q (.ref t) H'
abbrev N_law_plain_prices : List Str := ["_law_urn_here", "_law_signs", "_law_most", "_law_puts", "_law_sign", "_law_outs", "_law_swaps", "_law_one", "_law_other"]
theorem sc_law_plain_prices : FnScope N_law_plain_prices ["_law_urn_here", "_law_signs", "_law_most"] (defScope (top 87)) := ⟨rfl, rfl, rfl, by decide +kernel, rfl, by decide +kernel, by decide +kernel⟩
theorem c_law_plain_prices (A : At K mg "_law_plain_prices" (top 87)) (B : Blt mg) (c_law_pull : Cal P w K mg base 1 "_law_pull" spDip) : Cal P w K mg base 2 "_law_plain_prices" (spPlainP K) := by
  refine cal_of A sc_law_plain_prices (fun _ _ _ _ _ _ us hl => match us, hl with | [_, _, _], _ => rfl) (fun vs H Q E h => ?_) (fun _ cdv A outer s H vs Q E hr h => ?_)
  · obtain ⟨_, _, _, _, rfl, _⟩ := h; rfl
  · obtain ⟨p, l, m, zs, rfl, hp, nlp, hl, ok, m1, m9, hQ⟩ := h
    refine ⟨_, (pss_cons (ps_set (i := 3) sc_law_plain_prices.nd rfl (Or.inl rfl) (pe_callTy (call_dictP rfl) (by rfl) B.dict (by decide +kernel) (pa_cons (pe_lc (own := [("_law_sign", 4)]) (g := gName 4) (tt := tYes) (by rfl) sc_law_plain_prices.nd (pi_list (pv 1)) (blkOk_by (own := [("_law_sign", 4)]) (N := N_law_plain_prices) (sc := defScope (top 87)) (by decide +kernel)) (fun _ _ _ _ _ => (pg_name (i := 4) sc_law_plain_prices.nd rfl (Or.inl rfl))) (fun _ _ _ _ _ => pts_nil) (fun _ _ _ _ _ => (pe_tup (pa_cons (pv 4) (pa_cons (pe_op op_add pe_int (pe_c c_law_pull hr (by decide) (by rfl) (pa_cons (pv 0) (pa_cons (pv 2) pa_nil)))) pa_nil))))) pa_nil)))
      (pss_cons (ps_set (i := 5) sc_law_plain_prices.nd rfl (Or.inl rfl) (pe_callTy (call_dictP rfl) (by rfl) B.dict (by decide +kernel) (pa_cons (pe_lc (own := [("_law_sign", 4)]) (g := gName 4) (tt := tYes) (by rfl) sc_law_plain_prices.nd (pi_list (pv 1)) (blkOk_by (own := [("_law_sign", 4)]) (N := N_law_plain_prices) (sc := defScope (top 87)) (by decide +kernel)) (fun _ _ _ _ _ => (pg_name (i := 4) sc_law_plain_prices.nd rfl (Or.inl rfl))) (fun _ _ _ _ _ => pts_nil) (fun _ _ _ _ _ => (pe_tup (pa_cons (pv 4) (pa_cons (pe_op op_add pe_int (pe_c c_law_pull hr (by decide) (by rfl) (pa_cons (pv 0) (pa_cons (pv 2) pa_nil)))) pa_nil))))) pa_nil)))
      (pss_cons (ps_set (i := 6) sc_law_plain_prices.nd rfl (Or.inl rfl) pe_dnewT)
      (pss_cons (ps_for PassesOwn.never rfl (pi_list (pv 1)) (pg_name (i := 7) sc_law_plain_prices.nd rfl (Or.inl rfl))
        (pss_one (ps_for PassesOwn.never rfl (pi_list (pv 1)) (pg_name (i := 8) sc_law_plain_prices.nd rfl (Or.inl rfl))
          (pss_one (ps_if (PW.pt (pw_and (pt_cmpR op_ne (pv 7) (pv 8) (nomark _)) (pw_and1 (pt_cmpR op_eq (pe_c c_law_pull hr (by decide) (by rfl) (pa_cons (pv 0) (pa_cons pe_int pa_nil))) pe_int (nomark _)))))
            (pss_one (ps_dput (hu_of hr) (pv 6) (pe_tup (pa_cons (pv 7) (pa_cons (pv 8) pa_nil))) (pe_op op_add pe_int (pe_c c_law_pull hr (by decide) (by rfl) (pa_cons (pv 0) (pa_cons (pe_op op_add (pv 2) pe_int) pa_nil)))) (by rfl)))
            pss_nil)))))
      (pss_one (ps_ret (pe_lst (pa_cons (pv 3) (pa_cons (pv 5) (pa_cons (pv 6) pa_nil)))))))))), ?_⟩
    have two : 2 ≤ sizeLine := by decide
    have three : 3 ≤ sizeLine := by decide
    have big : 100000 < sizeLine := by decide
    have nd := ok.nodup
    have l5 := ok.le
    have tossing : ∀ {H2 : Hp} {z : Str} {Q : VK}, Pot H2 p → (∀ n H3 T, 1 ≤ n → n ≤ m → Ex p H2 H3 → H3 T = none → Q (.ref T) (upd H3 T (.tup [.str z, .int n]))) → ∃ a b c, H2 p = some (potO a b c) ∧ ∀ r a' b' c', 0 ≤ r → r < m → ∀ T, upd H2 p (potO a' b' c') T = none → Q (.ref T) (upd (upd H2 p (potO a' b' c')) T (.tup [.str z, .int (1 + r)])) := fun {H2 z Q} hp2 hq => by
      obtain ⟨a, b, c, e⟩ := hp2
      exact ⟨a, b, c, e, fun r a' b' c' r0 r1 T hT => hq (1 + r) _ T (by omega) (by omega) Ex.turn hT⟩
    -- puts
    refine ⟨_, rfl, l, rfl, ⟨_, hl⟩, fun D hD => ?_⟩
    refine lc_draws (W := m) hl nlp nd (by omega) hp hD (fun _ _ => rfl) (fun z hz H2 ex2 Q q => ?_) (fun H2 ts g ex2 hD2 gb pr => ?_)
    · obtain ⟨a, b, c, e, go⟩ := tossing ex2.pot q
      exact ⟨_, rfl, _, rfl, _, rfl, p, m, a, b, c, rfl, e, by omega, by omega, fun r a' b' c' r0 r1 => ⟨_, _, rfl, rfl, two, fun T hT => go r a' b' c' r0 r1 T hT⟩⟩
    refine ⟨D, ts, _, rfl, SqL.of hD2, pr, fun GA hGA => ?_⟩
    rw [show mergeK [] (dkF zs g) = dkF zs g from mergeK_nodup (more := dkF zs g) [] (dkF_nodup nd g)]
    have ex3 : Ex p H (upd H2 GA (.dK (dkF zs g))) := ex2.new hGA
    have hG3 : upd H2 GA (.dK (dkF zs g)) GA = some (.dK (dkF zs g)) := upd_same
    have fGA : H GA = none := ex2.free hp hGA
    generalize upd H2 GA (.dK (dkF zs g)) = H3 at ex3 hG3 ⊢
    clear ex2 hD2 pr hD
    -- outs
    refine ⟨_, rfl, l, rfl, ⟨_, ex3.seqL hl nlp⟩, fun D hD => ?_⟩
    refine lc_draws (W := m) (ex3.seqL hl nlp) nlp nd (by omega) ex3.pot hD (fun _ _ => rfl) (fun z hz H2 ex2 Q q => ?_) (fun H4 ts o ex4 hD2 ob pr => ?_)
    · obtain ⟨a, b, c, e, go⟩ := tossing ex2.pot q
      exact ⟨_, rfl, _, rfl, _, rfl, p, m, a, b, c, rfl, e, by omega, by omega, fun r a' b' c' r0 r1 => ⟨_, _, rfl, rfl, two, fun T hT => go r a' b' c' r0 r1 T hT⟩⟩
    refine ⟨D, ts, _, rfl, SqL.of hD2, pr, fun GB hGB => ?_⟩
    rw [show mergeK [] (dkF zs o) = dkF zs o from mergeK_nodup (more := dkF zs o) [] (dkF_nodup nd o)]
    have nGp : GA ≠ p := by obtain ⟨_, _, _, e⟩ := hp; exact (ne_of_none e fGA).symm
    have hG4 := ex4.keep _ _ nGp hG3
    have nAB : GA ≠ GB := ne_of_none hG4 hGB
    have ex5 : Ex p H (upd H4 GB (.dK (dkF zs o))) := (ex3.trans ex4).new hGB
    have hG5 : upd H4 GB (.dK (dkF zs o)) GA = some (.dK (dkF zs g)) := by rw [upd_ne nAB]; exact hG4
    have hB5 : upd H4 GB (.dK (dkF zs o)) GB = some (.dK (dkF zs o)) := upd_same
    have fGB : H GB = none := (ex3.trans ex4).free hp hGB
    have nBp : GB ≠ p := by obtain ⟨_, _, _, e⟩ := hp; exact (ne_of_none e fGB).symm
    generalize upd H4 GB (.dK (dkF zs o)) = H5 at ex5 hG5 hB5 ⊢
    clear ex4 hD2 pr hD hG4
    -- swaps
    refine fun S hS => ?_
    have fS : H S = none := ex5.free hp hS
    have nSp : S ≠ p := by obtain ⟨_, _, _, e⟩ := hp; exact (ne_of_none e fS).symm
    have ex6 : Ex p H (upd H5 S (.dT [])) := ex5.new hS
    have f6 := same_new (o := .dT []) hS
    have hS6 : upd H5 S (.dT []) S = some (.dT (dtF [])) := upd_same
    have hG6 := f6 _ _ hG5
    have hB6 := f6 _ _ hB5
    have nGS : GA ≠ S := ne_of_none hG5 hS
    have nBS : GB ≠ S := ne_of_none hB5 hS
    generalize upd H5 S (.dT []) = H6 at ex6 hS6 hG6 hB6 ⊢
    clear f6
    have lz : (strsV zs).length = zs.length := by simp [strsV]
    have keepS : ∀ {ps : List ((Str × Str) × Int)} {i j : Nat}, SubP zs i j ps → (dtF ps).length < sizeLine := fun S => by
      have := S.len
      have : zs.length * zs.length ≤ 5 * 5 := Nat.mul_le_mul l5 l5
      simp [dtF]
      omega
    refine ⟨_, rfl, l, rfl, ⟨_, ex6.seqL hl nlp⟩, for_it walk_list (fun i σ H' => (∃ o7 o8, σ = [some (.ref p), some (.ref l), some (.int m), some (.ref GA), none, some (.ref GB), some (.ref S), o7, o8]) ∧ Ex p H H' ∧ H' GA = some (.dK (dkF zs g)) ∧ H' GB = some (.dK (dkF zs o)) ∧ ∃ ps, H' S = some (.dT (dtF ps)) ∧ SubP zs i 0 ps) ⟨⟨_, _, rfl⟩, ex6, hG6, hB6, [], hS6, by simp, by simp⟩ (fun i σ H' _ e => e.2.1.seqL hl nlp) (fun i y σ Ha Hb hi e hy => ?_) (fun σ H7 e => ?_)⟩
    · obtain ⟨rfl, hy⟩ := hy
      obtain ⟨⟨o7, o8, rfl⟩, exa, hGa, hBa, ps, hSa, SP⟩ := e
      have hy' : (zs.map V.str)[i]? = some y := hy
      rw [List.getElem?_map] at hy'
      obtain ⟨x, hx, rfl⟩ := Option.map_eq_some_iff.mp hy'
      refine ⟨_, rfl, l, rfl, ⟨_, exa.seqL hl nlp⟩, for_it walk_list (fun j σ H' => (∃ o8, σ = [some (.ref p), some (.ref l), some (.int m), some (.ref GA), none, some (.ref GB), some (.ref S), some (.str x), o8]) ∧ Ex p H H' ∧ H' GA = some (.dK (dkF zs g)) ∧ H' GB = some (.dK (dkF zs o)) ∧ ∃ ps, H' S = some (.dT (dtF ps)) ∧ SubP zs i j ps) ⟨⟨_, rfl⟩, exa, hGa, hBa, ps, hSa, SP⟩ (fun i σ H' _ e => e.2.1.seqL hl nlp) (fun j y σ Ha Hc hj e hy => ?_) (fun σ H8 e => ?_)⟩
      · obtain ⟨rfl, hy⟩ := hy
        clear exa hGa hBa hSa SP
        obtain ⟨⟨o8, rfl⟩, exa, hGa, hBa, ps, hSa, SP⟩ := e
        have hy2 : (zs.map V.str)[j]? = some y := hy
        rw [List.getElem?_map] at hy2
        obtain ⟨y, hy3, rfl⟩ := Option.map_eq_some_iff.mp hy2
        refine ⟨_, rfl, _, rfl, rfl, _, rfl, ?_⟩
        by_cases ne : x = y
        · rw [show (!decide (V.str x = V.str y)) = false by simp [ne]]
          exact iteF (iteF ⟨⟨_, rfl⟩, exa, hGa, hBa, ps, hSa, SP.next⟩)
        · rw [show (!decide (V.str x = V.str y)) = true by simp [ne]]
          obtain ⟨a, b, c, ep⟩ := exa.pot
          refine iteT ⟨_, rfl, p, 2, a, b, c, rfl, ep, by decide, by decide, fun r a' b' c' r0 r1 => ⟨rfl, _, rfl, ?_⟩⟩
          have exb := exa.trans (Ex.turn (p := p) (H := Hc) (a := a') (b := b') (c := c'))
          have hGb : upd Hc p (potO a' b' c') GA = some (.dK (dkF zs g)) := by rw [upd_ne nGp]; exact hGa
          have hBb : upd Hc p (potO a' b' c') GB = some (.dK (dkF zs o)) := by rw [upd_ne nBp]; exact hBa
          have hSb : upd Hc p (potO a' b' c') S = some (.dT (dtF ps)) := by rw [upd_ne nSp]; exact hSa
          generalize upd Hc p (potO a' b' c') = Hd at exb hGb hBb hSb ⊢
          refine ite2 (fun _ => ?_) (fun _ => ⟨⟨_, rfl⟩, exb, hGb, hBb, ps, hSb, SP.next⟩)
          obtain ⟨a2, b2, c2, ep2⟩ := exb.pot
          refine ⟨_, rfl, _, rfl, _, _, rfl, rfl, p, m + 2, a2, b2, c2, rfl, ep2, by omega, by omega, fun r2 a3 b3 c3 r20 r21 => ⟨_, _, rfl, rfl, ?_⟩⟩
          have exd := exb.trans (Ex.turn (p := p) (H := Hd) (a := a3) (b := b3) (c := c3))
          have hGd : upd Hd p (potO a3 b3 c3) GA = some (.dK (dkF zs g)) := by rw [upd_ne nGp]; exact hGb
          have hBd : upd Hd p (potO a3 b3 c3) GB = some (.dK (dkF zs o)) := by rw [upd_ne nBp]; exact hBb
          have hSd : upd Hd p (potO a3 b3 c3) S = some (.dT (dtF ps)) := by rw [upd_ne nSp]; exact hSb
          generalize upd Hd p (potO a3 b3 c3) = Hf at exd hGd hBd hSd ⊢
          refine ⟨_, rfl, _, rfl, _, rfl, two, fun t ht => ?_⟩
          have f2 := same_new (o := .tup [.str x, .str y]) ht
          obtain ⟨SP2, nw⟩ := SP.new (n := 1 + r2) nd hx hy3 ne (by omega) (by omega)
          refine ⟨S, _, rfl, .inr ⟨_, [.inr x, .inr y], t, f2 _ _ hSd, rfl, upd_same, keepS SP, rfl⟩, ⟨_, rfl⟩, (exd.same f2).put fS nSp, ?_, ?_, ps ++ [((x, y), 1 + r2)], ?_, SP2⟩
          · rw [upd_ne nGS]; exact f2 _ _ hGd
          · rw [upd_ne nBS]; exact f2 _ _ hBd
          · rw [upd_same, dtF_new nw]
      · obtain ⟨⟨o8, rfl⟩, exb, hGb, hBb, ps, hSb, SP⟩ := e
        exact ⟨⟨_, _, rfl⟩, exb, hGb, hBb, ps, hSb, SP.row⟩
    · obtain ⟨⟨o7, o8, rfl⟩, exb, hGb, hBb, ps, hSb, SP⟩ := e
      refine ⟨_, rfl, _, rfl, _, rfl, three, fun t ht => ?_⟩
      have f2 := same_new (o := .lst [.ref GA, .ref GB, .ref S]) ht
      refine hQ t GA GB S g o ps _ ⟨ok.one, nd, ok.pos, l5, List.Perm.refl _, fun z hz => ⟨(gb z hz).1, by have := (gb z hz).2; omega⟩, fun z hz => ⟨(ob z hz).1, by have := (ob z hz).2; omega⟩, SP.nd, fun e he => (SP.ks e he).2, ?_⟩ nAB (exb.free hp ht) fGA fGB fS (exb.same f2) ⟨upd_same, f2 _ _ hGb, f2 _ _ hBb, f2 _ _ hSb⟩
      have := SP.len
      have : zs.length * zs.length ≤ 5 * 5 := Nat.mul_le_mul l5 l5
      omega
/-! ### _law_prices -/
def spPrices26 (Cp : Addr) : Sp := fun vs H Q _ => ∃ t A B S zs g o ps, vs = [.ref t] ∧ TblAt H t zs g o ps A B S ∧ A ≠ B ∧ PrN zs zs g o ps ∧
  ∀ x dx ys ys2 qs H', Same H H' → PrAt Cp H' x dx ys ys2 g o qs → PrN ys ys2 g o qs → ys.Perm zs → qs.Perm ps → Q (.ref x) H'
theorem sc_law_prices : FnScope ["_law_plain"] ["_law_plain"] (defScope (top 88)) := ⟨rfl, rfl, rfl, by decide +kernel, rfl, by decide +kernel, by decide +kernel⟩
theorem c_law_prices (A : At K mg "_law_prices" (top 88)) (B : Blt mg) (PC : PrC K mg Cp Cc) (c_are_prices : Cal P w K mg base 3 "are_prices" spAreP) : Cal P w K mg base 6 "_law_prices" (spPrices26 Cp) := by
  obtain ⟨fi, fdi, M, Fi⟩ := PC.ip
  refine cal_of A sc_law_prices (fun _ _ _ _ _ _ us hl => match us, hl with | [_], _ => rfl) (fun vs H Q E h => ?_) (fun _ cdv A outer s H vs Q E hr h => ?_)
  · obtain ⟨_, _, _, _, _, _, _, _, rfl, _⟩ := h; rfl
  · obtain ⟨t, TA, TB, TS, zs, g, o, ps, rfl, T, nAB, N, hQ⟩ := h
    refine ⟨_, pss_one (ps_ret (pe_makeKG M (f_pinit (P := P) (w := w) (mg := mg) (base := base) PC.sp Fi B c_are_prices) (hr.mono (by decide)) (by rfl) PC.gp (kb_pinit Fi) pass0
      (pk_cons (pe_ix ix_list (pv 0) pe_int (fun _ _ => rfl)) (pk_cons (pe_ix ix_list (pv 0) pe_int (fun _ _ => rfl)) (pk_cons (pe_ix ix_list (pv 0) pe_int (fun _ _ => rfl)) pk_nil))))), ?_⟩
    refine ⟨_, rfl, t, _, _, _, rfl, rfl, SqL.of T.t, rfl, _, rfl, t, _, _, _, rfl, rfl, SqL.of T.t, rfl, _, rfl, t, _, _, _, rfl, rfl, SqL.of T.t, rfl, rfl, rfl, fun y dy hy hdy n => ?_⟩
    have nx : ∀ b u, H b = some u → b ≠ y ∧ b ≠ dy := fun b u e => ⟨ne_of_none e hy, ne_of_none e hdy⟩
    have up : ∀ b u, H b = some u → upd (upd H dy (.own y)) y (.ins Cp dy []) b = some u := fun b u e => by
      rw [upd_ne (nx b u e).1, upd_ne (nx b u e).2]; exact e
    refine ⟨y, dy, TA, TB, TS, zs, zs, g, o, ps, rfl, upd_same, by rw [upd_ne n, upd_same], n, up _ _ T.a, up _ _ T.b, up _ _ T.s, nAB, N, fun H6 ys ys2 qs k2 hP2 N2 pm _ pq => ⟨rfl, hQ y dy ys ys2 qs H6 (fun b u z => ?_) hP2 N2 pm pq⟩⟩
    exact k2 b u (nx _ _ z).1 (nx _ _ z).2 (up _ _ z)
/-! ### _law_word -/
def spWord26 (K : PySem.W.Frag) : Sp := fun vs H Q _ => ∃ p l m zs, vs = [.ref p, .ref l, .int m] ∧ Pot H p ∧ l ≠ p ∧ SqL K H l (strsV zs) ∧ SgnOk zs ∧ 0 ≤ m ∧ m ≤ 100 ∧ ∀ u H', (∀ c ∈ u, c ∈ codesOf zs) → (u.length : Int) ≤ m → Ex p H H' → Q (.str (wS u)) H'
abbrev N_law_word26 : List Str := ["_law_urn_here", "_law_signs", "_law_most", "_law_turn"]
theorem sc_law_word26 : FnScope N_law_word26 ["_law_urn_here", "_law_signs", "_law_most"] (defScope (top 91)) := ⟨rfl, rfl, rfl, by decide +kernel, rfl, by decide +kernel, by decide +kernel⟩
theorem wS_of {z : Str} {u : List Nat} (h : z.cps.toList = u) : z = wS u := by
  subst h
  cases z
  simp [wS]
theorem c_law_word26 (A : At K mg "_law_word" (top 91)) (B : Blt mg) (c_law_pull : Cal P w K mg base 1 "_law_pull" spDip) (c_law_from : Cal P w K mg base 2 "_law_from" (spFrom K)) : Cal P w K mg base 3 "_law_word" (spWord26 K) := by
  refine cal_of A sc_law_word26 (fun _ _ _ _ _ _ us hl => match us, hl with | [_, _, _], _ => rfl) (fun vs H Q E h => ?_) (fun _ cdv A outer s H vs Q E hr h => ?_)
  · obtain ⟨_, _, _, _, rfl, _⟩ := h; rfl
  · obtain ⟨p, l, n, zs, rfl, ⟨a, b, c, hp⟩, nlp, hl, ok, h0, h1, hQ⟩ := h
    refine ⟨_, (pss_one (ps_ret (pe_join pe_str (pe_lc (own := [("_law_turn", 3)]) (g := gName 3) (tt := tYes) (by rfl) sc_law_word26.nd (pi_range1 (by rfl) B.range (pa_cons (pe_c c_law_pull hr (by decide) (by rfl) (pa_cons (pv 0) (pa_cons (pe_op op_add (pv 2) pe_int) pa_nil))) pa_nil))
      (blkOk_by (own := [("_law_turn", 3)]) (N := N_law_word26) (sc := defScope (top 91)) (by decide +kernel)) (fun _ _ _ _ _ => (pg_name (i := 3) sc_law_word26.nd rfl (Or.inl rfl))) (fun _ _ _ _ _ => pts_nil)
      (fun _ _ _ _ _ => (pe_c c_law_from hr (by decide) (by rfl) (pa_cons (pv 0) (pa_cons (pv 1) pa_nil)))))))), ?_⟩
    refine ⟨⟨_, rfl⟩, _, rfl, _, rfl, _, _, rfl, rfl, p, _, a, b, c, rfl, hp, by omega, by omega, fun r a1 b1 c1 r0 r1 => ?_⟩
    refine ⟨_, rfl, by omega, by omega, fun D hD => ?_⟩
    have hDp : D ≠ p := fun z => by rw [z, upd_same] at hD; cases hD
    have hD0 : H D = none := by rw [upd_ne hDp] at hD; exact hD
    have lz : (strsV zs).length = zs.length := by simp [strsV]
    have zpos := ok.pos
    have zle := ok.le
    refine lc_it (walk_range (lo := 0)) (fun i H' => Ex p H H' ∧ ∃ cs : List Nat, cs.length = i ∧ (∀ c ∈ cs, c ∈ codesOf zs) ∧ H' D = some (.lst (cs.map fun c => V.str (sgS c)))) ?_ (fun _ _ _ _ => trivial) (fun i x H1 H2 hi e y => ?_) (fun H1 e => ?_)
    · exact ⟨Ex.turn.new hD, [], rfl, (fun _ q => (nomatch q)), upd_same⟩
    · obtain ⟨rfl, rfl⟩ := y
      obtain ⟨ex, cs, hl', hw, hD1⟩ := e
      refine ⟨rfl, yes_q (iteT ?_)⟩
      refine ⟨_, rfl, _, rfl, p, l, _, rfl, ex.pot, nlp, ex.seqL hl nlp, by omega, by omega, fun v a' b' c' hv => ?_⟩
      obtain ⟨z, hz, rfl⟩ := List.mem_map.mp (show v ∈ zs.map V.str from hv)
      have zc : sgS (codeOf z) = z := nS_code (ok.one z hz)
      refine ⟨_, by rw [upd_ne hDp]; exact hD1, ?_, ?_⟩
      · rw [List.length_map]
        have : 1001 < sizeLine := by decide
        have hi' : (i : Int) < r := by omega
        omega
      · refine ⟨(ex.trans Ex.turn).put hD0 hDp, cs ++ [codeOf z], by simp [hl'], fun c hc => ?_, by rw [upd_same]; simp [zc]⟩
        rcases List.mem_append.mp hc with hc | hc
        · exact hw c hc
        · rw [List.mem_singleton.mp hc]
          exact code_mem ok.one hz
    · obtain ⟨ex, cs, hl', hw, hD1⟩ := e
      have hle : cs.length ≤ 1000 := by omega
      refine ⟨_, D, cs.map fun c => (⟨#[c]⟩ : Str), rfl, rfl, .inl (SqL.of (by rw [hD1, List.map_map]; rfl)), ?_, ?_⟩
      · have e1 : ((cs.map fun c => (⟨#[c]⟩ : Str)).map (·.length)).sum = cs.length := by
          clear hw hD1 hl' hle
          induction cs with
          | nil => rfl
          | cons c cs ih => simp [List.sum_cons, Str.length] at ih ⊢; omega
        rw [e1, List.length_map]
        show cs.length + cs.length * 0 ≤ 16777216
        omega
      · have e := wS_of (join_signs cs)
        show Q (.str (Txt.join "" (cs.map fun c => (⟨#[c]⟩ : Str)))) H1
        rw [e]
        exact hQ cs H1 hw (by omega) ex
end
end MN
/-! the laws k25 .. k34: a table of closed prices, distances by it -/
namespace MN
open PySem PySem.Spec PyProof.Rows L2
/-- a dict of closed prices -/
def TabC (H : Hp) (T : Addr) (L : List Nat) (c : Nd → Nd → Int) : Prop := ∃ kvs, H T = some (.dT kvs) ∧ ∀ x y, InL L x → InL L y → x ≠ y → valV kvs (kN x y) = some (.int (c x y))
theorem TabC.same {H H' : Hp} {T : Addr} {L : List Nat} {c : Nd → Nd → Int} (h : TabC H T L c) (e : Same H H') : TabC H' T L c := by
  obtain ⟨kvs, h1, h2⟩ := h
  exact ⟨kvs, e _ _ h1, h2⟩
section
variable {P : Program} {w : World} {K : PySem.W.Frag} {mg : Str → Option Value} {base : Heap}
def spPrice26 : Sp := fun vs H Q _ => ∃ T L c a b, vs = [.ref T, .str (sgS a), .str (sgS b)] ∧ TabC H T L c ∧ a ∈ L ∧ b ∈ L ∧ (∀ x, c x x = 0) ∧ ∀ H', Same H H' → Q (.int (c (some a) (some b))) H'
theorem sc_law_price26 : FnScope ["_law_table", "_law_one", "_law_other"] ["_law_table", "_law_one", "_law_other"] (defScope (top 90)) := ⟨rfl, rfl, rfl, by decide +kernel, rfl, by decide +kernel, by decide +kernel⟩
theorem c_law_price26 (A : At K mg "_law_price" (top 90)) : Cal P w K mg base 1 "_law_price" spPrice26 := by
  refine cal_of A sc_law_price26 (fun _ _ _ _ _ _ us hl => match us, hl with | [_, _, _], _ => rfl) (fun vs H Q E h => ?_) (fun _ cdv A outer s H vs Q E hr h => ?_)
  · obtain ⟨_, _, _, _, _, rfl, _⟩ := h; rfl
  · obtain ⟨T, L, c, a, b, rfl, ⟨kvs, hT, hv⟩, ha, hb, cz, hQ⟩ := h
    refine ⟨_, (pss_one (ps_ret (pe_ifExp (pt_cmpR op_eq (pv 1) (pv 2) (nomark _)) pe_int (pe_dget (hu_of hr) (pv 0) (pe_tup (pa_cons (pv 1) (pa_cons (pv 2) pa_nil))) (fun _ _ => rfl))))), ?_⟩
    refine ⟨_, rfl, _, rfl, rfl, _, rfl, ?_⟩
    by_cases n : a = b
    · subst n
      rw [decide_eq_true rfl]
      have := hQ H (Same.refl _)
      rw [cz] at this
      exact iteT this
    · have ne : sgS a ≠ sgS b := fun e => n (Option.some.inj (nS_inj (x := some a) (y := some b) e))
      rw [show decide (V.str (sgS a) = V.str (sgS b)) = false by simp [ne]]
      refine iteF ⟨_, rfl, _, rfl, _, rfl, (show 2 ≤ sizeLine by decide), fun t ht => ?_⟩
      have f2 := same_new (o := .tup [.str (sgS a), .str (sgS b)]) ht
      exact ⟨T, .int (c (some a) (some b)), rfl, .inr ⟨kvs, kN (some a) (some b), t, .inl (f2 _ _ hT), rfl, upd_same, (hv _ _ (InL.of ha) (InL.of hb) fun e => n (Option.some.inj e)).symm⟩, hQ _ f2⟩
/-! ### _law_distance -/
def spDist26 : Sp := fun vs H Q _ => ∃ T L c u v, vs = [.ref T, .str (wS u), .str (wS v)] ∧ TabC H T L c ∧ (∀ l ∈ u, l ∈ L) ∧ (∀ l ∈ v, l ∈ L) ∧ (∀ x, c x x = 0) ∧ u.length ≤ 200 ∧ v.length ≤ 200 ∧ ∀ H', Same H H' → Q (.int (Dc c u.reverse v.reverse)) H'
abbrev N_law_distance : List Str := ["_law_table", "_law_one", "_law_other", "_law_rows", "_law_sign", "_law_left", "_law_row", "_law_at", "_law_right_here", "_law_both"]
theorem sc_law_distance : FnScope N_law_distance ["_law_table", "_law_one", "_law_other"] (defScope (top 92)) := ⟨rfl, rfl, rfl, by decide +kernel, rfl, by decide +kernel, by decide +kernel⟩
theorem c_law_distance (A : At K mg "_law_distance" (top 92)) (B : Blt mg) (c_law_price : Cal P w K mg base 1 "_law_price" spPrice26) : Cal P w K mg base 2 "_law_distance" spDist26 := by
  refine cal_of A sc_law_distance (fun _ _ _ _ _ _ us hl => match us, hl with | [_, _, _], _ => rfl) (fun vs H Q E h => ?_) (fun _ cdv A outer s H vs Q E hr h => ?_)
  · obtain ⟨_, _, _, _, _, rfl, _⟩ := h; rfl
  · obtain ⟨T, L, c, u, v, rfl, hTC, hu, hv, cz, lu, lv, hQ⟩ := h
    refine ⟨_, (pss_cons (ps_set (i := 3) sc_law_distance.nd rfl (Or.inl rfl) (pe_lst (pa_cons (pe_lst (pa_cons pe_int pa_nil)) pa_nil)))
      (pss_cons (ps_for PassesOwn.never rfl (pi_str (pv 2)) (pg_name (i := 4) sc_law_distance.nd rfl (Or.inl rfl))
        (pss_one (ps_expr (pe_append K rfl (pe_ix ix_list (pv 3) pe_int (fun _ _ => rfl)) (pe_op op_add (pe_ix ix_list (pe_ix ix_list (pv 3) pe_int (fun _ _ => rfl)) (pe_un un_neg pe_int) (fun _ _ => rfl)) (pe_dget (hu_of hr) (pv 0) (pe_tup (pa_cons pe_str (pa_cons (pv 4) pa_nil))) (fun _ _ => rfl)))))))
      (pss_cons (ps_for PassesOwn.never rfl (pi_str (pv 1)) (pg_name (i := 5) sc_law_distance.nd rfl (Or.inl rfl))
        (pss_cons (ps_set (i := 6) sc_law_distance.nd rfl (Or.inl rfl) (pe_lst (pa_cons (pe_op op_add (pe_ix ix_list (pe_ix ix_list (pv 3) (pe_un un_neg pe_int) (fun _ _ => rfl)) pe_int (fun _ _ => rfl)) (pe_dget (hu_of hr) (pv 0) (pe_tup (pa_cons (pv 5) (pa_cons pe_str pa_nil))) (fun _ _ => rfl))) pa_nil)))
        (pss_cons (ps_for PassesOwn.never rfl (pi_enumS (by rfl) B.enumerate (pa_cons (pv 2) pa_nil)) (pg_tup rfl (pgs_cons (pg_name (i := 7) sc_law_distance.nd rfl (Or.inl rfl)) (pgs_cons (pg_name (i := 8) sc_law_distance.nd rfl (Or.inl rfl)) pgs_nil)))
          (pss_cons (ps_set (i := 9) sc_law_distance.nd rfl (Or.inl rfl) (pe_op op_add (pe_ix ix_list (pe_ix ix_list (pv 3) (pe_un un_neg pe_int) (fun _ _ => rfl)) (pv 7) (fun _ _ => rfl)) (pe_c c_law_price hr (by decide) (by rfl) (pa_cons (pv 0) (pa_cons (pv 5) (pa_cons (pv 8) pa_nil))))))
          (pss_one (ps_expr (pe_append K rfl (pv 6) (pe_callB (call_min3 rfl) (by rfl) B.min (by decide +kernel) (pa_cons (pv 9) (pa_cons (pe_op op_add (pe_ix ix_list (pe_ix ix_list (pv 3) (pe_un un_neg pe_int) (fun _ _ => rfl)) (pe_op op_add (pv 7) pe_int) (fun _ _ => rfl)) (pe_dget (hu_of hr) (pv 0) (pe_tup (pa_cons (pv 5) (pa_cons pe_str pa_nil))) (fun _ _ => rfl))) (pa_cons (pe_op op_add (pe_ix ix_list (pv 6) (pv 7) (fun _ _ => rfl)) (pe_dget (hu_of hr) (pv 0) (pe_tup (pa_cons pe_str (pa_cons (pv 8) pa_nil))) (fun _ _ => rfl))) pa_nil)))))))))
        (pss_one (ps_expr (pe_append K rfl (pv 3) (pv 6)))))))
      (pss_one (ps_ret (pe_ix ix_list (pe_ix ix_list (pv 3) (pe_un un_neg pe_int) (fun _ _ => rfl)) (pe_un un_neg pe_int) (fun _ _ => rfl))))))), ?_⟩
    obtain ⟨kvs, hT, hval⟩ := id hTC
    have one : 1 ≤ sizeLine := by decide
    have two : 2 ≤ sizeLine := by decide
    have big : 100000 < sizeLine := by decide
    have sz : ∀ z : List Nat, (wS z).cps.size = z.length := fun z => by simp [wS]
    have vP : ∀ l, l ∈ L → valV kvs (kN none (some l)) = some (.int (c none (some l))) := fun l hl => hval _ _ InL.no (InL.of hl) (fun e => nomatch e)
    have vO : ∀ l, l ∈ L → valV kvs (kN (some l) none) = some (.int (c (some l) none)) := fun l hl => hval _ _ (InL.of hl) InL.no (fun e => nomatch e)
    refine ⟨one, fun R hR => ⟨one, fun O hO => ?_⟩⟩
    have nRO : R ≠ O := ne_of_none upd_same hO
    have e1 := (same_new (o := .lst [.int 0]) hR).trans (same_new (o := .lst [.ref R]) hO)
    have apR : ∀ b o, H b = some o → b ≠ R := fun b o h => ne_of_none h hR
    have apO : ∀ b o, H b = some o → b ≠ O := fun b o h z => by
      have := same_new (o := .lst [.int 0]) hR b o h
      rw [z, hO] at this; cases this
    have hR1 : upd (upd H R (.lst [.int 0])) O (.lst [.ref R]) R = some (.lst (rowV c [] v 1)) := by
      rw [upd_ne nRO, upd_same]
      show _ = some (HO.lst [.int (Dc c [] (v.take 0).reverse)])
      rw [List.take_zero, List.reverse_nil]
      simp only [Dc]
    have hO1 : upd (upd H R (.lst [.int 0])) O (.lst [.ref R]) O = some (.lst [.ref R]) := upd_same
    generalize upd (upd H R (.lst [.int 0])) O (.lst [.ref R]) = H1 at e1 hR1 hO1 ⊢
    refine ⟨_, rfl, wS v, rfl, for_it walk_str (fun j σ H' => (∃ o4, σ = [some (.ref T), some (.str (wS u)), some (.str (wS v)), some (.ref O), o4, none, none, none, none, none]) ∧ Same H H' ∧ H' O = some (.lst [.ref R]) ∧ H' R = some (.lst (rowV c [] v (j + 1)))) ⟨⟨_, rfl⟩, e1, hO1, hR1⟩ (fun _ _ _ _ _ => trivial) (fun j y σ Ha Hb hj e hy => ?_) (fun σ H2 e => ?_)⟩
    · obtain ⟨rfl, l, hl, rfl⟩ := hy
      obtain ⟨⟨o4, rfl⟩, ea, hOa, hRa⟩ := e
      have hl' : v[j]? = some l := by simpa [wS] using hl
      have lj : j < v.length := (List.getElem?_eq_some_iff.mp hl').1
      have ml : l ∈ L := hv l (List.mem_of_getElem? hl')
      refine ⟨_, rfl, O, _, 0, _, rfl, rfl, SqL.of hOa, rfl, .inl ⟨rfl, _, SqL.of hRa⟩, _, rfl, O, _, 0, _, rfl, rfl, SqL.of hOa, rfl, _, rfl, R, _, _, _, rfl, rfl, SqL.of hRa, by rw [rowV_succ]; exact atI_last _ _, _, rfl, _, rfl, two, fun t ht => ?_⟩
      have f2 := same_new (o := .tup [.str "", .str (sgS l)]) ht
      refine ⟨T, .int (c none (some l)), rfl, .inr ⟨kvs, kN none (some l), t, .inl (f2 _ _ (ea _ _ hT)), rfl, upd_same, (vP l ml).symm⟩, _, _, rfl, rfl, R, _, _, rfl, rfl, f2 _ _ hRa, by rw [rowV_len]; omega, ⟨_, rfl⟩, fun b o z => ?_, ?_, ?_⟩
      · rw [upd_ne (apR b o z)]; exact f2 _ _ (ea _ _ z)
      · rw [upd_ne nRO.symm]; exact f2 _ _ hOa
      · rw [upd_same, rowV_succ (n := j + 1), take_rev hl']
        simp only [Dc]
    obtain ⟨⟨o4, rfl⟩, e2, hO2, hR2⟩ := e
    rw [sz] at hR2
    refine ⟨_, rfl, wS u, rfl, for_it walk_str (fun i σ H' => (∃ o5 o6 o7 o8 o9, σ = [some (.ref T), some (.str (wS u)), some (.str (wS v)), some (.ref O), o4, o5, o6, o7, o8, o9]) ∧ Same H H' ∧ ∃ rs r, rs.length = i ∧ r ≠ O ∧ H' O = some (.lst (rs ++ [.ref r])) ∧ H' r = some (.lst (rowV c (u.take i).reverse v (v.length + 1)))) ⟨⟨_, _, _, _, _, rfl⟩, e2, [], R, rfl, nRO, hO2, by rw [List.take_zero]; exact hR2⟩ (fun _ _ _ _ _ => trivial) (fun i y σ Ha Hb hi e hy => ?_) (fun σ H4 e => ?_)⟩
    · obtain ⟨rfl, l, hl, rfl⟩ := hy
      obtain ⟨⟨o5, o6, o7, o8, o9, rfl⟩, ea, rs, r, lr, nr, hOa, hra⟩ := e
      have hl' : u[i]? = some l := by simpa [wS] using hl
      have li : i < u.length := (List.getElem?_eq_some_iff.mp hl').1
      have ml : l ∈ L := hu l (List.mem_of_getElem? hl')
      refine ⟨_, rfl, _, rfl, O, _, _, _, rfl, rfl, SqL.of hOa, atI_last _ _, r, _, 0, _, rfl, rfl, SqL.of hra, atI_nat (rowV_get (Nat.succ_pos _)), _, rfl, _, rfl, two, fun t ht => ?_⟩
      have f2 := same_new (o := .tup [.str (sgS l), .str ""]) ht
      refine ⟨T, .int (c (some l) none), rfl, .inr ⟨kvs, kN (some l) none, t, .inl (f2 _ _ (ea _ _ hT)), rfl, upd_same, (vO l ml).symm⟩, _, _, rfl, rfl, one, fun W hW => ?_⟩
      have f3 := f2.trans (same_new (o := .lst [.int (Dc c (u.take i).reverse (v.take 0).reverse + c (some l) none)]) hW)
      have hW1 : upd (upd Hb t (.tup [.str (sgS l), .str ""])) W (.lst [.int (Dc c (u.take i).reverse (v.take 0).reverse + c (some l) none)]) W = some (.lst (rowV c (l :: (u.take i).reverse) v 1)) := by
        rw [upd_same]
        show _ = some (HO.lst [.int (Dc c (l :: (u.take i).reverse) (v.take 0).reverse)])
        rw [List.take_zero, List.reverse_nil]
        simp only [Dc]
      have apW : ∀ b o, Hb b = some o → b ≠ W := fun b o h => ne_of_none (f2 _ _ h) hW
      refine ⟨_, rfl, wS v, rfl, for_it walk_enumS (fun j σ H' => (∃ o7 o8 o9, σ = [some (.ref T), some (.str (wS u)), some (.str (wS v)), some (.ref O), o4, some (.str (sgS l)), some (.ref W), o7, o8, o9]) ∧ But W Hb H' ∧ H' W = some (.lst (rowV c (l :: (u.take i).reverse) v (j + 1)))) ⟨⟨_, _, _, rfl⟩, But.refl.same f3, hW1⟩ (fun _ _ _ _ _ => trivial) (fun j y σ Hd He hj e hy => ?_) (fun σ H5 e => ?_)⟩
      · obtain ⟨T2, x, hx, rfl, hT2, rfl⟩ := hy
        obtain ⟨⟨o7, o8, o9, rfl⟩, eb, hWd⟩ := e
        have hx' : v[j]? = some x := by simpa [wS] using hx
        have lj : j < v.length := (List.getElem?_eq_some_iff.mp hx').1
        have mx : x ∈ L := hv x (List.mem_of_getElem? hx')
        have g1 := same_new (o := .tup [.int (j : Nat), .str (sgS x)]) hT2
        have ec := eb.same g1
        have hWe := g1 _ _ hWd
        refine ⟨T2, _, rfl, .inl (.inl upd_same), rfl, _, _, rfl, _, _, rfl, rfl, ?_⟩
        show (tAsg _ _ : TS) _ _ (upd Hd T2 (.tup [.int (j : Nat), .str (sgS x)]))
        generalize upd Hd T2 (.tup [.int (j : Nat), .str (sgS x)]) = Hf at ec hWe ⊢
        have hOf := ec _ _ (apW _ _ hOa) hOa
        have hrf := ec _ _ (apW _ _ hra) hra
        have up : Same H Hf := fun b o z => ec b o (apW _ _ (ea _ _ z)) (ea _ _ z)
        refine ⟨_, rfl, _, rfl, O, _, _, _, rfl, rfl, SqL.of hOf, atI_last _ _, _, rfl, r, _, _, _, rfl, rfl, SqL.of hrf, atI_nat (rowV_get (by omega)), _, rfl, _, rfl, _, rfl, T, L, c, l, x, rfl, hTC.same up, ml, mx, cz, fun Hg eg => ⟨_, _, rfl, rfl, ?_⟩⟩
        have hOg := eg _ _ hOf
        have hrg := eg _ _ hrf
        have hWg := eg _ _ hWe
        have ug := up.trans eg
        have bg := ec.same eg
        have at1 : atI (rowV c (u.take i).reverse v (v.length + 1)) ((j : Int) + 1) = some (.int (Dc c (u.take i).reverse (v.take (j + 1)).reverse)) := atI_nat (j := j + 1) (rowV_get (by omega))
        refine ⟨_, rfl, .inl ⟨rfl, _, SqL.of hWg⟩, _, rfl, _, rfl, _, rfl, O, _, _, _, rfl, rfl, SqL.of hOg, atI_last _ _, _, rfl, _, _, rfl, rfl, r, _, _, _, rfl, rfl, SqL.of hrg, at1, _, rfl, _, rfl, two, fun t3 ht3 => ?_⟩
        have f4 := same_new (o := .tup [.str (sgS l), .str ""]) ht3
        refine ⟨T, .int (c (some l) none), rfl, .inr ⟨kvs, kN (some l) none, t3, .inl (f4 _ _ (ug _ _ hT)), rfl, upd_same, (vO l ml).symm⟩, _, _, rfl, rfl, ?_⟩
        have hWh := f4 _ _ hWg
        have uh := ug.trans f4
        have bh := bg.same f4
        generalize upd Hg t3 (.tup [.str (sgS l), .str ""]) = Hh at hWh uh bh ⊢
        refine ⟨_, rfl, _, rfl, W, _, _, _, rfl, rfl, SqL.of hWh, atI_nat (rowV_get (Nat.lt_succ_self _)), _, rfl, _, rfl, two, fun t4 ht4 => ?_⟩
        have f5 := same_new (o := .tup [.str "", .str (sgS x)]) ht4
        refine ⟨T, .int (c none (some x)), rfl, .inr ⟨kvs, kN none (some x), t4, .inl (f5 _ _ (uh _ _ hT)), rfl, upd_same, (vP x mx).symm⟩, _, _, rfl, rfl, ?_⟩
        refine ⟨_, _, _, rfl, W, _, _, rfl, rfl, f5 _ _ hWh, by rw [rowV_len]; omega, ⟨_, _, _, rfl⟩, (bh.same f5).put, ?_⟩
        rw [upd_same, rowV_succ (n := j + 1), take_rev hx']
        simp only [Dc]
      · obtain ⟨⟨o7, o8, o9, rfl⟩, eb, hWd⟩ := e
        rw [sz] at hWd
        have hOd := eb _ _ (apW _ _ hOa) hOa
        have nWO : W ≠ O := (apW _ _ hOa).symm
        refine ⟨_, rfl, .inl ⟨rfl, _, SqL.of hOd⟩, _, rfl, O, _, _, rfl, rfl, hOd, by rw [List.length_append, lr]; simp; omega, ⟨_, _, _, _, _, rfl⟩, fun b o z => ?_, rs ++ [.ref r], W, by rw [List.length_append, lr]; rfl, nWO, upd_same, ?_⟩
        · rw [upd_ne (apO b o z)]; exact eb _ _ (apW _ _ (ea _ _ z)) (ea _ _ z)
        · rw [upd_ne nWO, hWd, take_rev hl']
    · obtain ⟨⟨o5, o6, o7, o8, o9, rfl⟩, ea, rs, r, lr, nr, hOa, hra⟩ := e
      rw [sz, List.take_length] at hra
      refine ⟨_, rfl, _, rfl, O, _, _, _, rfl, rfl, SqL.of hOa, atI_last _ _, _, rfl, r, _, _, _, rfl, rfl, SqL.of hra, by rw [rowV_succ]; exact atI_last _ _, ?_⟩
      rw [List.take_length]
      exact hQ H4 ea
end
end MN
/-! plain law: closed prices exist; rounds -/
namespace MN
open PySem PySem.Spec PyProof.Rows L2
theorem clo_exists {zs zs2 : List Str} {g o : Str → Int} {ps : List ((Str × Str) × Int)} (N : PrN zs zs2 g o ps) : ∃ c, Clo (codesOf zs) (rOf (codesOf zs) g o ps) c := by
  have rin : ∀ {x y p}, rOf (codesOf zs) g o ps x y = some p → InL (codesOf zs) x ∧ InL (codesOf zs) y ∧ x ≠ y := fun h => rOf_in N h
  have T0 : Tb (codesOf zs) (rOf (codesOf zs) g o ps) (fun _ => False) (rOf (codesOf zs) g o ps) := by
    refine ⟨fun x => ?_, fun x y t h => .one (rin h).1 (rin h).2.1 h, fun x y p _ _ h => ⟨p, h, Int.le_refl _⟩, fun m x y a b hm => hm.elim⟩
    cases e : rOf (codesOf zs) g o ps x x with
    | none => rfl
    | some p => exact absurd rfl (rin e).2.2
  have all : ∀ (l : List Nd) (M : Nd → Prop) (O : Nd → Nd → Option Int), Tb (codesOf zs) (rOf (codesOf zs) g o ps) M O → ∃ O', Tb (codesOf zs) (rOf (codesOf zs) g o ps) (fun z => M z ∨ z ∈ l) O' := by
    intro l
    induction l with
    | nil => intro M O T; exact ⟨O, T.dg, T.pa, T.le, fun m x y a b hm => T.tri m x y a b (by simpa using hm)⟩
    | cons m l ih =>
      intro M O T
      obtain ⟨O', T'⟩ := ih _ _ (T.phase (m := m) (rOf_pos N))
      exact ⟨O', T'.dg, T'.pa, T'.le, fun k x y a b hk => T'.tri k x y a b (by
        rcases hk with h | h
        · exact .inl (.inl h)
        · rcases List.mem_cons.mp h with h | h
          · exact .inl (.inr h)
          · exact .inr h)⟩
  obtain ⟨O, T⟩ := all (ndOf (codesOf zs)) _ _ T0
  have TL : Tb (codesOf zs) (rOf (codesOf zs) g o ps) (InL (codesOf zs)) O := ⟨T.dg, T.pa, T.le, fun m x y a b hm => T.tri m x y a b (.inr (mem_nd.mpr hm))⟩
  exact ⟨_, (TL.clo (rOf_pos N) rOf_all).1⟩
/-! ### rounds -/
section
variable {α : Type} {D : α → Int} {W : List α} {E : α → α → Int → Prop} {b : α}
/-- costs and single changes -/
structure Net (D : α → Int) (W : List α) (E : α → α → Int → Prop) (b : α) : Prop where
  b0 : D b = 0
  bW : b ∈ W
  nn : ∀ v ∈ W, 0 ≤ D v ∧ (D v = 0 → v = b)
  ed : ∀ u ∈ W, ∀ v s, E u v s → v ∈ W ∧ D v ≤ D u + s ∧ 1 ≤ s
  pre : ∀ v ∈ W, v ≠ b → ∃ u ∈ W, ∃ s, E u v s ∧ D u + s ≤ D v
/-- what was found is no less than the cost -/
def Snd (D : α → Int) (W : List α) (b : α) (f : α → Option Int) : Prop := f b = some 0 ∧ ∀ v x, f v = some x → v ∈ W ∧ D v ≤ x
def LeF (f f' : α → Option Int) : Prop := ∀ v x, f v = some x → ∃ x', f' v = some x' ∧ x' ≤ x
theorem LeF.refl {f : α → Option Int} : LeF f f := fun _ x h => ⟨x, h, Int.le_refl _⟩
theorem LeF.trans {f f1 f2 : α → Option Int} (a : LeF f f1) (c : LeF f1 f2) : LeF f f2 := fun v x h => by
  obtain ⟨y, h1, l1⟩ := a v x h
  obtain ⟨z, h2, l2⟩ := c v y h1
  exact ⟨z, h2, by omega⟩
def rank (D : α → Int) (W : List α) (v : α) : Nat := W.countP fun x => decide (D x < D v)
theorem countP_lt {p q : α → Bool} : ∀ {l : List α}, (∀ a, p a = true → q a = true) → (∃ a ∈ l, q a = true ∧ p a = false) → l.countP p < l.countP q
  | [], _, ⟨_, h, _⟩ => nomatch h
  | x :: l, h, ⟨a, ha, h1, h2⟩ => by
    have le : l.countP p ≤ l.countP q := List.countP_mono_left fun y _ hy => h y hy
    rw [List.countP_cons, List.countP_cons]
    rcases List.mem_cons.mp ha with rfl | ha
    · rw [h1, h2]; simp; omega
    · have ih := countP_lt h ⟨a, ha, h1, h2⟩
      by_cases hp : p x = true
      · rw [if_pos hp, if_pos (h x hp)]; omega
      · rw [if_neg hp]
        split <;> omega
theorem rank_lt {u v : α} (hu : u ∈ W) (h : D u < D v) : rank D W u < rank D W v :=
  countP_lt (fun a q => by simp at q ⊢; omega) ⟨u, hu, by simpa using h, by simp⟩
theorem rank_le (v : α) : rank D W v ≤ W.length := List.countP_le_length
/-- right up to a rank -/
def ExR (D : α → Int) (W : List α) (i : Nat) (f : α → Option Int) : Prop := ∀ v ∈ W, rank D W v ≤ i → f v = some (D v)
theorem ExR.zero (n : Net D W E b) {f : α → Option Int} (S : Snd D W b f) : ExR D W 0 f := fun v hv h => by
  have : ¬ D b < D v := fun q => by have := rank_lt n.bW q; omega
  have h1 := n.nn v hv
  have : v = b := h1.2 (by rw [n.b0] at this; omega)
  rw [this, S.1, n.b0]
/-- behind a round -/
theorem ExR.next (n : Net D W E b) {i : Nat} {f0 f : α → Option Int} (X : ExR D W i f0) (S : Snd D W b f) (R : ∀ w ∈ W, f0 w = some (D w) → ∀ v s, E w v s → ∃ y, f v = some y ∧ y ≤ D w + s) : ExR D W (i + 1) f := fun v hv h => by
  classical
  by_cases e : v = b
  · rw [e, S.1, n.b0]
  · obtain ⟨u, hu, s, he, hs⟩ := n.pre v hv e
    have h1 := (n.ed u hu v s he).2.2
    have := rank_lt (W := W) hu (show D u < D v by omega)
    obtain ⟨y, hy, ly⟩ := R u hu (X u hu (by omega)) v s he
    have := (S.2 v y hy).2
    rw [hy]
    congr 1
    omega
theorem ExR.all {i : Nat} {f : α → Option Int} (X : ExR D W i f) (h : W.length ≤ i) : ∀ v ∈ W, f v = some (D v) := fun v hv => X v hv (Nat.le_trans (rank_le v) h)
/-- nothing gets cheaper -/
theorem fixed (n : Net D W E b) {f : α → Option Int} (S : Snd D W b f) (R : ∀ w ∈ W, ∀ x, f w = some x → ∀ v s, E w v s → ∃ y, f v = some y ∧ y ≤ x + s) : ∀ v ∈ W, f v = some (D v) := by
  classical
  have key : ∀ (k : Nat) (v : α), v ∈ W → D v ≤ k → f v = some (D v) := by
    intro k
    induction k with
    | zero =>
      intro v hv h
      have h1 := n.nn v hv
      have : v = b := h1.2 (by omega)
      rw [this, S.1, n.b0]
    | succ k ih =>
      intro v hv h
      by_cases e : v = b
      · rw [e, S.1, n.b0]
      · obtain ⟨u, hu, s, he, hs⟩ := n.pre v hv e
        have h1 := (n.ed u hu v s he).2.2
        obtain ⟨y, hy, ly⟩ := R u hu _ (ih u hu (by omega)) v s he
        have := (S.2 v y hy).2
        rw [hy]
        congr 1
        omega
  intro v hv
  exact key (D v).toNat v hv (by have := (n.nn v hv).1; omega)
end
end MN
/-! closed prices of permuted prices; costs of single signs -/
namespace MN
open PySem PySem.Spec PyProof.Rows L2
theorem rOf_perm {zs ys : List Str} {g o : Str → Int} {ps qs : List ((Str × Str) × Int)} (sn : (ps.map Prod.fst).Nodup) (pm : ys.Perm zs) (pq : qs.Perm ps) (x y : Nd) : rOf (codesOf ys) g o qs x y = rOf (codesOf zs) g o ps x y := by
  have mem : ∀ a, a ∈ codesOf ys ↔ a ∈ codesOf zs := fun a => (pm.map _).mem_iff
  cases x with
  | none =>
    cases y with
    | none => rfl
    | some b =>
      show (if b ∈ codesOf ys then _ else _) = (if b ∈ codesOf zs then _ else _)
      by_cases h : b ∈ codesOf zs
      · rw [if_pos h, if_pos ((mem b).mpr h)]
      · rw [if_neg h, if_neg fun q => h ((mem b).mp q)]
  | some a =>
    cases y with
    | none =>
      show (if a ∈ codesOf ys then _ else _) = (if a ∈ codesOf zs then _ else _)
      by_cases h : a ∈ codesOf zs
      · rw [if_pos h, if_pos ((mem a).mpr h)]
      · rw [if_neg h, if_neg fun q => h ((mem a).mp q)]
    | some b => exact findP_perm sn pq _ _
theorem clo_conv {zs ys : List Str} {g o : Str → Int} {ps qs : List ((Str × Str) × Int)} {c : Nd → Nd → Int} (sn : (ps.map Prod.fst).Nodup) (pm : ys.Perm zs) (pq : qs.Perm ps) (C : Clo (codesOf ys) (rOf (codesOf ys) g o qs) c) : Clo (codesOf zs) (rOf (codesOf zs) g o ps) c :=
  (C.perm fun a => ((pm.map _).mem_iff).symm).congr fun x y _ _ => (rOf_perm sn pm pq x y).symm
/-- costs of single signs -/
theorem Dc_put1 {c : Nd → Nd → Int} (b : Nat) : Dc c [] [b] = c none (some b) := by simp [Dc]
theorem Dc_out1 {c : Nd → Nd → Int} (a : Nat) : Dc c [a] [] = c (some a) none := by simp [Dc]
theorem Dc_swp1 {L : List Nat} {r : Nd → Nd → Option Int} {c : Nd → Nd → Int} (C : Clo L r c) {a b : Nat} (ha : a ∈ L) (hb : b ∈ L) : Dc c [a] [b] = c (some a) (some b) := by
  have h := C.tri (some a) none (some b) (InL.of ha) InL.no (InL.of hb)
  simp only [Dc]
  omega
end MN
/-! the laws k25 .. k34: closed prices by rounds -/
namespace MN
open PySem PySem.Spec PyProof.Rows L2
/-- less or the same, and no fewer -/
def LeO (O O' : Nd → Nd → Option Int) : Prop := ∀ x y t, O x y = some t → ∃ t', O' x y = some t' ∧ t' ≤ t
theorem LeO.refl {O : Nd → Nd → Option Int} : LeO O O := fun _ _ t h => ⟨t, h, Int.le_refl _⟩
theorem LeO.trans {O O1 O2 : Nd → Nd → Option Int} (a : LeO O O1) (b : LeO O1 O2) : LeO O O2 := fun x y t h => by
  obtain ⟨t1, h1, l1⟩ := a x y t h
  obtain ⟨t2, h2, l2⟩ := b x y t1 h1
  exact ⟨t2, h2, by omega⟩
/-- no less than closed prices -/
structure SndO (L : List Nat) (c : Nd → Nd → Int) (O : Nd → Nd → Option Int) : Prop where
  at_ : ∀ x y t, O x y = some t → InL L x ∧ InL L y ∧ x ≠ y ∧ c x y ≤ t
section
variable {L : List Nat} {r : Nd → Nd → Option Int} {c : Nd → Nd → Int} {O O0 : Nd → Nd → Option Int}
theorem SndO.relax (C : Clo L r c) (S : SndO L c O) {x m y : Nd} {t q : Int} (n : y ≠ x) (h1 : O x m = some t) (h2 : O m y = some q) : SndO L c (putO O x y (min (t + q) ((O x y).getD (t + q)))) ∧ LeO O (putO O x y (min (t + q) ((O x y).getD (t + q)))) ∧ ∃ v, putO O x y (min (t + q) ((O x y).getD (t + q))) x y = some v ∧ v ≤ t + q := by
  have a1 := S.at_ _ _ _ h1
  have a2 := S.at_ _ _ _ h2
  have tr := C.tri x m y a1.1 a1.2.1 a2.2.1
  refine ⟨⟨fun a b v h => ?_⟩, fun a b v h => ?_, ?_⟩
  · unfold putO at h
    by_cases e : a = x ∧ b = y
    · rw [if_pos e] at h
      obtain ⟨rfl, rfl⟩ := e
      refine ⟨a1.1, a2.2.1, fun e => n e.symm, ?_⟩
      cases e : O a b with
      | none => rw [e] at h; simp at h; omega
      | some o =>
        have := (S.at_ _ _ _ e).2.2.2
        rw [e] at h
        simp at h
        omega
    · rw [if_neg e] at h
      exact S.at_ _ _ _ h
  · unfold putO
    by_cases e : a = x ∧ b = y
    · rw [if_pos e]
      obtain ⟨rfl, rfl⟩ := e
      rw [h]
      exact ⟨_, rfl, by simp; omega⟩
    · rw [if_neg e]
      exact ⟨v, h, Int.le_refl _⟩
  · unfold putO
    rw [if_pos ⟨rfl, rfl⟩]
    exact ⟨_, rfl, by omega⟩
/-- the numbers from one node -/
def fromO (O : Nd → Nd → Option Int) (b : Nd) : Nd → Option Int := fun v => if v = b then some 0 else O b v
theorem net_nodes (C : Clo L r c) (hr : ∀ x y p, r x y = some p → InL L x ∧ InL L y ∧ x ≠ y ∧ 1 ≤ p) {b : Nd} (hb : InL L b) : Net (fun v => c b v) (ndOf L) (fun u v s => r u v = some s) b := by
  refine ⟨C.z b, mem_nd.mpr hb, fun v hv => ?_, fun u hu v s he => ?_, fun v hv ne => ?_⟩
  · by_cases e : b = v
    · subst e
      rw [C.z]
      exact ⟨Int.le_refl _, fun _ => rfl⟩
    · have := C.pos b v hb (mem_nd.mp hv) e
      exact ⟨by omega, fun q => by omega⟩
  · obtain ⟨h1, h2, _, h3⟩ := hr u v s he
    have t1 := C.tri b u v hb h1 h2
    have t2 := C.le u v s h1 h2 he
    exact ⟨mem_nd.mpr h2, by omega, h3⟩
  · obtain ⟨z, p, hz, nz, er, ec⟩ := C.last b v hb (mem_nd.mp hv) (fun e => ne e.symm)
    exact ⟨z, mem_nd.mpr hz, p, er, by omega⟩
theorem SndO.from_ (C : Clo L r c) (S : SndO L c O) {b : Nd} (hb : InL L b) : Snd (fun v => c b v) (ndOf L) b (fromO O b) := by
  refine ⟨if_pos rfl, fun v x h => ?_⟩
  unfold fromO at h
  by_cases e : v = b
  · subst e
    rw [if_pos rfl] at h
    cases h
    exact ⟨mem_nd.mpr hb, by show c v v ≤ 0; rw [C.z]; exact Int.le_refl _⟩
  · rw [if_neg e] at h
    obtain ⟨_, h2, _, h3⟩ := S.at_ _ _ _ h
    exact ⟨mem_nd.mpr h2, h3⟩
/-- right from each node up to a rank -/
def AllR (L : List Nat) (c : Nd → Nd → Int) (i : Nat) (O : Nd → Nd → Option Int) : Prop := ∀ b, InL L b → ExR (fun v => c b v) (ndOf L) i (fromO O b)
theorem AllR.zero (C : Clo L r c) (hr : ∀ x y p, r x y = some p → InL L x ∧ InL L y ∧ x ≠ y ∧ 1 ≤ p) (S : SndO L c O) : AllR L c 0 O := fun b hb => ExR.zero (net_nodes C hr hb) (S.from_ C hb)
/-- behind a round -/
theorem AllR.next (C : Clo L r c) (hr : ∀ x y p, r x y = some p → InL L x ∧ InL L y ∧ x ≠ y ∧ 1 ≤ p) {i : Nat} (A : AllR L c i O0) (S : SndO L c O) (le : LeO r O) (dn : ∀ x m t, O0 x m = some t → ∀ y p, r m y = some p → y ≠ x → ∃ v, O x y = some v ∧ v ≤ t + p) : AllR L c (i + 1) O := fun b hb => by
  refine ExR.next (net_nodes C hr hb) (A b hb) (S.from_ C hb) fun w hw hf v s he => ?_
  unfold fromO at hf ⊢
  by_cases ev : v = b
  · rw [if_pos ev]
    refine ⟨0, rfl, ?_⟩
    have h1 := (net_nodes C hr hb).nn w hw
    have h2 := (hr _ _ _ he).2.2.2
    omega
  · rw [if_neg ev]
    by_cases ew : w = b
    · subst ew
      obtain ⟨t', h1, h2⟩ := le w v s he
      refine ⟨t', h1, ?_⟩
      have := C.z w
      omega
    · rw [if_neg ew] at hf
      exact dn b w _ hf v s he ev
theorem AllR.all {i : Nat} (A : AllR L c i O) (h : (ndOf L).length ≤ i) {x y : Nd} (hx : InL L x) (hy : InL L y) (n : x ≠ y) : O x y = some (c x y) := by
  have := ExR.all (A x hx) h y (mem_nd.mpr hy)
  unfold fromO at this
  rwa [if_neg fun e => n e.symm] at this
end
theorem TabAt.of_key {L : List Nat} {kvs : List (List Key × V)} {O : Nd → Nd → Option Int} (T : TabAt L kvs O) {k : Nat} {q : List Key × V} (h : kvs[k]? = some q) : ∃ x y t, x ∈ ndOf L ∧ y ∈ ndOf L ∧ q.1 = kN x y ∧ O x y = some t := by
  have hm := List.mem_of_getElem? h
  obtain ⟨x, hx, y, hy, e⟩ := T.ks q.1 (List.mem_map.mpr ⟨q, hm, rfl⟩)
  have hv : valV kvs (kN x y) = some q.2 := by
    rw [← e]
    exact valV_of T.nd (by cases q; exact hm)
  rw [T.vl] at hv
  obtain ⟨t, ht, _⟩ := Option.map_eq_some_iff.mp hv
  exact ⟨x, y, t, hx, hy, e, ht⟩
theorem TabAt.key_of {L : List Nat} {kvs : List (List Key × V)} {O : Nd → Nd → Option Int} (T : TabAt L kvs O) {x y : Nd} {t : Int} (h : O x y = some t) : ∃ (k : Nat) (q : List Key × V), kvs[k]? = some q ∧ q.1 = kN x y := by
  have hv : valV kvs (kN x y) = some (.int t) := by rw [T.vl, h]; rfl
  obtain ⟨q, hq, e⟩ := List.mem_map.mp (valV_mem' hv)
  obtain ⟨k, hk⟩ := List.mem_iff_getElem?.mp hq
  exact ⟨k, q, hk, e⟩
theorem nd_perm {zs ls : List Str} (h : ls.Perm zs) (x : Nd) : x ∈ ndOf (codesOf ls) ↔ x ∈ ndOf (codesOf zs) := by
  rw [mem_nd, mem_nd]
  have : ∀ a, a ∈ codesOf ls ↔ a ∈ codesOf zs := fun a => (h.map _).mem_iff
  unfold InL
  exact ⟨fun q a ha => (this a).mp (q a ha), fun q a ha => (this a).mpr (q a ha)⟩
/-- what is done amid a round: the pairs ahead of k, and of the pair (x, m) the nodes ys -/
def DnR (r O0 O : Nd → Nd → Option Int) (kvs0 : List (List Key × V)) (k : Nat) : Prop := ∀ (k' : Nat) (q : List Key × V), k' < k → kvs0[k']? = some q → ∀ x m t, q.1 = kN x m → O0 x m = some t → ∀ y p, r m y = some p → y ≠ x → ∃ v, O x y = some v ∧ v ≤ t + p
theorem DnR.le {r O0 O O' : Nd → Nd → Option Int} {kvs0 : List (List Key × V)} {k : Nat} (D : DnR r O0 O kvs0 k) (h : LeO O O') : DnR r O0 O' kvs0 k := fun k' q hk hq x m t e ht y p hp n => by
  obtain ⟨v, h1, h2⟩ := D k' q hk hq x m t e ht y p hp n
  obtain ⟨v', h3, h4⟩ := h x y v h1
  exact ⟨v', h3, by omega⟩
section
variable {P : Program} {w : World} {K : PySem.W.Frag} {mg : Str → Option Value} {base : Heap}
def spClosed26 : Sp := fun vs H Q _ => ∃ t A B S zs g o ps c, vs = [.ref t] ∧ TblAt H t zs g o ps A B S ∧ PrN zs zs g o ps ∧ Clo (codesOf zs) (rOf (codesOf zs) g o ps) c ∧ ∀ T H', H T = none → Same H H' → TabC H' T (codesOf zs) c → Q (.ref T) H'
abbrev N_law_closed : List Str := ["_law_plain", "_law_found", "_law_nodes", "_law_sign", "_law_turn", "_law_one", "_law_middle", "_law_other", "_law_price_here"]
theorem sc_law_closed : FnScope N_law_closed ["_law_plain"] (defScope (top 89)) := ⟨rfl, rfl, rfl, by decide +kernel, rfl, by decide +kernel, by decide +kernel⟩
theorem c_law_closed (A : At K mg "_law_closed" (top 89)) (B : Blt mg) : Cal P w K mg base 1 "_law_closed" spClosed26 := by
  refine cal_of A sc_law_closed (fun _ _ _ _ _ _ us hl => match us, hl with | [_], _ => rfl) (fun vs H Q E h => ?_) (fun _ cdv A outer s H vs Q E hr h => ?_)
  · obtain ⟨_, _, _, _, _, _, _, _, _, rfl, _⟩ := h; rfl
  · obtain ⟨t, PA, PB, PS, zs, g, o, ps, c, rfl, TB, N, C, hQ⟩ := h
    refine ⟨_, (pss_cons (ps_par (i := 1) (j := 2) (by rfl) sc_law_closed.nd rfl rfl (by decide) rfl rfl (pa_cons (pe_callTy (call_dictPT rfl hr.units) (by rfl) B.dict (by decide +kernel) (pa_cons (pe_listItemsT rfl (pe_ix ix_list (pv 0) pe_int (fun _ _ => rfl)) (by rfl) B.list boot_list0) pa_nil)) (pa_cons (pe_op op_cat (pe_lst (pa_cons pe_str pa_nil)) (pe_callB (call_sortedD rfl) (by rfl) B.sorted (by decide +kernel) (pa_cons (pe_ix ix_list (pv 0) pe_int (fun _ _ => rfl)) pa_nil))) pa_nil)) (by rfl))
      (pss_cons (ps_lock (ps_for PassesOwn.never rfl (pi_keys (pe_ix ix_list (pv 0) pe_int (fun _ _ => rfl))) (pg_name (i := 3) sc_law_closed.nd rfl (Or.inl rfl))
        (pss_cons (ps_dput (hu_of hr) (pv 1) (pe_tup (pa_cons pe_str (pa_cons (pv 3) pa_nil))) (pe_dget (hu_of hr) (pe_ix ix_list (pv 0) pe_int (fun _ _ => rfl)) (pv 3) (fun _ _ => rfl)) (by rfl))
        (pss_one (ps_dput (hu_of hr) (pv 1) (pe_tup (pa_cons (pv 3) (pa_cons pe_str pa_nil))) (pe_dget (hu_of hr) (pe_ix ix_list (pv 0) pe_int (fun _ _ => rfl)) (pv 3) (fun _ _ => rfl)) (by rfl))))))
      (pss_cons (ps_for PassesOwn.never rfl (pi_range1 (by rfl) B.range (pa_cons (pe_callB call_len_seq (by rfl) B.len (by decide +kernel) (pa_cons (pv 2) pa_nil)) pa_nil)) (pg_name (i := 4) sc_law_closed.nd rfl (Or.inl rfl))
        (pss_one (ps_for PassesOwn.never rfl (pi_list (pe_callTy (call_list_dT rfl) (by rfl) B.list (by decide +kernel) (pa_cons (pv 1) pa_nil))) (pg_tup rfl (pgs_cons (pg_name (i := 5) sc_law_closed.nd rfl (Or.inl rfl)) (pgs_cons (pg_name (i := 6) sc_law_closed.nd rfl (Or.inl rfl)) pgs_nil)))
          (pss_one (ps_for PassesOwn.never rfl (pi_list (pv 2)) (pg_name (i := 7) sc_law_closed.nd rfl (Or.inl rfl))
            (pss_one (ps_if (PW.pt (pw_and (pt_cmpR op_ne (pv 7) (pv 5) (nomark _)) (pw_and1 (pt_cmp (pc_din (hu_of hr) (pe_tup (pa_cons (pv 6) (pa_cons (pv 7) pa_nil))) (pv 1))))))
              (pss_cons (ps_set (i := 8) sc_law_closed.nd rfl (Or.inl rfl) (pe_op op_add (pe_dget (hu_of hr) (pv 1) (pe_tup (pa_cons (pv 5) (pa_cons (pv 6) pa_nil))) (fun _ _ => rfl)) (pe_dget (hu_of hr) (pv 1) (pe_tup (pa_cons (pv 6) (pa_cons (pv 7) pa_nil))) (fun _ _ => rfl))))
              (pss_one (ps_dput (hu_of hr) (pv 1) (pe_tup (pa_cons (pv 5) (pa_cons (pv 7) pa_nil))) (pe_callB (call_min2 rfl) (by rfl) B.min (by decide +kernel) (pa_cons (pv 8) (pa_cons (pe_dget2 (hu_of hr) (pv 1) (pe_tup (pa_cons (pv 5) (pa_cons (pv 7) pa_nil))) (pv 8) ⟨by rfl, by rfl, by rfl, by rfl⟩) pa_nil))) (by rfl))))
              pss_nil)))))))
      (pss_one (ps_ret (pv 1)))))), ?_⟩
    have two : 2 ≤ sizeLine := by decide
    have one : 1 ≤ sizeLine := by decide
    have big : 100000 < sizeLine := by decide
    have l5 := N.le
    have sgn := N.sg
    have bigL : (codesOf zs).length ≤ 5 := by simpa [codesOf] using l5
    have small : ∀ {kvs : List (List Key × V)} {O : Nd → Nd → Option Int}, TabAt (codesOf zs) kvs O → kvs.length < sizeLine := fun {kvs O} T => by
      have h1 := T.len
      have h2 : ((codesOf zs).length + 1) * ((codesOf zs).length + 1) ≤ 6 * 6 := Nat.mul_le_mul (by omega) (by omega)
      omega
    refine ⟨_, rfl, t, _, _, _, rfl, rfl, SqL.of TB.t, rfl, PS, _, rfl, TB.s, fun H1 q ts e1 _ hq hpr => ⟨q, ts, _, rfl, hq, hpr, dtF_nodup N.sn, fun T hT => ?_⟩⟩
    have e2 := e1.trans (same_new (o := .dT (dtF ps)) hT)
    have fT : H T = none := e1.free hT
    have hT2 : upd H1 T (.dT (dtF ps)) T = some (.dT (dtF ps)) := upd_same
    generalize upd H1 T (.dT (dtF ps)) = H2 at e2 hT2 ⊢
    have T2 := TB.same e2
    refine ⟨one, fun q1 hq1 => ?_⟩
    have s3 := same_new (o := .lst [.str ""]) hq1
    have u3 : upd H2 q1 (.lst [.str ""]) q1 = some (.lst [.str ""]) := upd_same
    have T3 := T2.same s3
    have hT3 := s3 _ _ hT2
    generalize upd H2 q1 (.lst [.str ""]) = H3 at s3 u3 T3 hT3 ⊢
    refine ⟨_, rfl, t, _, _, _, rfl, rfl, SqL.of T3.t, rfl, PA, _, zs, rfl, .inl T3.a, dkF_keys zs g, by omega, fun ls q2 hls _ hq2 => ?_⟩
    have s4 := same_new (o := .lst (ls.map V.str)) hq2
    have u4 : upd H3 q2 (.lst (ls.map V.str)) q2 = some (.lst (ls.map V.str)) := upd_same
    have u34 := s4 _ _ u3
    have hT4 := s4 _ _ hT3
    have e4 := (e2.trans s3).trans s4
    generalize upd H3 q2 (.lst (ls.map V.str)) = H4 at s4 u4 u34 hT4 e4 ⊢
    refine ⟨_, _, _, _, rfl, rfl, u34, u4, ?_, fun Nn hNn => ⟨_, _, rfl, ?_⟩⟩
    · have := hls.length_eq
      simp
      omega
    have sgl : ∀ z ∈ ls, ∃ c ∈ ("abcde" : Str).cps.toList, z = ⟨#[c]⟩ := fun z hz => sgn z (hls.mem_iff.mp hz)
    have en : [V.str ""] ++ ls.map V.str = (ndOf (codesOf ls)).map fun x => V.str (nS x) := by
      unfold ndOf
      rw [List.map_cons, List.map_map, List.singleton_append]
      congr 1
      conv => lhs; rw [← codes_sg sgl]
      rw [List.map_map]; rfl
    rw [en]
    have s5 := same_new (o := .lst ((ndOf (codesOf ls)).map fun x => V.str (nS x))) hNn
    have u5 : upd H4 Nn (.lst ((ndOf (codesOf ls)).map fun x => V.str (nS x))) Nn = some (.lst ((ndOf (codesOf ls)).map fun x => V.str (nS x))) := upd_same
    have hT5 := s5 _ _ hT4
    have e5 := e4.trans s5
    generalize upd H4 Nn (.lst ((ndOf (codesOf ls)).map fun x => V.str (nS x))) = H5 at s5 u5 hT5 e5 ⊢
    have NnT : Nn ≠ T := (ne_of_none hT4 hNn).symm
    clear s4 u4 u34 hT4 e4 s3 u3 T3 hT3 hq1 hq2 hNn T2 hT2
    have apT : ∀ b u, H b = some u → b ≠ T := fun b u h => ne_of_none h fT
    -- puts and outs
    have hA5 := e5 _ _ TB.a
    have AT : PA ≠ T := apT _ _ TB.a
    have AN : PA ≠ Nn := fun z => by rw [z, u5] at hA5; cases hA5
    refine ⟨PA, _, hA5, trivial, fun od => ?_⟩
    have Tt : t ≠ PA := fun z => by have := TB.t; rw [z, TB.a] at this; cases this
    refine ⟨_, rfl, t, _, _, _, rfl, rfl, SqL.of (by rw [upd_ne Tt]; exact e5 _ _ TB.t), rfl, PA, od, rfl, .inl ⟨_, upd_same, for_it walk_keys (fun i σ H' => (∃ o3, σ = [some (.ref t), some (.ref T), some (.ref Nn), o3, none, none, none, none, none]) ∧ (∀ b u, b ≠ T → b ≠ PA → H5 b = some u → H' b = some u) ∧ H' PA = some (.frz od (.dK (dkF zs g))) ∧ ∃ kvs, H' T = some (.dT kvs) ∧ TabAt (codesOf zs) kvs (rOf ((codesOf zs).take i) g o ps)) ⟨⟨_, rfl⟩, fun b u _ n h => by rw [upd_ne n]; exact h, upd_same, _, by rw [upd_ne AT.symm]; exact hT5, by rw [List.take_zero]; exact tab_swaps N⟩ (fun i σ H' _ e => e.2.2.1) (fun i y σ Ha Hb hi e hy => ?_) (fun σ H6 e => ?_)⟩⟩
    · obtain ⟨rfl, k, v, hk, rfl⟩ := hy
      obtain ⟨⟨o3, rfl⟩, ea, fA, kvs, hTa, TA⟩ := e
      unfold dkF at hk
      rw [List.getElem?_map] at hk
      obtain ⟨z, hz, e⟩ := Option.map_eq_some_iff.mp hk
      cases e
      have mz := List.mem_of_getElem? hz
      have zc : sgS (codeOf z) = z := nS_code (sgn z mz)
      have inz : some (codeOf z) ∈ ndOf (codesOf zs) := mem_nd.mpr (InL.of (code_mem sgn mz))
      have inn : none ∈ ndOf (codesOf zs) := mem_nd.mpr InL.no
      have tT : t ≠ T := apT _ _ TB.t
      have hta := ea _ _ tT Tt (e5 _ _ TB.t)
      refine ⟨_, rfl, t, _, _, _, rfl, rfl, SqL.of hta, rfl, _, rfl, PA, .int (g z), rfl, .inl ⟨_, .inr z, .inr ⟨od, fA⟩, rfl, (dkF_val N.nd g mz).symm⟩, _, rfl, _, rfl, two, fun t1 ht1 => ?_⟩
      have f1 := same_new (o := .tup [.str "", kV (.inr z)]) ht1
      refine ⟨T, _, rfl, .inr ⟨kvs, kN none (some (codeOf z)), t1, f1 _ _ hTa, rfl, ?_, small TA, rfl⟩, ?_⟩
      · rw [upd_same]
        show _ = some (HO.tup [.str (nS none), .str (nS (some (codeOf z)))])
        rw [nS_code (sgn z mz)]; rfl
      have T1 := TA.put inn inz (g z)
      have b1 : But T Hb (upd (upd Hb t1 (.tup [.str "", kV (.inr z)])) T (.dT (putK kvs (kN none (some (codeOf z))) (.int (g z))))) := (But.refl.same f1).put
      have hT6 : upd (upd Hb t1 (.tup [.str "", kV (.inr z)])) T (.dT (putK kvs (kN none (some (codeOf z))) (.int (g z)))) T = some (.dT (putK kvs (kN none (some (codeOf z))) (.int (g z)))) := upd_same
      generalize upd (upd Hb t1 (.tup [.str "", kV (.inr z)])) T (.dT (putK kvs (kN none (some (codeOf z))) (.int (g z)))) = Hc at b1 hT6 ⊢
      have BT : PB ≠ T := apT _ _ TB.b
      have hBr : Rd Hc PB (.dK (dkF zs o)) := by
        by_cases z : PB = PA
        · have h1 := TB.a
          rw [← z, TB.b] at h1
          have h2 := Option.some.inj h1
          rw [h2, z]
          exact .inr ⟨od, b1 _ _ AT fA⟩
        · exact .inl (b1 _ _ BT (ea _ _ BT z (e5 _ _ TB.b)))
      refine ⟨_, rfl, t, _, _, _, rfl, rfl, SqL.of (b1 _ _ tT hta), rfl, _, rfl, PB, .int (o z), rfl, .inl ⟨_, .inr z, hBr, rfl, (dkF_val N.nd o mz).symm⟩, _, rfl, _, rfl, two, fun t2 ht2 => ?_⟩
      have f2 := same_new (o := .tup [kV (.inr z), .str ""]) ht2
      refine ⟨T, _, rfl, .inr ⟨_, kN (some (codeOf z)) none, t2, f2 _ _ hT6, rfl, ?_, small T1, rfl⟩, ⟨_, rfl⟩, fun b u n1 n2 h => ((b1.same f2).put) b u n1 (ea b u n1 n2 h), ((b1.same f2).put) _ _ AT fA, _, upd_same, ?_⟩
      · rw [upd_same]
        show _ = some (HO.tup [.str (nS (some (codeOf z))), .str (nS none)])
        rw [nS_code (sgn z mz)]; rfl
      · refine (T1.put inz inn (o z)).congr fun u v => ?_
        rw [rOf_step (show (codesOf zs)[i]? = some (codeOf z) by unfold codesOf; rw [List.getElem?_map, hz]; rfl), zc]
    obtain ⟨⟨o3, rfl⟩, e6, fA, kvs1, hT6, TA1⟩ := e
    have e56 : But T H5 (upd H6 PA (.dK (dkF zs g))) := fun b u n h => by
      by_cases z : b = PA
      · rw [z, upd_same]; rw [z, hA5] at h; exact h
      · rw [upd_ne z]; exact e6 b u n z h
    have hT7 : upd H6 PA (.dK (dkF zs g)) T = some (.dT kvs1) := by rw [upd_ne AT.symm]; exact hT6
    refine ⟨fA, ?_⟩
    generalize upd H6 PA (.dK (dkF zs g)) = H7 at e56 hT7 ⊢
    rw [show (dkF zs g).length = (codesOf zs).length by simp [dkF, codesOf], List.take_length] at TA1
    have rin : ∀ x y p, rOf (codesOf zs) g o ps x y = some p → InL (codesOf zs) x ∧ InL (codesOf zs) y ∧ x ≠ y ∧ 1 ≤ p := fun x y p h => by
      have := rOf_in N h
      exact ⟨this.1, this.2.1, this.2.2, rOf_pos N _ _ _ h⟩
    generalize hr0 : rOf (codesOf zs) g o ps = r at TA1 rin C
    have S1 : SndO (codesOf zs) c r := ⟨fun x y p h => ⟨(rin x y p h).1, (rin x y p h).2.1, (rin x y p h).2.2.1, C.le x y p (rin x y p h).1 (rin x y p h).2.1 h⟩⟩
    have lenN : ((ndOf (codesOf ls)).map fun x => V.str (nS x)).length = (ndOf (codesOf zs)).length := by
      have := hls.length_eq
      simp [ndOf, codesOf, this]
    have sqN : ∀ {H' : Hp}, But T H5 H' → SqL K H' Nn ((ndOf (codesOf ls)).map fun x => V.str (nS x)) := fun b => b.seqL (SqL.of u5) NnT
    have getN : ∀ {i : Nat} {v : V}, ((ndOf (codesOf ls)).map fun x => V.str (nS x))[i]? = some v → ∃ x, (ndOf (codesOf ls))[i]? = some x ∧ v = .str (nS x) ∧ x ∈ ndOf (codesOf zs) := fun h => by
      rw [List.getElem?_map] at h
      obtain ⟨x, hx, rfl⟩ := Option.map_eq_some_iff.mp h
      exact ⟨x, hx, rfl, (nd_perm hls x).mp (List.mem_of_getElem? hx)⟩
    -- rounds
    refine ⟨_, rfl, Nn, _, rfl, .inl (sqN e56), _, rfl, ?_, ?_, ?_⟩
    · have : (ndOf (codesOf zs)).length ≤ 6 := by simp [ndOf]; omega
      omega
    · have : (ndOf (codesOf zs)).length ≤ 6 := by simp [ndOf]; omega
      omega
    rw [lenN]
    refine for_it (n := (ndOf (codesOf zs)).length) (walk_range (lo := 0)) (fun i σ H' => (∃ o4 o5 o6 o7 o8, σ = [some (.ref t), some (.ref T), some (.ref Nn), o3, o4, o5, o6, o7, o8]) ∧ But T H5 H' ∧ ∃ kvs O, H' T = some (.dT kvs) ∧ TabAt (codesOf zs) kvs O ∧ SndO (codesOf zs) c O ∧ LeO r O ∧ AllR (codesOf zs) c i O) ⟨⟨_, _, _, _, _, rfl⟩, e56, kvs1, r, hT7, TA1, S1, LeO.refl, AllR.zero C rin S1⟩ (fun _ _ _ _ _ => trivial) (fun i y σ Ha Hb hi e hy => ?_) (fun σ H8 e => ?_)
    · obtain ⟨rfl, rfl⟩ := hy
      obtain ⟨⟨o4, o5, o6, o7, o8, rfl⟩, eb, kvs0, O0, hT8, TA0, S0, L0, A0⟩ := e
      refine ⟨_, rfl, T, kvs0, rfl, .inl hT8, fun kl bs hkl hkb => ?_⟩
      have s9 := same_new (o := .lst (bs.map V.ref)) hkl
      have u9 : upd Hb kl (.lst (bs.map V.ref)) kl = some (.lst (bs.map V.ref)) := upd_same
      have hT9 := s9 _ _ hT8
      have b9 := eb.same s9
      have hkb9 : IsKeys (upd Hb kl (.lst (bs.map V.ref))) kvs0 bs := L2.Paired.mapP hkb fun a b h => s9 _ _ h
      have klT : kl ≠ T := (ne_of_none hT8 hkl).symm
      generalize upd Hb kl (.lst (bs.map V.ref)) = H9 at s9 u9 hT9 b9 hkb9 ⊢
      refine ⟨kl, rfl, ⟨_, SqL.of u9⟩, for_it walk_list (fun k σ H' => (∃ o5 o6 o7 o8, σ = [some (.ref t), some (.ref T), some (.ref Nn), o3, some (.int (0 + (i : Int))), o5, o6, o7, o8]) ∧ But T H9 H' ∧ ∃ kvs O, H' T = some (.dT kvs) ∧ TabAt (codesOf zs) kvs O ∧ SndO (codesOf zs) c O ∧ LeO O0 O ∧ DnR r O0 O kvs0 k) ⟨⟨_, _, _, _, rfl⟩, But.refl, kvs0, O0, hT9, TA0, S0, LeO.refl, fun k' q h => absurd h (Nat.not_lt_zero _)⟩ (fun k σ H' _ e => e.2.1.seqL (SqL.of u9) klT) (fun k y σ Hc Hd hk e hy => ?_) (fun σ H10 e => ?_)⟩
      · obtain ⟨rfl, hy⟩ := hy
        obtain ⟨⟨o5, o6, o7, o8, rfl⟩, bc, kvs, O, hTc, TA, SO, LO, DO⟩ := e
        rw [List.getElem?_map] at hy
        obtain ⟨b, hb, rfl⟩ := Option.map_eq_some_iff.mp hy
        have kl0 : kvs0.length = bs.length := Paired.length hkb9
        have kk : k < kvs0.length := by rw [kl0]; exact (List.getElem?_eq_some_iff.mp hb).1
        have hkv := List.getElem?_eq_getElem kk
        generalize kvs0[k] = kv at hkv
        obtain ⟨x, m, t0, inx, inm, ekv, hxm⟩ := TA0.of_key hkv
        have hbt : H9 b = some (.tup [.str (nS x), .str (nS m)]) := by
          obtain ⟨b', h1, h2⟩ := L2.paired_get hkb9 hkv
          rw [hb] at h1
          cases h1
          rw [h2, ekv]; rfl
        have bT : b ≠ T := fun z => by rw [z, hT9] at hbt; cases hbt
        refine ⟨b, _, rfl, .inl (.inl (bc _ _ bT hbt)), rfl, _, _, rfl, _, _, rfl, rfl, ?_⟩
        refine ⟨_, rfl, Nn, rfl, ⟨_, sqN (b9.trans bc)⟩, for_it walk_list (fun j σ H' => (∃ o7 o8, σ = [some (.ref t), some (.ref T), some (.ref Nn), o3, some (.int (0 + (i : Int))), some (.str (nS x)), some (.str (nS m)), o7, o8]) ∧ But T H9 H' ∧ ∃ kvs O, H' T = some (.dT kvs) ∧ TabAt (codesOf zs) kvs O ∧ SndO (codesOf zs) c O ∧ LeO O0 O ∧ DnR r O0 O kvs0 k ∧ ∀ y ∈ (ndOf (codesOf ls)).take j, ∀ p, r m y = some p → y ≠ x → ∃ v, O x y = some v ∧ v ≤ t0 + p) ⟨⟨_, _, rfl⟩, bc, kvs, O, hTc, TA, SO, LO, DO, fun y hy => by simp at hy⟩ (fun j σ H' _ e => sqN (b9.trans e.2.1)) (fun j y σ Hd He hj e hy => ?_) (fun σ H11 e => ?_)⟩
        · obtain ⟨rfl, hy⟩ := hy
          clear TA SO LO DO hTc bc
          obtain ⟨⟨o7, o8, rfl⟩, bc, kvs, O, hTc, TA, SO, LO, DO, DJ⟩ := e
          obtain ⟨y, hyn, rfl, iny⟩ := getN hy
          have v1 : valV kvs (kN x m) = (O x m).map V.int := TA.vl x m
          have v2 : valV kvs (kN m y) = (O m y).map V.int := TA.vl m y
          have v3 : valV kvs (kN x y) = (O x y).map V.int := TA.vl x y
          have LR : LeO r O := L0.trans LO
          have tk : ∀ a, a ∈ (ndOf (codesOf ls)).take (j + 1) ↔ a ∈ (ndOf (codesOf ls)).take j ∨ a = y := fun a => by rw [List.take_add_one, hyn]; simp
          have stay : (∀ p, r m y = some p → y ≠ x → ∃ v, O x y = some v ∧ v ≤ t0 + p) → ∀ a ∈ (ndOf (codesOf ls)).take (j + 1), ∀ p, r m a = some p → a ≠ x → ∃ v, O x a = some v ∧ v ≤ t0 + p := fun h a ha => by
            rcases (tk a).mp ha with ha | rfl
            · exact DJ a ha
            · exact h
          refine ⟨_, rfl, _, rfl, rfl, _, rfl, ?_⟩
          by_cases n : y = x
          · rw [show (!decide (V.str (nS y) = V.str (nS x))) = false by simp [n]]
            exact iteF (iteF ⟨⟨_, _, rfl⟩, bc, kvs, O, hTc, TA, SO, LO, DO, stay fun p _ nn => absurd n nn⟩)
          · rw [show (!decide (V.str (nS y) = V.str (nS x))) = true by
              have : nS y ≠ nS x := fun e => n (nS_inj e)
              simp [this]]
            refine iteT ⟨_, rfl, _, rfl, two, fun t2 ht2 => ?_⟩
            have f2 := same_new (o := .tup [.str (nS m), .str (nS y)]) ht2
            refine ⟨_, rfl, T, (O m y).map V.int, rfl, .inr ⟨kvs, kN m y, t2, .inl (f2 _ _ hTc), rfl, upd_same, v2.symm⟩, _, rfl, ?_⟩
            have b2 := bc.same f2
            have hTf := f2 _ _ hTc
            generalize upd He t2 (.tup [.str (nS m), .str (nS y)]) = Hf at b2 hTf ⊢
            cases e2 : O m y with
            | none =>
              refine iteF ⟨⟨_, _, rfl⟩, b2, kvs, O, hTf, TA, SO, LO, DO, stay fun p hp _ => ?_⟩
              obtain ⟨t', h', _⟩ := LR m y p hp
              rw [e2] at h'
              cases h'
            | some q =>
              obtain ⟨t1, e1', le1⟩ := LO x m t0 hxm
              refine iteT ⟨_, rfl, _, rfl, _, rfl, two, fun t3 ht3 => ?_⟩
              have f3 := same_new (o := .tup [.str (nS x), .str (nS m)]) ht3
              refine ⟨T, .int t1, rfl, .inr ⟨kvs, kN x m, t3, .inl (f3 _ _ hTf), rfl, upd_same, by rw [v1, e1']; rfl⟩, _, rfl, _, rfl, _, rfl, two, fun t4 ht4 => ?_⟩
              have f4 := same_new (o := .tup [.str (nS m), .str (nS y)]) ht4
              refine ⟨T, .int q, rfl, .inr ⟨kvs, kN m y, t4, .inl (f4 _ _ (f3 _ _ hTf)), rfl, upd_same, by rw [v2, e2]; rfl⟩, _, _, rfl, rfl, ?_⟩
              have b3 := (b2.same f3).same f4
              have hTg := f4 _ _ (f3 _ _ hTf)
              generalize upd (upd Hf t3 (.tup [.str (nS x), .str (nS m)])) t4 (.tup [.str (nS m), .str (nS y)]) = Hg at b3 hTg ⊢
              refine ⟨_, rfl, _, rfl, T, rfl, .inr ⟨kvs, .inl hTg⟩, _, rfl, _, rfl, two, fun t5 ht5 => ?_⟩
              have f5 := same_new (o := .tup [.str (nS x), .str (nS y)]) ht5
              refine ⟨_, rfl, (O x y).map V.int, .inr ⟨kvs, kN x y, t5, .inl (f5 _ _ hTg), rfl, upd_same, v3.symm⟩, t1 + q, (O x y).getD (t1 + q), ?_, ?_⟩
              · cases O x y <;> rfl
              refine ⟨_, rfl, _, rfl, _, rfl, two, fun t6 ht6 => ?_⟩
              have f6 := same_new (o := .tup [.str (nS x), .str (nS y)]) ht6
              obtain ⟨SO', LO', v, hv1, hv2⟩ := SO.relax C n e1' e2
              have ev : (if (O x y).getD (t1 + q) < t1 + q then (O x y).getD (t1 + q) else t1 + q) = min (t1 + q) ((O x y).getD (t1 + q)) := by split <;> omega
              rw [ev]
              refine ⟨T, _, rfl, .inr ⟨kvs, kN x y, t6, f6 _ _ (f5 _ _ hTg), rfl, upd_same, small TA, rfl⟩, ⟨_, _, rfl⟩, ((b3.same f5).same f6).put, _, _, upd_same, TA.put inx iny _, SO', LO.trans LO', DO.le LO', fun a ha p hp nn => ?_⟩
              rcases (tk a).mp ha with ha | rfl
              · obtain ⟨v', h1, h2⟩ := DJ a ha p hp nn
                obtain ⟨v2', h3, h4⟩ := LO' x a v' h1
                exact ⟨v2', h3, by omega⟩
              · obtain ⟨q', h1, h2⟩ := LR m a p hp
                rw [e2] at h1
                cases h1
                exact ⟨v, hv1, by omega⟩
        · clear TA SO LO DO hTc bc
          obtain ⟨⟨o7, o8, rfl⟩, bc, kvs, O, hTc, TA, SO, LO, DO, DJ⟩ := e
          refine ⟨⟨_, _, _, _, rfl⟩, bc, kvs, O, hTc, TA, SO, LO, fun k' q hk' hq x' m' t' e' ht' y p hp n => ?_⟩
          rcases Nat.lt_or_ge k' k with h | h
          · exact DO k' q h hq x' m' t' e' ht' y p hp n
          · obtain rfl : k' = k := by omega
            rw [hkv] at hq
            cases hq
            obtain ⟨rfl, rfl⟩ := kN_inj (ekv.symm.trans e')
            rw [hxm] at ht'
            cases ht'
            refine DJ y ?_ p hp n
            rw [show ((ndOf (codesOf ls)).map fun x => V.str (nS x)).length = (ndOf (codesOf ls)).length from List.length_map .., List.take_length]
            exact (nd_perm hls y).mpr (mem_nd.mpr (rin _ _ _ hp).2.1)
      · obtain ⟨⟨o5, o6, o7, o8, rfl⟩, bc, kvs, O, hTc, TA, SO, LO, DO⟩ := e
        refine ⟨⟨_, _, _, _, _, rfl⟩, b9.trans bc, kvs, O, hTc, TA, SO, L0.trans LO, AllR.next C rin A0 SO (L0.trans LO) fun x m t ht y p hp n => ?_⟩
        obtain ⟨k, q, hk, hq⟩ := TA0.key_of ht
        refine DO k q ?_ hk x m t hq ht y p hp n
        have kl0 : kvs0.length = bs.length := Paired.length hkb9
        rw [List.length_map, ← kl0]
        exact (List.getElem?_eq_some_iff.mp hk).1
    · obtain ⟨⟨o4, o5, o6, o7, o8, rfl⟩, eb, kvs, O, hT8, TA, SO, LO, AO⟩ := e
      refine ⟨_, rfl, hQ T H8 fT (fun b u h => eb b u (apT b u h) (e5 b u h)) ⟨kvs, hT8, fun x y hx hy n => ?_⟩⟩
      rw [TA.vl, AO.all (Nat.le_refl _) hx hy n]; rfl
end
end MN
/-! the law k26: words that lead somewhere, least distances to them -/
namespace MN
open PySem PySem.Spec PyProof.Rows L2
def PrV (it : List Nat × Nat) : HO := .tup [.str (wS it.1), .int (it.2 : Int)]
/-- a list of pairs (word, state) -/
structure PrsAt (H : Hp) (F : Addr) (ts : List Addr) (its : List (List Nat × Nat)) : Prop where
  l : H F = some (.lst (ts.map V.ref))
  n : ts.length = its.length
  at_ : ∀ (k : Nat) t it, ts[k]? = some t → its[k]? = some it → H t = some (PrV it)
theorem PrsAt.same {H H' : Hp} {F : Addr} {ts : List Addr} {its : List (List Nat × Nat)} (h : PrsAt H F ts its) (e : Same H H') : PrsAt H' F ts its := ⟨e _ _ h.l, h.n, fun k t it h1 h2 => e _ _ (h.at_ k t it h1 h2)⟩
theorem PrsAt.but {H H' : Hp} {F L : Addr} {xs : List V} {ts : List Addr} {its : List (List Nat × Nat)} (h : PrsAt H F ts its) (e : But L H H') (hL : H L = some (.lst xs)) (n : F ≠ L) : PrsAt H' F ts its := ⟨e _ _ n h.l, h.n, fun k t it h1 h2 => e _ _ (fun z => by have := h.at_ k t it h1 h2; rw [z, hL] at this; cases this) (h.at_ k t it h1 h2)⟩
/-- all words of k signs that lead somewhere -/
structure LvOk (ms : List Mv) (k : Nat) (its : List (List Nat × Nat)) : Prop where
  iff : ∀ u s, (u, s) ∈ its ↔ u.length = k ∧ LedR (edgeM ms) 0 u.reverse s
  len : its.length ≤ 2 ^ k
/-- all words of at most k signs that lead somewhere -/
structure FdOk (ms : List Mv) (k : Nat) (its : List (List Nat × Nat)) : Prop where
  iff : ∀ u s, (u, s) ∈ its ↔ u.length ≤ k ∧ LedR (edgeM ms) 0 u.reverse s
  len : its.length + 1 ≤ 2 ^ (k + 1)
structure LgOk (ms : List Mv) (lv : List (List Nat × Nat)) (lg : List (List Nat × Nat)) : Prop where
  iff : ∀ v t, (v, t) ∈ lg ↔ ∃ u s a, (u, s) ∈ lv ∧ v = u ++ [a] ∧ edgeM ms s a t
  len : lg.length ≤ 2 * lv.length
theorem LvOk.zero {ms : List Mv} : LvOk ms 0 [([], 0)] := ⟨fun u s => by
  constructor
  · intro h
    cases List.mem_singleton.mp h
    exact ⟨rfl, .nil⟩
  · rintro ⟨h, l⟩
    obtain rfl := List.eq_nil_of_length_eq_zero h
    cases l
    exact List.mem_singleton.mpr rfl, Nat.le_refl _⟩
theorem FdOk.zero {ms : List Mv} : FdOk ms 0 [([], 0)] := ⟨fun u s => by
  rw [LvOk.zero.iff]
  exact ⟨fun h => ⟨Nat.le_of_eq h.1, h.2⟩, fun h => ⟨Nat.le_zero.mp h.1, h.2⟩⟩, Nat.le_refl _⟩
theorem LvOk.next {ms : List Mv} {k : Nat} {lv lg : List (List Nat × Nat)} (V : LvOk ms k lv) (G : LgOk ms lv lg) : LvOk ms (k + 1) lg := by
  refine ⟨fun v t => ?_, ?_⟩
  · rw [G.iff]
    constructor
    · rintro ⟨u, s, a, h, rfl, e⟩
      obtain ⟨h1, h2⟩ := (V.iff u s).mp h
      refine ⟨by simp [h1], ?_⟩
      rw [List.reverse_append]
      exact .cons h2 e
    · rintro ⟨h1, h2⟩
      have hv : v.reverse.length = k + 1 := by rw [List.length_reverse]; exact h1
      generalize hw : v.reverse = w at h2 hv
      cases h2 with
      | nil => simp at hv
      | @cons v' q a t h e =>
        refine ⟨v'.reverse, q, a, (V.iff _ _).mpr ⟨by simpa using hv, by rw [List.reverse_reverse]; exact h⟩, ?_, e⟩
        have := congrArg List.reverse hw
        rw [List.reverse_reverse] at this
        rw [this]; simp
  · have h1 := G.len
    have h2 := V.len
    rw [Nat.pow_succ]
    omega
theorem FdOk.next {ms : List Mv} {k : Nat} {fd lg : List (List Nat × Nat)} (F : FdOk ms k fd) (V : LvOk ms (k + 1) lg) : FdOk ms (k + 1) (fd ++ lg) := by
  refine ⟨fun u s => ?_, ?_⟩
  · rw [List.mem_append, F.iff, V.iff]
    constructor
    · rintro (⟨h, l⟩ | ⟨h, l⟩)
      · exact ⟨by omega, l⟩
      · exact ⟨by omega, l⟩
    · rintro ⟨h, l⟩
      by_cases e : u.length ≤ k
      · exact .inl ⟨e, l⟩
      · exact .inr ⟨by omega, l⟩
  · have h1 := F.len
    have h2 := V.len
    rw [List.length_append]
    have : 2 ^ (k + 1 + 1) = 2 ^ (k + 1) + 2 ^ (k + 1) := by rw [Nat.pow_succ]; omega
    omega
theorem LgOk.zero {ms : List Mv} {lv : List (List Nat × Nat)} : LgOk ms (lv.take 0) [] := ⟨fun v t => by simp, by simp⟩
theorem LgOk.step {ms : List Mv} {lv lg nw : List (List Nat × Nat)} {j : Nat} {u : List Nat} {s : Nat} (G : LgOk ms (lv.take j) lg) (h : lv[j]? = some (u, s)) (hn : ∀ v t, (v, t) ∈ nw ↔ ∃ a, v = u ++ [a] ∧ edgeM ms s a t) (ln : nw.length ≤ 2) : LgOk ms (lv.take (j + 1)) (lg ++ nw) := by
  rw [List.take_add_one, h]
  refine ⟨fun v t => ?_, ?_⟩
  · rw [List.mem_append, G.iff, hn]
    simp only [Option.toList_some, List.mem_append, List.mem_singleton]
    constructor
    · rintro (⟨u', s', a, h1, h2, h3⟩ | ⟨a, h2, h3⟩)
      · exact ⟨u', s', a, .inl h1, h2, h3⟩
      · exact ⟨u, s, a, .inr rfl, h2, h3⟩
    · rintro ⟨u', s', a, h1 | h1, h2, h3⟩
      · exact .inl ⟨u', s', a, h1, h2, h3⟩
      · cases h1
        exact .inr ⟨a, h2, h3⟩
  · have := G.len
    rw [List.length_append, List.length_append]
    simp only [Option.toList_some, List.length_singleton]
    omega
/-- one more sign behind a word -/
theorem more_edge {ms : List Mv} {s : Nat} {m : Mv} {u : List Nat} {ls : List Str} (hm : ms[s]? = some m) (nd : (m.map (·.1)).Nodup) (sg : ∀ q ∈ m, ∃ c ∈ ("abcde" : Str).cps.toList, q.1 = ⟨#[c]⟩) (hl : ls.Perm (m.map (·.1))) :
    ∀ v t, (v, t) ∈ ls.map (fun z => (u ++ [codeOf z], tgtOf m z)) ↔ ∃ a, v = u ++ [a] ∧ edgeM ms s a t := fun v t => by
  constructor
  · intro h
    obtain ⟨z, hz, e⟩ := List.mem_map.mp h
    cases e
    obtain ⟨q, hq, rfl⟩ := List.mem_map.mp (hl.mem_iff.mp hz)
    have zc : sgS (codeOf q.1) = q.1 := nS_code (sg q hq)
    refine ⟨_, rfl, m, hm, ?_⟩
    rw [zc, tgtOf_mem nd hq]
    exact hq
  · rintro ⟨a, rfl, m', h1, h2⟩
    rw [hm] at h1
    cases h1
    refine List.mem_map.mpr ⟨sgS a, hl.mem_iff.mpr (List.mem_map.mpr ⟨_, h2, rfl⟩), ?_⟩
    rw [tgtOf_mem nd h2]
    rfl
theorem led_lt {ms : List Mv} {v : List Nat} {s : Nat} (hed : ∀ p a t, edgeM ms p a t → t < ms.length) (n0 : 0 < ms.length) (h : LedR (edgeM ms) 0 v s) : s < ms.length := by
  cases h with
  | nil => exact n0
  | cons _ e => exact hed _ _ _ e
section
variable {P : Program} {w : World} {K : PySem.W.Frag} {mg : Str → Option Value} {base : Heap}
/-- plain moves of few signs -/
structure PlMv (zs : List Str) (ms : List Mv) : Prop where
  ok : MvsOk zs ms
  nd : ∀ m ∈ ms, (m.map (·.1)).Nodup
  two : ∀ m ∈ ms, m.length ≤ 2
  pos : 0 < ms.length
  sg : ∀ z ∈ zs, ∃ c ∈ ("abcde" : Str).cps.toList, z = ⟨#[c]⟩
theorem PlMv.lt {zs : List Str} {ms : List Mv} (M : PlMv zs ms) : ∀ p a t, edgeM ms p a t → t < ms.length := fun p a t ⟨m, h1, h2⟩ => (M.ok.sg m (List.mem_of_getElem? h1) _ h2).2
def spLed (K : PySem.W.Frag) : Sp := fun vs H Q _ => ∃ a rs ds ms ls zs n, vs = [.ref a, .int ((n : Nat) : Int)] ∧ PlainAt K H a rs ds ms ls ∧ PlMv zs ms ∧ n ≤ 10 ∧ ∀ F ts fd H', Same H H' → PrsAt H' F ts fd → FdOk ms n fd → Q (.ref F) H'
abbrev N_law_led : List Str := ["_law_plain", "_law_size", "_law_found", "_law_level", "_law_turn", "_law_longer", "_law_word_here", "_law_state", "_law_sign"]
theorem sc_law_led : FnScope N_law_led ["_law_plain", "_law_size"] (defScope (top 93)) := ⟨rfl, rfl, rfl, by decide +kernel, rfl, by decide +kernel, by decide +kernel⟩
theorem c_law_led (A : At K mg "_law_led" (top 93)) (B : Blt mg) : Cal P w K mg base 1 "_law_led" (spLed K) := by
  refine cal_of A sc_law_led (fun _ _ _ _ _ _ us hl => match us, hl with | [_, _], _ => rfl) (fun vs H Q E h => ?_) (fun _ cdv A outer s H vs Q E hr h => ?_)
  · obtain ⟨_, _, _, _, _, _, _, rfl, _⟩ := h; rfl
  · obtain ⟨a, rs, ds, ms, ls, zs, n, rfl, hP, M, n10, hQ⟩ := h
    refine ⟨_, (pss_cons (ps_par (i := 2) (j := 3) (by rfl) sc_law_led.nd rfl rfl (by decide) rfl rfl (pa_cons (pe_lst (pa_cons (pe_tup (pa_cons pe_str (pa_cons pe_int pa_nil))) pa_nil)) (pa_cons (pe_lst (pa_cons (pe_tup (pa_cons pe_str (pa_cons pe_int pa_nil))) pa_nil)) pa_nil)) (by rfl))
      (pss_cons (ps_for PassesOwn.never rfl (pi_range1 (by rfl) B.range (pa_cons (pv 1) pa_nil)) (pg_name (i := 4) sc_law_led.nd rfl (Or.inl rfl))
        (pss_cons (ps_set (i := 5) sc_law_led.nd rfl (Or.inl rfl) (pe_lst pa_nil))
        (pss_cons (ps_for PassesOwn.never rfl (pi_list (pv 3)) (pg_tup rfl (pgs_cons (pg_name (i := 6) sc_law_led.nd rfl (Or.inr rfl)) (pgs_cons (pg_name (i := 7) sc_law_led.nd rfl (Or.inr rfl)) pgs_nil)))
          (pss_one (ps_expr (pe_bm PySem.F.plainAttrs_list PySem.F.slot_list_extend PySem.F.type_list_extend mt_extend (pv 5) (pa_cons (pe_lc (own := [("_law_sign", 8)]) (g := gName 8) (tt := tYes) (by rfl) sc_law_led.nd (pi_list (pe_callB (call_sortedD rfl) (by rfl) B.sorted (by decide +kernel) (pa_cons (pe_ix ix_list (pe_ix ix_list (pv 0) (pv 7) (fun _ _ => rfl)) pe_int (fun _ _ => rfl)) pa_nil))) (blkOk_by (own := [("_law_sign", 8)]) (N := N_law_led) (sc := defScope (top 93)) (by decide +kernel)) (fun _ _ _ _ _ => (pg_name (i := 8) sc_law_led.nd rfl (Or.inl rfl))) (fun _ _ _ _ _ => pts_nil)
            (fun _ _ _ _ _ => (pe_tup (pa_cons (pe_op op_add_str (pv 6) (pv 8)) (pa_cons (pe_dget (hu_of hr) (pe_ix (ixLK (K := K) rfl) (pe_ix (ixLK (K := K) rfl) (pv 0) (pv 7) (fun _ _ => rfl)) pe_int (fun _ _ => rfl)) (pv 8) (fun _ _ => rfl)) pa_nil))))) pa_nil)))))
        (pss_cons (ps_set (i := 3) sc_law_led.nd rfl (Or.inl rfl) (pe_callTy call_list_of (by rfl) B.list (by decide +kernel) (pa_cons (pv 5) pa_nil)))
        (pss_one (ps_set (i := 2) sc_law_led.nd rfl (Or.inl rfl) (pe_op op_cat (pv 2) (pv 5))))))))
      (pss_one (ps_ret (pv 2))))), ?_⟩
    have one : 1 ≤ sizeLine := by decide
    have two : 2 ≤ sizeLine := by decide
    have big : 100000 < sizeLine := by decide
    have p2 : ∀ {k}, k ≤ 11 → 2 ^ k ≤ 2048 := fun {k} h => Nat.pow_le_pow_right (by decide) h
    have lrs : (rs.map V.ref).length = ms.length := by rw [List.length_map, hP.lr]
    refine ⟨two, fun t1 ht1 => ⟨one, fun F hF => ⟨two, fun t2 ht2 => ⟨one, fun L hL => ⟨_, _, rfl, ?_⟩⟩⟩⟩⟩
    have s1 := same_new (o := .tup [.str "", .int 0]) ht1
    have s2 := s1.trans (same_new (o := .lst [.ref t1]) hF)
    have s3 := s2.trans (same_new (o := .tup [.str "", .int 0]) ht2)
    have s4 := s3.trans (same_new (o := .lst [.ref t2]) hL)
    have PF : PrsAt (upd (upd (upd (upd H t1 (.tup [.str "", .int 0])) F (.lst [.ref t1])) t2 (.tup [.str "", .int 0])) L (.lst [.ref t2])) F [t1] [([], 0)] := by
      refine ⟨((same_new (o := .tup [.str "", .int 0]) ht2).trans (same_new (o := .lst [.ref t2]) hL)) _ _ upd_same, rfl, fun k t it h1 h2 => ?_⟩
      have k0 : k = 0 := by have := (List.getElem?_eq_some_iff.mp h1).1; simpa using this
      subst k0
      cases h1
      cases h2
      exact (((same_new (o := .lst [.ref t1]) hF).trans (same_new (o := .tup [.str "", .int 0]) ht2)).trans (same_new (o := .lst [.ref t2]) hL)) _ _ upd_same
    have PL : PrsAt (upd (upd (upd (upd H t1 (.tup [.str "", .int 0])) F (.lst [.ref t1])) t2 (.tup [.str "", .int 0])) L (.lst [.ref t2])) L [t2] [([], 0)] := by
      refine ⟨upd_same, rfl, fun k t it h1 h2 => ?_⟩
      have k0 : k = 0 := by have := (List.getElem?_eq_some_iff.mp h1).1; simpa using this
      subst k0
      cases h1
      cases h2
      exact (same_new (o := .lst [.ref t2]) hL) _ _ upd_same
    generalize upd (upd (upd (upd H t1 (.tup [.str "", .int 0])) F (.lst [.ref t1])) t2 (.tup [.str "", .int 0])) L (.lst [.ref t2]) = H1 at s4 PF PL ⊢
    clear s1 s2 s3
    refine ⟨_, rfl, _, rfl, by omega, by omega, ?_⟩
    refine for_it (n := n) (walk_range (lo := 0)) (fun i σ H' => (∃ F L o4 o5 o6 o7 tf tl fd lv, σ = [some (.ref a), some (.int ((n : Nat) : Int)), some (.ref F), some (.ref L), o4, o5, o6, o7, none] ∧ PrsAt H' F tf fd ∧ PrsAt H' L tl lv ∧ FdOk ms i fd ∧ LvOk ms i lv) ∧ Same H H') ⟨⟨F, L, _, _, _, _, _, _, _, _, rfl, PF, PL, FdOk.zero, LvOk.zero⟩, s4⟩ (fun _ _ _ _ _ => trivial) (fun i y σ Ha Hb hi e hy => ?_) (fun σ H2 e => ?_)
    · obtain ⟨rfl, rfl⟩ := hy
      clear PF PL s4 hF hL ht1 ht2 F L t1 t2
      obtain ⟨⟨F, L, o4, o5, o6, o7, tf, tl, fd, lv, rfl, PF, PL, FD, LV⟩, ea⟩ := e
      refine ⟨Nat.zero_le _, fun G hG => ?_⟩
      have f1 := same_new (o := .lst []) hG
      have FG : F ≠ G := ne_of_none PF.l hG
      have LG : L ≠ G := ne_of_none PL.l hG
      have PFc := PF.same f1
      have PLc := PL.same f1
      have ec := ea.trans f1
      have apG : ∀ b u, H b = some u → b ≠ G := fun b u h => ne_of_none (ea _ _ h) hG
      have hGc : upd Hb G (.lst []) G = some (.lst []) := upd_same
      generalize upd Hb G (.lst []) = Hc at PFc PLc ec hGc ⊢
      clear PF PL f1
      refine ⟨_, rfl, L, rfl, ⟨_, SqL.of PLc.l⟩, for_it walk_list (fun j σ H' => (∃ o6 o7, σ = [some (.ref a), some (.int ((n : Nat) : Int)), some (.ref F), some (.ref L), some (.int (0 + (i : Int))), some (.ref G), o6, o7, none]) ∧ But G Hc H' ∧ ∃ tg lg, PrsAt H' G tg lg ∧ LgOk ms (lv.take j) lg) ⟨⟨_, _, rfl⟩, But.refl, [], [], ⟨hGc, rfl, fun k t it h => by simp at h⟩, LgOk.zero⟩ (fun j σ H' _ e => e.2.1.seqL (SqL.of PLc.l) LG) (fun j y σ Hd He hj e hy => ?_) (fun σ H3 e => ?_)⟩
      · obtain ⟨rfl, hy⟩ := hy
        obtain ⟨⟨o6, o7, rfl⟩, bd, tg, lg, PG, GO⟩ := e
        rw [List.getElem?_map] at hy
        obtain ⟨t, ht, rfl⟩ := Option.map_eq_some_iff.mp hy
        have jl : j < lv.length := by rw [← PLc.n]; exact (List.getElem?_eq_some_iff.mp ht).1
        have hlv := List.getElem?_eq_getElem jl
        obtain ⟨u, st, hus⟩ : ∃ u st, lv[j] = (u, st) := ⟨lv[j].1, lv[j].2, rfl⟩
        rw [hus] at hlv
        have mlv : (u, st) ∈ lv := List.mem_of_getElem? hlv
        obtain ⟨lu, led⟩ := (LV.iff u st).mp mlv
        have stn := led_lt M.lt M.pos led
        have htv := PLc.at_ j t _ ht hlv
        have tG : t ≠ G := fun z => by rw [z, hGc] at htv; cases htv
        have hm := List.getElem?_eq_getElem stn
        generalize ms[st] = m at hm
        have mm : m ∈ ms := List.mem_of_getElem? hm
        have hr1 : rs[st]? = some (rs[st]'(by rw [hP.lr]; exact stn)) := List.getElem?_eq_getElem _
        have hd1 : ds[st]? = some (ds[st]'(by rw [hP.dc.1]; exact stn)) := List.getElem?_eq_getElem _
        have hl1 : ls[st]? = some (ls[st]'(by rw [hP.ll]; exact stn)) := List.getElem?_eq_getElem _
        generalize rs[st]'(by rw [hP.lr]; exact stn) = r at hr1
        generalize ds[st]'(by rw [hP.dc.1]; exact stn) = d at hd1
        generalize ls[st]'(by rw [hP.ll]; exact stn) = l at hl1
        have up : Same H He := fun b o z => bd b o (apG b o z) (ec _ _ z)
        have hPe := hP.same up
        have hrow := hPe.pr st r d l hr1 hd1 hl1
        have hdd := hPe.dc.2 st d m hd1 hm
        have at_r : atI (rs.map V.ref) (st : Int) = some (.ref r) := atI_nat (by rw [List.getElem?_map, hr1]; rfl)
        have nd := M.nd m mm
        have len2 := M.two m mm
        have sgq : ∀ q ∈ m, ∃ c ∈ ("abcde" : Str).cps.toList, q.1 = ⟨#[c]⟩ := fun q hq => M.sg _ (M.ok.sg m mm q hq).1
        refine ⟨t, _, rfl, .inl (.inl (bd _ _ tG htv)), rfl, _, _, rfl, _, _, rfl, rfl, ?_⟩
        refine ⟨_, rfl, .inl ⟨rfl, _, SqL.of PG.l⟩, _, rfl, _, rfl, a, _, _, _, rfl, rfl, hPe.lst, at_r, r, _, 0, _, rfl, rfl, SqL.of hrow, rfl, d, mvK m, m.map (·.1), rfl, .inl hdd, by simp [mvK], by rw [List.length_map]; omega, fun ks kq hks _ hkq => ?_⟩
        have sK := same_new (o := .lst (ks.map V.str)) hkq
        have uK : upd He kq (.lst (ks.map V.str)) kq = some (.lst (ks.map V.str)) := upd_same
        generalize upd He kq (.lst (ks.map V.str)) = Hf at sK uK ⊢
        have lk : ks.length = m.length := by rw [hks.length_eq, List.length_map]
        refine ⟨kq, rfl, ⟨_, SqL.of uK⟩, fun D hD => ?_⟩
        refine lc_newF walk_list (ks.map V.str) rfl (by rw [List.length_map]; omega) (fun _ _ _ _ _ y => y) hD (fun H' e => Same.seq e (SqL.of uK)) (fun _ _ => rfl) (fun k v H' => ∃ z, ks[k]? = some z ∧ H' v = some (PrV (u ++ [codeOf z], tgtOf m z))) (fun k v _ _ upp n ⟨z, r1, r2⟩ => ⟨z, r1, upp _ _ n r2⟩) (fun _ _ _ ⟨_, _, r2⟩ => ⟨_, r2⟩) (fun k x hx H2 e2 _ Q' q' => ?_) (fun H' qs e' u' nq nD lq r' => ?_)
        · rw [List.getElem?_map] at hx
          obtain ⟨z, hz, rfl⟩ := Option.map_eq_some_iff.mp hx
          have zk := hks.mem_iff.mp (List.mem_of_getElem? hz)
          obtain ⟨q, hq, hqz⟩ := List.mem_map.mp zk
          have zc : sgS (codeOf z) = z := nS_code (by rw [← hqz]; exact sgq q hq)
          have hP2 := (hPe.same sK).same e2
          refine ⟨_, rfl, _, rfl, _, _, rfl, rfl, ?_, _, rfl, _, rfl, a, _, _, _, rfl, rfl, hP2.lst, at_r, r, _, 0, _, rfl, rfl, SqL.of (hP2.pr st r d l hr1 hd1 hl1), rfl, _, rfl, d, .int (tgtOf m z : Int), rfl, .inl ⟨_, .inr z, .inl (hP2.dc.2 st d m hd1 hm), rfl, (valV_mv nd zk).symm⟩, two, fun T hT => ?_⟩
          · have q1 : (wS u).length = i := by rw [wS_len]; exact lu
            have q2 : z.length = 1 := by rw [← zc]; rfl
            show (wS u).length + z.length ≤ _
            omega
          · have ew : wS u ++ z = wS (u ++ [codeOf z]) := by
              conv => lhs; rw [← zc]
              exact wS_app u [codeOf z]
            refine q' T _ hT (same_new hT) ⟨z, hz, ?_⟩
            rw [upd_same]
            show some (HO.tup [.str (wS u ++ z), _]) = _
            rw [ew]
            rfl
        · have PG' := (PG.same sK).same e'
          have lw := LV.len
          have lgl := GO.len
          have ltk : (lv.take j).length ≤ lv.length := List.length_take_le' ..
          have p10 := p2 (k := i) (by omega)
          have GD : G ≠ D := ne_of_none (sK _ _ PG.l) hD
          have eh : Same He H' := sK.trans e'
          refine ⟨G, D, _, _, rfl, rfl, PG'.l, u', ?_, ⟨_, _, rfl⟩, (bd.same eh).put, tg ++ qs, lg ++ ks.map (fun z => (u ++ [codeOf z], tgtOf m z)), ⟨by rw [upd_same, List.map_append], ?_, fun k t' it h1 h2 => ?_⟩, GO.step hlv (more_edge hm nd sgq hks) (by rw [List.length_map]; omega)⟩
          · have := PG.n
            rw [List.length_map, List.length_map, lq, List.length_map]
            omega
          · have := PG.n
            rw [List.length_append, List.length_append, this, lq, List.length_map, List.length_map]
          · have hgn := PG.n
            rcases Nat.lt_or_ge k tg.length with hk | hk
            · rw [List.getElem?_append_left hk] at h1
              rw [List.getElem?_append_left (by omega)] at h2
              have h3 := PG'.at_ k t' it h1 h2
              rw [upd_ne fun z => by rw [z, PG'.l] at h3; cases h3]
              exact h3
            · rw [List.getElem?_append_right hk] at h1
              rw [List.getElem?_append_right (by omega), List.getElem?_map] at h2
              obtain ⟨z, g1, g2⟩ := r' _ t' h1
              rw [← hgn, g1] at h2
              cases h2
              rw [upd_ne fun z => by rw [z, PG'.l] at g2; cases g2]
              exact g2
      · obtain ⟨⟨o6, o7, rfl⟩, bd, tg, lg, PG, GO⟩ := e
        have lw := LV.len
        have p11 := p2 (k := i + 1) (by omega)
        rw [List.length_map, PLc.n, List.take_length] at GO
        have LV2 := LV.next GO
        have FD2 := FD.next LV2
        have p12 : 2 ^ (i + 1 + 1) ≤ 4096 := by rw [Nat.pow_succ]; omega
        have l2 := LV2.len
        have l3 := FD2.len
        rw [List.length_append] at l3
        refine ⟨_, rfl, G, _, rfl, .inl (SqL.of PG.l), fun L2 hL2 => ?_⟩
        have f2 := same_new (o := .lst (tg.map V.ref)) hL2
        have PFd := (PFc.but bd hGc FG).same f2
        have PG2 := PG.same f2
        have hL2' : upd H3 L2 (.lst (tg.map V.ref)) L2 = some (.lst (tg.map V.ref)) := upd_same
        have up : Same H (upd H3 L2 (.lst (tg.map V.ref))) := fun b o z => f2 _ _ (bd b o (apG b o z) (ec _ _ z))
        generalize upd H3 L2 (.lst (tg.map V.ref)) = H4 at PFd PG2 hL2' up ⊢
        refine ⟨_, rfl, _, rfl, _, _, _, _, rfl, rfl, PFd.l, PG2.l, ?_, fun F2 hF2 => ?_⟩
        · have := PFd.n
          have := PG2.n
          rw [List.length_map, List.length_map]
          omega
        · have f3 := same_new (o := .lst (tf.map V.ref ++ tg.map V.ref)) hF2
          refine ⟨⟨F2, L2, _, _, _, _, tf ++ tg, tg, fd ++ lg, lg, rfl, ⟨by rw [upd_same, List.map_append], by rw [List.length_append, List.length_append, PFd.n, PG2.n], fun k t it h1 h2 => ?_⟩, ⟨f3 _ _ hL2', PG2.n, fun k t it h1 h2 => f3 _ _ (PG2.at_ k t it h1 h2)⟩, FD2, LV2⟩, up.trans f3⟩
          have hfn := PFd.n
          rcases Nat.lt_or_ge k tf.length with hk | hk
          · rw [List.getElem?_append_left hk] at h1
            rw [List.getElem?_append_left (by omega)] at h2
            exact f3 _ _ (PFd.at_ k t it h1 h2)
          · rw [List.getElem?_append_right hk] at h1
            rw [List.getElem?_append_right (by omega), ← hfn] at h2
            exact f3 _ _ (PG2.at_ _ t it h1 h2)
    · obtain ⟨⟨F, L, o4, o5, o6, o7, tf, tl, fd, lv, rfl, PF, PL, FD, LV⟩, ea⟩ := e
      exact ⟨_, rfl, hQ F tf fd H2 ea PF FD⟩
end
end MN
/-! the law k26: least distances to words that lead somewhere -/
namespace MN
open PySem PySem.Spec PyProof.Rows L2
def optV : Option Int → V
  | none => .non
  | some n => .int n
def optL (n : Nat) (f : Nat → Option Int) : List V := (List.range n).map fun s => optV (f s)
theorem optL_len {n : Nat} {f : Nat → Option Int} : (optL n f).length = n := by simp [optL]
theorem optL_get {n : Nat} {f : Nat → Option Int} {s : Nat} (h : s < n) : (optL n f)[s]? = some (optV (f s)) := by
  unfold optL
  rw [List.getElem?_map, List.getElem?_range h]; rfl
theorem optL_at {n : Nat} {f : Nat → Option Int} {s : Nat} (h : s < n) : atI (optL n f) (s : Int) = some (optV (f s)) := atI_nat (optL_get h)
theorem optL_set {n : Nat} {f : Nat → Option Int} {s : Nat} {v : Int} : (optL n f).set s (.int v) = optL n (fun y => if y = s then some v else f y) := by
  refine List.ext_getElem? fun k => ?_
  rw [List.getElem?_set]
  by_cases hk : k < n
  · by_cases e : s = k
    · subst e
      rw [if_pos rfl, if_pos (by rw [optL_len]; exact hk), optL_get hk]
      simp [optV]
    · rw [if_neg e, optL_get hk, optL_get hk]
      have e' : ¬ k = s := fun q => e q.symm
      simp only [e', if_false]
  · have l1 : (optL n f).length ≤ k := by rw [optL_len]; omega
    have l2 : (optL n (fun y => if y = s then some v else f y)).length ≤ k := by rw [optL_len]; omega
    rw [List.getElem?_eq_none l2, List.getElem?_eq_none l1]
    split
    · split
      · rw [optL_len] at *; omega
      · rfl
    · rfl
/-- the least numbers of some pairs -/
structure LeastOk (D : List Nat → Int) (its : List (List Nat × Nat)) (n : Nat) (f : Nat → Option Int) : Prop where
  some_ : ∀ s m, s < n → f s = some m → ∃ v, (v, s) ∈ its ∧ m = D v
  le : ∀ v s, (v, s) ∈ its → s < n → ∃ m, f s = some m ∧ m ≤ D v
theorem LeastOk.nil {D : List Nat → Int} {n : Nat} : LeastOk D [] n (fun _ => none) := ⟨fun _ _ _ h => (by cases h), fun _ _ h => (by cases h)⟩
theorem LeastOk.put {D : List Nat → Int} {its : List (List Nat × Nat)} {n : Nat} {f : Nat → Option Int} {v : List Nat} {s : Nat} (F : LeastOk D its n f) (h : ∀ m, f s = some m → D v < m) : LeastOk D (its ++ [(v, s)]) n (fun y => if y = s then some (D v) else f y) := by
  refine ⟨fun s' m hs e => ?_, fun v' s' hm hs => ?_⟩
  · by_cases q : s' = s
    · subst q
      simp at e
      exact ⟨v, List.mem_append_right _ (by simp), e.symm⟩
    · simp [q] at e
      obtain ⟨v', h1, h2⟩ := F.some_ s' m hs e
      exact ⟨v', List.mem_append_left _ h1, h2⟩
  · rcases List.mem_append.mp hm with hm | hm
    · obtain ⟨m, h1, h2⟩ := F.le v' s' hm hs
      by_cases q : s' = s
      · subst q
        have := h m h1
        exact ⟨D v, by simp, by omega⟩
      · exact ⟨m, by simp [q, h1], h2⟩
    · cases List.mem_singleton.mp hm
      exact ⟨D v, by simp, Int.le_refl _⟩
theorem LeastOk.keep {D : List Nat → Int} {its : List (List Nat × Nat)} {n : Nat} {f : Nat → Option Int} {v : List Nat} {s : Nat} {m : Int} (F : LeastOk D its n f) (h : f s = some m) (hm : m ≤ D v) : LeastOk D (its ++ [(v, s)]) n f := by
  refine ⟨fun s' m hs e => ?_, fun v' s' hv hs => ?_⟩
  · obtain ⟨v', h1, h2⟩ := F.some_ s' m hs e
    exact ⟨v', List.mem_append_left _ h1, h2⟩
  · rcases List.mem_append.mp hv with hv | hv
    · exact F.le v' s' hv hs
    · cases List.mem_singleton.mp hv
      exact ⟨m, h, hm⟩
section
variable {P : Program} {w : World} {K : PySem.W.Frag} {mg : Str → Option Value} {base : Heap}
def spLeastTo (K : PySem.W.Frag) : Sp := fun vs H Q _ => ∃ a rs ds ms ls zs T c u n, vs = [.ref a, .ref T, .str (wS u), .int ((n : Nat) : Int)] ∧ PlainAt K H a rs ds ms ls ∧ PlMv zs ms ∧ n ≤ 10 ∧ TabC H T (codesOf zs) c ∧ (∀ x, c x x = 0) ∧ (∀ l ∈ u, l ∈ codesOf zs) ∧ u.length ≤ 200 ∧
  ∀ F f its H', Same H H' → H' F = some (.lst (optL ms.length f)) → FdOk ms n its → LeastOk (fun v => Dc c u.reverse v.reverse) its ms.length f → Q (.ref F) H'
abbrev N_law_least_to : List Str := ["_law_plain", "_law_table", "_law_word_here", "_law_size", "_law_found", "_law_other", "_law_state", "_law_number"]
theorem sc_law_least_to : FnScope N_law_least_to ["_law_plain", "_law_table", "_law_word_here", "_law_size"] (defScope (top 94)) := ⟨rfl, rfl, rfl, by decide +kernel, rfl, by decide +kernel, by decide +kernel⟩
theorem c_law_least_to (A : At K mg "_law_least_to" (top 94)) (B : Blt mg) (c_law_led : Cal P w K mg base 1 "_law_led" (spLed K)) (c_law_distance : Cal P w K mg base 2 "_law_distance" spDist26) : Cal P w K mg base 3 "_law_least_to" (spLeastTo K) := by
  refine cal_of A sc_law_least_to (fun _ _ _ _ _ _ us hl => match us, hl with | [_, _, _, _], _ => rfl) (fun vs H Q E h => ?_) (fun _ cdv A outer s H vs Q E hr h => ?_)
  · obtain ⟨_, _, _, _, _, _, _, _, _, _, rfl, _⟩ := h; rfl
  · obtain ⟨a, rs, ds, ms, ls, zs, T, c, u, n, rfl, hP, M, n10, hT, cz, hu, lu, hQ⟩ := h
    refine ⟨_, (pss_cons (ps_set (i := 4) sc_law_least_to.nd rfl (Or.inl rfl) (pe_op op_rep (pe_lst (pa_cons pe_non pa_nil)) (pe_callB call_len_seq (by rfl) B.len (by decide +kernel) (pa_cons (pv 0) pa_nil))))
      (pss_cons (ps_for PassesOwn.never rfl (pi_list (pe_c c_law_led hr (by decide) (by rfl) (pa_cons (pv 0) (pa_cons (pv 3) pa_nil)))) (pg_tup rfl (pgs_cons (pg_name (i := 5) sc_law_least_to.nd rfl (Or.inl rfl)) (pgs_cons (pg_name (i := 6) sc_law_least_to.nd rfl (Or.inl rfl)) pgs_nil)))
        (pss_cons (ps_set (i := 7) sc_law_least_to.nd rfl (Or.inl rfl) (pe_c c_law_distance hr (by decide) (by rfl) (pa_cons (pv 1) (pa_cons (pv 2) (pa_cons (pv 5) pa_nil)))))
        (pss_one (ps_if (PW.pt (pw_or (pt_cmpR op_isN (pe_ix ix_list (pv 4) (pv 6) (fun _ _ => rfl)) pe_non (nomark _)) (pw_or1 (pt_cmpR op_lt (pv 7) (pe_ix ix_list (pv 4) (pv 6) (fun _ _ => rfl)) (nomark _)))))
          (pss_one (ps_asg (pv 7) (pg_sub (pv 4) (pv 6) set_list)))
          pss_nil))))
      (pss_one (ps_ret (pv 4))))), ?_⟩
    have one : 1 ≤ sizeLine := by decide
    have big : 100000 < sizeLine := by decide
    have n8 := M.ok.n8
    have lrs : (rs.map V.ref).length = ms.length := by rw [List.length_map, hP.lr]
    refine ⟨one, fun L0 hL0 => ?_⟩
    have s0 := same_new (o := .lst [.non]) hL0
    have u0 : upd H L0 (.lst [.non]) L0 = some (.lst [.non]) := upd_same
    generalize upd H L0 (.lst [.non]) = H0 at s0 u0 ⊢
    refine ⟨_, rfl, a, _, rfl, .inl (hP.same s0).lst, _, _, _, rfl, rfl, u0, by omega, by omega, ?_, fun F hF => ?_⟩
    · rw [lrs]
      show 1 * _ ≤ _
      omega
    rw [lrs, show (List.replicate ((ms.length : Nat) : Int).toNat [V.non]).flatten = optL ms.length (fun _ => none) by
      rw [show ((ms.length : Nat) : Int).toNat = ms.length by omega, List.flatten_replicate_singleton]
      unfold optL optV
      exact (List.map_const' ..).symm ▸ by rw [List.length_range]]
    have s1 := same_new (o := .lst (optL ms.length (fun _ => none))) hF
    have u1 : upd H0 F (.lst (optL ms.length (fun _ => none))) F = some (.lst (optL ms.length (fun _ => none))) := upd_same
    have e1 := s0.trans s1
    have fF : H F = none := s0.free hF
    generalize upd H0 F (.lst (optL ms.length (fun _ => none))) = H1 at u1 e1 ⊢
    refine ⟨_, rfl, _, rfl, a, rs, ds, ms, ls, zs, n, rfl, hP.same e1, M, n10, fun G ts its H2 e2 PG FD => ?_⟩
    have u2 := e2 _ _ u1
    have e12 := e1.trans e2
    have apF : ∀ b o, H b = some o → b ≠ F := fun b o h => ne_of_none h fF
    have GF : G = F ∨ G ≠ F := Classical.em _
    refine ⟨G, rfl, ⟨_, SqL.of PG.l⟩, ?_⟩
    have hGF : ∀ {b : Addr} {ys : List V}, b = F → H2 b = some (.lst ys) → ys = optL ms.length (fun _ => none) := fun {b ys} e h => by
      rw [e, u2] at h
      injection h with h
      injection h with h
      exact h.symm
    have nGF : G ≠ F := fun z => by
      have := hGF z PG.l
      have h0 := congrArg (fun l : List V => l[0]?) this
      simp only [optL_get M.pos, optV] at h0
      rw [List.getElem?_map] at h0
      cases q : ts[0]? <;> rw [q] at h0 <;> cases h0
    refine for_it walk_list (fun k σ H' => (∃ o5 o6 o7, σ = [some (.ref a), some (.ref T), some (.str (wS u)), some (.int ((n : Nat) : Int)), some (.ref F), o5, o6, o7]) ∧ But F H2 H' ∧ ∃ f, H' F = some (.lst (optL ms.length f)) ∧ LeastOk (fun v => Dc c u.reverse v.reverse) (its.take k) ms.length f) ⟨⟨_, _, _, rfl⟩, But.refl, _, u2, by rw [List.take_zero]; exact LeastOk.nil⟩ (fun k σ H' _ e => e.2.1.seqL (SqL.of PG.l) nGF) (fun k y σ Ha Hb hk e hy => ?_) (fun σ H3 e => ?_)
    · obtain ⟨rfl, hy⟩ := hy
      obtain ⟨⟨o5, o6, o7, rfl⟩, ea, f, hFa, LO⟩ := e
      rw [List.getElem?_map] at hy
      obtain ⟨t, ht, rfl⟩ := Option.map_eq_some_iff.mp hy
      have kl : k < its.length := by rw [← PG.n]; exact (List.getElem?_eq_some_iff.mp ht).1
      have hit := List.getElem?_eq_getElem kl
      obtain ⟨v, st, hvs⟩ : ∃ v st, its[k] = (v, st) := ⟨its[k].1, its[k].2, rfl⟩
      rw [hvs] at hit
      obtain ⟨lv, led⟩ := (FD.iff v st).mp (List.mem_of_getElem? hit)
      have stn := led_lt M.lt M.pos led
      have hov : ∀ l ∈ v, l ∈ codesOf zs := fun l hl => led.over (L := codesOf zs) (edge_in M.ok M.sg) l (List.mem_reverse.mpr hl)
      have htv := PG.at_ k t _ ht hit
      have tF : t ≠ F := fun z => by rw [z, u2] at htv; cases htv
      have up : Same H Hb := fun b o z => ea b o (apF b o z) (e12 _ _ z)
      have tk : its.take (k + 1) = its.take k ++ [(v, st)] := by rw [List.take_add_one, hit]; rfl
      refine ⟨t, _, rfl, .inl (.inl (ea _ _ tF htv)), rfl, _, _, rfl, _, _, rfl, rfl, ?_⟩
      refine ⟨_, rfl, _, rfl, _, rfl, T, codesOf zs, c, u, v, rfl, hT.same up, hu, hov, cz, lu, by omega, fun Hc ec => ?_⟩
      have hFc := ec _ _ hFa
      have bc := ea.same ec
      refine ⟨_, rfl, _, rfl, F, _, _, _, rfl, rfl, SqL.of hFc, optL_at stn, rfl, _, rfl, ?_⟩
      have store : (∀ m, f st = some m → Dc c u.reverse v.reverse < m) → (∃ o5 o6 o7, ([some (.ref a), some (.ref T), some (.str (wS u)), some (.int ((n : Nat) : Int)), some (.ref F), some (.str (wS v)), some (.int (st : Int)), some (.int (Dc c u.reverse v.reverse))] : L2.St) = [some (.ref a), some (.ref T), some (.str (wS u)), some (.int ((n : Nat) : Int)), some (.ref F), o5, o6, o7]) ∧ But F H2 (upd Hc F (.lst ((optL ms.length f).set st (.int (Dc c u.reverse v.reverse))))) ∧ ∃ f', upd Hc F (.lst ((optL ms.length f).set st (.int (Dc c u.reverse v.reverse)))) F = some (.lst (optL ms.length f')) ∧ LeastOk (fun v => Dc c u.reverse v.reverse) (its.take (k + 1)) ms.length f' := fun h => ⟨⟨_, _, _, rfl⟩, bc.put, _, by rw [upd_same, optL_set], by rw [tk]; exact LO.put h⟩
      cases hf : f st with
      | none =>
        refine iteT (iteT ?_)
        exact ⟨_, rfl, _, rfl, _, rfl, F, _, _, st, rfl, rfl, hFc, by rw [optL_len]; exact ixN_lt stn, store fun m h => by rw [hf] at h; cases h⟩
      | some m =>
        refine iteF ⟨_, rfl, _, rfl, _, rfl, F, _, _, _, rfl, rfl, SqL.of hFc, optL_at stn, ?_⟩
        rw [hf]
        refine ⟨_, _, rfl, rfl, _, rfl, ?_⟩
        refine ite2 (fun q => ?_) (fun q => ?_)
        · have q := of_decide_eq_true q
          exact ⟨_, rfl, _, rfl, _, rfl, F, _, _, st, rfl, rfl, hFc, by rw [optL_len]; exact ixN_lt stn, store fun m' h => by rw [hf] at h; cases h; exact q⟩
        · have q : ¬ Dc c u.reverse v.reverse < m := fun z => q (decide_eq_true z)
          exact ⟨⟨_, _, _, rfl⟩, bc, f, hFc, by rw [tk]; exact LO.keep hf (by show m ≤ Dc c u.reverse v.reverse; omega)⟩
    · obtain ⟨⟨o5, o6, o7, rfl⟩, ea, f, hFa, LO⟩ := e
      rw [List.length_map, PG.n, List.take_length] at LO
      exact ⟨_, rfl, hQ F f its H3 (fun b o z => ea b o (apF b o z) (e12 _ _ z)) hFa FD LO⟩
end
end MN
/-! the law k26: its plain law -/
namespace MN
open PySem PySem.Spec PyProof.Rows L2
theorem edge_eq {ms ms' : List Mv} (h : MsEq ms ms') : edgeM ms' = edgeM ms := by
  funext p a t
  refine propext ⟨fun ⟨m', h1, h2⟩ => ?_, fun ⟨m, h1, h2⟩ => ?_⟩
  · have hp : p < ms.length := by rw [← h.1]; exact (List.getElem?_eq_some_iff.mp h1).1
    have hm := List.getElem?_eq_getElem hp
    exact ⟨_, hm, (h.2 p _ m' hm h1).mem_iff.mp h2⟩
  · have hp : p < ms'.length := by rw [h.1]; exact (List.getElem?_eq_some_iff.mp h1).1
    have hm := List.getElem?_eq_getElem hp
    exact ⟨_, hm, (h.2 p m _ h1 hm).mem_iff.mpr h2⟩
theorem MvsOk.perm {zs ys : List Str} {ms ms' : List Mv} (h : MvsOk zs ms) (e : MsEq ms ms') (hy : ∀ z ∈ zs, z ∈ ys) : MvsOk ys ms' := by
  have key : ∀ m' ∈ ms', ∃ m ∈ ms, m'.Perm m := fun m' hm => by
    obtain ⟨i, hi⟩ := List.mem_iff_getElem?.mp hm
    have il : i < ms.length := by rw [← e.1]; exact (List.getElem?_eq_some_iff.mp hi).1
    exact ⟨ms[i], List.getElem_mem il, e.2 i _ m' (List.getElem?_eq_getElem il) hi⟩
  refine ⟨by rw [e.1]; exact h.n8, fun m' hm => ?_, fun m' hm q hq => ?_⟩
  · obtain ⟨m, h1, h2⟩ := key m' hm
    rw [h2.length_eq]
    exact h.five m h1
  · obtain ⟨m, h1, h2⟩ := key m' hm
    obtain ⟨g1, g2⟩ := h.sg m h1 q (h2.mem_iff.mp hq)
    exact ⟨hy _ g1, by rw [e.1]; exact g2⟩
theorem RowOk.conv {ed : Nat → Nat → Nat → Prop} {n : Nat} {far : Int} {L : List Nat} {c c' : Nd → Nd → Int} {u : List Nat} {row : Nat → Int} (R : RowOk ed n c far u row) (h : ∀ x y, InL L x → InL L y → c x y = c' x y) (hu : ∀ a ∈ u, a ∈ L) (hv : ∀ t v, LedR ed 0 v t → ∀ a ∈ v, a ∈ L) : RowOk ed n c' far u row := by
  refine ⟨R.nn, fun t v ht hl => ?_, fun t ht => ?_⟩
  · rw [← Dc_congr h u v hu (hv t v hl)]
    exact R.lo t v ht hl
  · rcases R.at_ t ht with g | ⟨v, g1, g2⟩
    · exact .inl g
    · exact .inr ⟨v, g1, by rw [← Dc_congr h u v hu (hv t v g1)]; exact g2⟩
/-- costs are not great -/
theorem Dc_most {L : List Nat} {r : Nd → Nd → Option Int} {c : Nd → Nd → Int} (C : Clo L r c) {k : Int} (k0 : 0 ≤ k) (hp : ∀ a ∈ L, c none (some a) ≤ k) (ho : ∀ a ∈ L, c (some a) none ≤ k) : ∀ u v : List Nat, (∀ a ∈ u, a ∈ L) → (∀ a ∈ v, a ∈ L) → Dc c u v ≤ k * (u.length : Int) + k * (v.length : Int)
  | [], [], _, _ => by simp [Dc]
  | [], y :: v, hu, hv => by
    have h1 := Dc_most C k0 hp ho [] v hu fun a h => hv a (List.mem_cons_of_mem _ h)
    have h2 := hp y (hv y List.mem_cons_self)
    simp only [Dc, List.length_cons, List.length_nil] at h1 ⊢
    have : k * ((v.length + 1 : Nat) : Int) = k * (v.length : Int) + k := by rw [Int.natCast_add, Int.mul_add]; simp
    omega
  | x :: u, v, hu, hv => by
    have h1 := Dc_most C k0 hp ho u v (fun a h => hu a (List.mem_cons_of_mem _ h)) hv
    have h2 := ho x (hu x List.mem_cons_self)
    have h3 := Dc_out C x u v
    simp only [List.length_cons] at h1 ⊢
    have : k * ((u.length + 1 : Nat) : Int) = k * (u.length : Int) + k := by rw [Int.natCast_add, Int.mul_add]; simp
    omega
/-- a short word leads to each state -/
theorem reach {zs : List Str} {ms : List Mv} (M : MvsOk zs ms) (sg : ∀ z ∈ zs, ∃ c ∈ ("abcde" : Str).cps.toList, z = ⟨#[c]⟩) (T : Tree ms) : ∀ (i t : Nat), t ≤ i → t < ms.length → ∃ v, LedR (edgeM ms) 0 v t ∧ v.length ≤ t := by
  intro i
  induction i with
  | zero =>
    intro t h _
    obtain rfl : t = 0 := by omega
    exact ⟨[], .nil, Nat.le_refl _⟩
  | succ i ih =>
    intro t h hl
    by_cases t0 : t = 0
    · subst t0; exact ⟨[], .nil, Nat.le_refl _⟩
    · obtain ⟨j, m, hj, hm, q, hq, e⟩ := T.2 t (by omega) hl
      obtain ⟨v, h1, h2⟩ := ih j (by omega) (by omega)
      have zc : sgS (codeOf q.1) = q.1 := nS_code (sg _ (M.sg m (List.mem_of_getElem? hm) q hq).1)
      refine ⟨codeOf q.1 :: v, .cons h1 ⟨m, hm, ?_⟩, by simp; omega⟩
      rw [zc, ← e]
      exact hq
/-- what the row of a word is -/
structure RowX (ed : Nat → Nat → Nat → Prop) (n : Nat) (c : Nd → Nd → Int) (u : List Nat) (row : Nat → Int) : Prop where
  lo : ∀ t v, t < n → LedR ed 0 v t → row t ≤ Dc c u v
  ex : ∀ t, t < n → ∃ v, LedR ed 0 v t ∧ Dc c u v = row t
  nn : ∀ t, t < n → 0 ≤ row t
  most : ∀ t, t < n → row t ≤ 9 * (u.length : Int) + 9 * (t : Int)
theorem RowX.of {zs : List Str} {ms : List Mv} {L : List Nat} {r : Nd → Nd → Option Int} {c : Nd → Nd → Int} (C : Clo L r c) (hL : L = codesOf zs) (M : MvsOk zs ms) (sg : ∀ z ∈ zs, ∃ c ∈ ("abcde" : Str).cps.toList, z = ⟨#[c]⟩) (T : Tree ms) (hp : ∀ a ∈ L, c none (some a) ≤ 9) (ho : ∀ a ∈ L, c (some a) none ≤ 9) {u : List Nat} (hu : ∀ a ∈ u, a ∈ L) (lu : u.length ≤ 1000) {row : Nat → Int} (R : RowOk (edgeM ms) ms.length c FAR u row) : RowX (edgeM ms) ms.length c u row := by
  subst hL
  have over : ∀ t v, LedR (edgeM ms) 0 v t → ∀ a ∈ v, a ∈ codesOf zs := fun t v h => h.over (edge_in M sg)
  have near : ∀ t, t < ms.length → ∃ v, LedR (edgeM ms) 0 v t ∧ v.length ≤ t ∧ Dc c u v ≤ 9 * (u.length : Int) + 9 * (t : Int) := fun t ht => by
    obtain ⟨v, h1, h2⟩ := reach M sg T t t (Nat.le_refl _) ht
    have := Dc_most C (by omega) hp ho u v hu (over t v h1)
    exact ⟨v, h1, h2, by omega⟩
  refine ⟨fun t v ht h => R.lo t v ht h, fun t ht => ?_, R.nn, fun t ht => ?_⟩
  · obtain ⟨v, h1, _, h3⟩ := near t ht
    have n8 := M.n8
    exact R.exact ht ⟨v, h1, by show _ < (10000 : Int) * 10000; omega⟩
  · obtain ⟨v, h1, _, h3⟩ := near t ht
    have := R.lo t v ht h1
    omega
theorem RowX.uniq {ed : Nat → Nat → Nat → Prop} {n : Nat} {c : Nd → Nd → Int} {u : List Nat} {r1 r2 : Nat → Int} (R1 : RowX ed n c u r1) (R2 : RowX ed n c u r2) {t : Nat} (ht : t < n) : r1 t = r2 t := by
  obtain ⟨v1, a1, b1⟩ := R1.ex t ht
  obtain ⟨v2, a2, b2⟩ := R2.ex t ht
  have := R1.lo t v2 ht a2
  have := R2.lo t v1 ht a1
  omega
/-- against all words that are not too long -/
theorem RowX.found {ms : List Mv} {L : List Nat} {r : Nd → Nd → Option Int} {c : Nd → Nd → Int} (C : Clo L r c) {u : List Nat} {row : Nat → Int} (R : RowX (edgeM ms) ms.length c u row) (hu : ∀ a ∈ u, a ∈ L) (over : ∀ t v, LedR (edgeM ms) 0 v t → ∀ a ∈ v, a ∈ L) {k : Int} (k0 : 0 ≤ k) (hk : ∀ a ∈ L, k ≤ c none (some a))
    {n : Nat} {its : List (List Nat × Nat)} (F : FdOk ms n its) {f : Nat → Option Int} (LO : LeastOk (fun v => Dc c u v.reverse) its ms.length f) {t : Nat} (ht : t < ms.length) : (∀ m, f t = some m → row t ≤ m) ∧ ((f t = none ∨ ∃ m, f t = some m ∧ row t < m) → ((n : Int) + 1 - (u.length : Int)) * k ≤ row t) := by
  refine ⟨fun m e => ?_, fun h => ?_⟩
  · obtain ⟨v, h1, h2⟩ := LO.some_ t m ht e
    have := R.lo t v.reverse ht ((F.iff v t).mp h1).2
    have h2' : m = Dc c u v.reverse := h2
    omega
  · obtain ⟨v, h1, h2⟩ := R.ex t ht
    have hl : (n : Int) + 1 ≤ v.length := by
      by_cases q : v.length ≤ n
      · obtain ⟨m, g1, g2⟩ := LO.le v.reverse t ((F.iff _ _).mpr ⟨by rw [List.length_reverse]; exact q, by rw [List.reverse_reverse]; exact h1⟩) ht
        have g2' : m ≤ Dc c u v.reverse.reverse := g2
        rw [List.reverse_reverse] at g2'
        rcases h with h | ⟨m', h3, h4⟩
        · rw [h] at g1; cases g1
        · rw [g1] at h3; cases h3; omega
      · omega
    have h3 := Dc_long C k0 hk u v hu (over t v h1)
    have h4 : ((n : Int) + 1 - (u.length : Int)) * k ≤ ((v.length : Int) - (u.length : Int)) * k := Int.mul_le_mul_of_nonneg_right (by omega) k0
    omega
/-- the numbers of last states -/
theorem sel_mem {n : Nat} {row : Nat → Int} {ls : List Bool} (hl : ls.length = n) (y : Int) : y ∈ selN ((List.range n).map row) ls ↔ ∃ s, s < n ∧ ls[s]? = some true ∧ y = row s := by
  unfold selN
  constructor
  · intro h
    obtain ⟨p, hp, rfl⟩ := List.mem_map.mp h
    obtain ⟨h1, h2⟩ := List.mem_filter.mp hp
    obtain ⟨i, hi⟩ := List.mem_iff_getElem?.mp h1
    obtain ⟨a, b⟩ := List.getElem?_zip_eq_some.mp hi
    have il : i < n := by
      have := (List.getElem?_eq_some_iff.mp b).1
      omega
    rw [List.getElem?_map, List.getElem?_range il] at a
    exact ⟨i, il, by rw [b]; exact congrArg some h2, (Option.some.inj a).symm⟩
  · rintro ⟨s, hs, h1, rfl⟩
    refine List.mem_map.mpr ⟨(row s, true), List.mem_filter.mpr ⟨List.mem_of_getElem? (i := s) (List.getElem?_zip_eq_some.mpr ⟨?_, h1⟩), rfl⟩, rfl⟩
    rw [List.getElem?_map, List.getElem?_range hs]; rfl
end MN
/-! the law k26: _law_right, law -/
namespace MN
open PySem PySem.Spec PyProof.Rows L2
theorem ex_at {H H' : Hp} {p b : Addr} {o : HO} (hp : Pot H p) (e : Ex p H H') (hb : H b = some o) (no : ∀ x y z, o ≠ potO x y z) : H' b = some o := e.keep _ _ (fun q => by
  obtain ⟨x, y, z, h⟩ := hp
  rw [q, h] at hb
  exact no _ _ _ (Option.some.inj hb).symm) hb
theorem ex_L {K : PySem.W.Frag} {H H' : Hp} {p a : Addr} {xs : List V} (hp : Pot H p) (e : Ex p H H') (h : SqL K H a xs) (no : ∀ x y z : Int, xs ≠ [.int x, .int y, .int z]) : SqL K H' a xs := by
  rcases h with (h | ⟨o, h⟩) | h
  · exact .inl (.inl (ex_at hp e h fun x y z q => no x y z (by injection q)))
  · exact .inl (.inr ⟨o, ex_at hp e h fun x y z q => (by cases q)⟩)
  · exact .inr h
theorem ex_sl {H H' : Hp} {p a C dx : Addr} {ws : List (Option V)} (hp : Pot H p) (e : Ex p H H') (h : Sl2 H a C dx ws) : Sl2 H' a C dx ws := ⟨ex_at hp e h.1 fun x y z q => (by unfold SlX.SlO at q; cases q), ex_at hp e h.2 fun x y z q => (by cases q)⟩
theorem ex_pr {H H' : Hp} {p C x dx : Addr} {ys ys2 : List Str} {g o : Str → Int} {qs : List ((Str × Str) × Int)} (hp : Pot H p) (e : Ex p H H') (h : PrAt C H x dx ys ys2 g o qs) : PrAt C H' x dx ys ys2 g o qs := by
  obtain ⟨A, B, S, ws, h1, h2, h3, h4, h5, h6, h7, h8⟩ := h
  exact ⟨A, B, S, ws, ex_sl hp e h1, h2, h3, h4, h5, ex_at hp e h6 fun x y z q => (by cases q), ex_at hp e h7 fun x y z q => (by cases q), ex_at hp e h8 fun x y z q => (by cases q)⟩
theorem ex_form {K : PySem.W.Frag} {H H' : Hp} {p C x dx M L : Addr} {i0 i1 : Nat} {ds : List Addr} {ms : List Mv} {ls : List Bool} (hp : Pot H p) (e : Ex p H H') (h : FormM K C i0 i1 H x dx M L ds ms ls) (n0 : 0 < ms.length) : FormM K C i0 i1 H' x dx M L ds ms ls := by
  have mv : SqL K H' M (ds.map V.ref) := ex_L hp e h.m.1 fun x y z q => by
    have := h.m.2.1
    cases ds with
    | nil => simp at this; omega
    | cons d ds => cases q
  obtain ⟨⟨ws, h1, h2, h3⟩, ⟨xs, h4, h5⟩, h6, h7⟩ := h.f
  refine ⟨⟨⟨ws, ?_, h2, h3⟩, ⟨_, mv, by rw [List.length_map]; exact h.m.2.1⟩, ex_L hp e h6 fun x y z q => ?_, h7⟩, ⟨mv, h.m.2.1, fun i d m g1 g2 => ex_at hp e (h.m.2.2 i d m g1 g2) fun x y z q => (by cases q)⟩, h.nd⟩
  · rcases h1 with ⟨g, rfl⟩ | g
    · exact .inl ⟨ex_at hp e g fun x y z q => (by cases q), rfl⟩
    · exact .inr (ex_sl hp e g)
  · cases ls with
    | nil => simp at q
    | cons b ls => cases q
theorem ex_tab {H H' : Hp} {p T : Addr} {L : List Nat} {c : Nd → Nd → Int} (hp : Pot H p) (e : Ex p H H') (h : TabC H T L c) : TabC H' T L c := by
  obtain ⟨kvs, h1, h2⟩ := h
  exact ⟨kvs, ex_at hp e h1 fun x y z q => (by cases q), h2⟩
theorem row_num {n : Nat} {row : Nat → Int} (n0 : 0 < n) (n6 : n ≤ 6) (h : ∀ t, t < n → 0 ≤ row t ∧ row t < 10000) : rowB (((List.range n).map row).map V.int) = true := by
  refine NumL.row (fun y hy => ?_) (by simp; omega) (by simp; omega)
  obtain ⟨t, ht, rfl⟩ := List.mem_map.mp hy
  have := h t (List.mem_range.mp ht)
  unfold numI
  rw [decide_eq_true this.1, decide_eq_true this.2]; rfl
section
variable {P : Program} {w : World} {K : PySem.W.Frag} {mg : Str → Option Value} {base : Heap} {Cp Cc Cs C p0 p1 : Addr} {i0 i1 : Nat}
def spRight26 (K : PySem.W.Frag) : Sp := fun vs H Q _ => ∃ p l zs n, vs = [.ref p, .ref l, .int ((n : Nat) : Int)] ∧ Pot H p ∧ l ≠ p ∧ SqL K H l (strsV zs) ∧ SgnOk zs ∧ zs.length ≤ 2 ∧ n ≤ 10 ∧ ∀ H', Ex p H H' → Q (.bl true) H'
abbrev N_law_right : List Str := ["_law_urn_here", "_law_signs", "_law_size", "_law_plain", "_law_tables", "_law_target", "_law_prices_here", "_law_table", "_law_word_here", "_law_row", "_law_found", "_law_cheap", "_law_sign", "_law_state", "_law_longer", "_law_other"]
theorem sc_law_right : FnScope N_law_right ["_law_urn_here", "_law_signs", "_law_size"] (defScope (top 95)) := ⟨rfl, rfl, rfl, by decide +kernel, rfl, by decide +kernel, by decide +kernel⟩
def cheapV (c : Nd → Nd → Int) : V → V
  | .str z => .int (c none (some (codeOf z)))
  | v => v
def lastB (ls : List Bool) : V → Bool
  | .int s => ls.getD s.toNat false
  | _ => false
theorem c_law_right (A : At K mg "_law_right" (top 95)) (B : Blt mg) (FC : FormC K C p0 p1 i0 i1) (PC : PrC K mg Cp Cc) (c_law_plain_form : Cal P w K mg base 3 "_law_plain_form" (spPForm K)) (c_law_plain_prices : Cal P w K mg base 2 "_law_plain_prices" (spPlainP K)) (c_law_form : Cal P w K mg base 6 "_law_form" (spFormL K C i0 i1)) (c_law_prices : Cal P w K mg base 6 "_law_prices" (spPrices26 Cp))
    (c_law_closed : Cal P w K mg base 1 "_law_closed" spClosed26) (c_law_word : Cal P w K mg base 3 "_law_word" (spWord26 K)) (c_row_of : Cal P w K mg base 6 "row_of" (spRowOf K C i0 i1 Cp)) (c_law_least_to : Cal P w K mg base 3 "_law_least_to" (spLeastTo K)) (c_law_led : Cal P w K mg base 1 "_law_led" (spLed K)) (c_distance : Cal P w K mg base 4 "distance" (spDistance Cp)) (c_end_cost : Cal P w K mg base 4 "end_cost" (spEndCost K C i0 i1))
    (c_are_prices : Cal P w K mg base 3 "are_prices" spAreP) (c_closed_of : Cal P w K mg base 3 "closed_of" (spClosedOf Cp Cc)) : Cal P w K mg base 7 "_law_right" (spRight26 K) := by
  obtain ⟨gm, hM, hFM⟩ := r_pclosed (P := P) (w := w) (base := base) PC B c_are_prices c_closed_of
  refine cal_of A sc_law_right (fun _ _ _ _ _ _ us hl => match us, hl with | [_, _, _], _ => rfl) (fun vs H Q E h => ?_) (fun _ cdv A outer s H vs Q E hr h => ?_)
  · obtain ⟨_, _, _, _, rfl, _⟩ := h; rfl
  · obtain ⟨p, l, zs, size, rfl, hp, nlp, hl, ok, z2, n10, hQ⟩ := h
    refine ⟨_, (pss_cons (ps_asg (pe_tup (pa_cons (pe_c c_law_plain_form hr (by decide) (by rfl) (pa_cons (pv 0) (pa_cons (pv 1) (pa_cons pe_int pa_nil)))) (pa_cons (pe_c c_law_plain_prices hr (by decide) (by rfl) (pa_cons (pv 0) (pa_cons (pv 1) (pa_cons pe_int pa_nil)))) pa_nil))) (pg_tup rfl (pgs_cons (pg_name (i := 3) sc_law_right.nd rfl (Or.inr rfl)) (pgs_cons (pg_name (i := 4) sc_law_right.nd rfl (Or.inl rfl)) pgs_nil))))
      (pss_cons (ps_par (i := 5) (j := 6) (by rfl) sc_law_right.nd rfl rfl (by decide) rfl rfl (pa_cons (pe_c c_law_form hr (by decide) (by rfl) (pa_cons (pv 3) pa_nil)) (pa_cons (pe_c c_law_prices hr (by decide) (by rfl) (pa_cons (pv 4) pa_nil)) pa_nil)) (by rfl))
      (pss_cons (ps_asg (pe_tup (pa_cons (pe_c c_law_closed hr (by decide) (by rfl) (pa_cons (pv 4) pa_nil)) (pa_cons (pe_c c_law_word hr (by decide) (by rfl) (pa_cons (pv 0) (pa_cons (pv 1) (pa_cons pe_int pa_nil)))) pa_nil))) (pg_tup rfl (pgs_cons (pg_name (i := 7) sc_law_right.nd rfl (Or.inr rfl)) (pgs_cons (pg_name (i := 8) sc_law_right.nd rfl (Or.inl rfl)) pgs_nil))))
      (pss_cons (ps_asg (pe_tup (pa_cons (pe_c c_row_of hr (by decide) (by rfl) (pa_cons (pv 5) (pa_cons (pv 6) (pa_cons (pv 8) pa_nil)))) (pa_cons (pe_c c_law_least_to hr (by decide) (by rfl) (pa_cons (pv 3) (pa_cons (pv 7) (pa_cons (pv 8) (pa_cons (pv 2) pa_nil))))) pa_nil))) (pg_tup rfl (pgs_cons (pg_name (i := 9) sc_law_right.nd rfl (Or.inr rfl)) (pgs_cons (pg_name (i := 10) sc_law_right.nd rfl (Or.inl rfl)) pgs_nil))))
      (pss_cons (ps_set (i := 11) sc_law_right.nd rfl (Or.inl rfl) (pe_callB (cr_min rfl) (by rfl) B.min (by decide +kernel) (pa_cons (pe_lc (own := [("_law_sign", 12)]) (g := gName 12) (tt := tYes) (by rfl) sc_law_right.nd (pi_list (pv 1)) (blkOk_by (own := [("_law_sign", 12)]) (N := N_law_right) (sc := defScope (top 95)) (by decide +kernel)) (fun _ _ _ _ _ => (pg_name (i := 12) sc_law_right.nd rfl (Or.inl rfl))) (fun _ _ _ _ _ => pts_nil) (fun _ _ _ _ _ => (pe_dget (hu_of hr) (pv 7) (pe_tup (pa_cons pe_str (pa_cons (pv 12) pa_nil))) (fun _ _ => rfl)))) pa_nil)))
      (pss_cons (ps_if (pt_cmpR (op_neD hr.units) (pe_c c_row_of hr (by decide) (by rfl) (pa_cons (pv 5) (pa_cons (SlX.pe_methSl0 (E := E0) (pv 6) PC.sp.sc hM hFM (hr.mono (by decide)) pass0) (pa_cons (pv 8) pa_nil)))) (pv 9) (nomark _))
        (pss_one (ps_ret pe_bl))
        pss_nil)
      (pss_cons (ps_for PassesOwn.never rfl (pi_range1 (by rfl) B.range (pa_cons (pe_callB call_len_seq (by rfl) B.len (by decide +kernel) (pa_cons (pv 3) pa_nil)) pa_nil)) (pg_name (i := 13) sc_law_right.nd rfl (Or.inl rfl))
        (pss_cons (ps_set (i := 14) sc_law_right.nd rfl (Or.inl rfl) (pe_op op_mul (pe_op op_sub (pe_op op_add (pv 2) pe_int) (pe_callB call_len_str (by rfl) B.len (by decide +kernel) (pa_cons (pv 8) pa_nil))) (pv 11)))
        (pss_cons (ps_if (PW.pt (pw_and (pt_cmpR op_notN (pe_ix ix_list (pv 10) (pv 13) (fun _ _ => rfl)) pe_non (nomark _)) (pw_and1 (pt_cmpR op_gt (pe_ix ix_tup (pv 9) (pv 13) (fun _ _ => rfl)) (pe_ix ix_list (pv 10) (pv 13) (fun _ _ => rfl)) (nomark _)))))
          (pss_one (ps_ret pe_bl))
          pss_nil)
        (pss_one (ps_if (PW.pt (pw_and (PW.pt (pw_or (pt_cmpR op_isN (pe_ix ix_list (pv 10) (pv 13) (fun _ _ => rfl)) pe_non (nomark _)) (pw_or1 (pt_cmpR op_gt (pe_ix ix_list (pv 10) (pv 13) (fun _ _ => rfl)) (pe_ix ix_tup (pv 9) (pv 13) (fun _ _ => rfl)) (nomark _))))) (pw_and1 (pt_cmpR op_lt (pe_ix ix_tup (pv 9) (pv 13) (fun _ _ => rfl)) (pv 14) (nomark _)))))
          (pss_one (ps_ret pe_bl))
          pss_nil)))))
      (pss_cons (ps_for PassesOwn.never rfl (pi_list (pe_c c_law_led hr (by decide) (by rfl) (pa_cons (pv 3) (pa_cons pe_int pa_nil)))) (pg_tup rfl (pgs_cons (pg_name (i := 15) sc_law_right.nd rfl (Or.inl rfl)) (pgs_cons (pg_name (i := 13) sc_law_right.nd rfl (Or.inl rfl)) pgs_nil)))
        (pss_cons (ps_if (pt_cmpR op_lt (pe_c c_distance hr (by decide) (by rfl) (pa_cons (pv 8) (pa_cons (pv 15) (pa_cons (pv 6) pa_nil)))) (pe_ix ix_tup (pv 9) (pv 13) (fun _ _ => rfl)) (nomark _))
          (pss_one (ps_ret pe_bl))
          pss_nil)
        (pss_one (ps_if (PW.pt (pw_and (pt_val (pe_ix ix_list (pe_ix ix_list (pv 3) (pv 13) (fun _ _ => rfl)) pe_int (fun _ _ => rfl))) (pw_and1 (pt_cmpR op_lt (pe_c c_distance hr (by decide) (by rfl) (pa_cons (pv 8) (pa_cons (pv 15) (pa_cons (pv 6) pa_nil)))) (pe_c c_end_cost hr (by decide) (by rfl) (pa_cons (pv 5) (pa_cons (pv 9) pa_nil))) (nomark _)))))
          (pss_one (ps_ret pe_bl))
          pss_nil))))
      (pss_one (ps_ret (pe_cmpR op_eq (pe_c c_end_cost hr (by decide) (by rfl) (pa_cons (pv 5) (pa_cons (pv 9) pa_nil))) (pe_callB (cr_min rfl) (by rfl) B.min (by decide +kernel) (pa_cons (pe_lc (own := [("_law_state", 13)]) (g := gName 13) (by rfl) sc_law_right.nd (pi_range1 (by rfl) B.range (pa_cons (pe_callB call_len_seq (by rfl) B.len (by decide +kernel) (pa_cons (pv 3) pa_nil)) pa_nil)) (blkOk_by (own := [("_law_state", 13)]) (N := N_law_right) (sc := defScope (top 95)) (by decide +kernel)) (fun _ _ _ _ _ => (pg_name (i := 13) sc_law_right.nd rfl (Or.inl rfl))) (fun _ _ _ _ _ => pts_one (pt_val (pe_ix (ixLK (K := K) rfl) (pe_ix (ixLK (K := K) rfl) (pv 3) (pv 13) (fun _ _ => rfl)) pe_int (fun _ _ => rfl)))) (fun _ _ _ _ _ => (pe_ix (ixTK (K := K) rfl) (pv 9) (pv 13) (fun _ _ => rfl)))) pa_nil)) (nomark _)))))))))))), ?_⟩
    have two : 2 ≤ sizeLine := by decide
    have big : 100000 < sizeLine := by decide
    have zle := ok.le
    have zpos := ok.pos
    have lz : (strsV zs).length = zs.length := by simp [strsV]
    have sgn := ok.one
    have sig : SigOk zs := ⟨ok.pos, ok.le, ok.nodup, fun z hz => isSign_one (ok.one z hz)⟩
    -- the form, the prices
    refine ⟨_, rfl, _, rfl, p, l, zs, 3, rfl, hp, nlp, hl, sig, by decide, by decide, fun a rs ds ms ls H1 ex1 ha0 hPl hnd hO hle hzs => ?_⟩
    have nap : a ≠ p := by obtain ⟨_, _, _, q⟩ := hp; exact (ne_of_none q ha0).symm
    refine ⟨_, rfl, _, rfl, p, l, 4, zs, rfl, ex1.pot, nlp, ex1.seqL hl nlp, ok, by decide, by decide, fun t TA TB TW g o ps H2 N nAB ht0 hA0 hB0 hS0 ex2 TT => ⟨two, fun T0 hT0 => ?_⟩⟩
    have pot1 := ex1.pot
    have hPl2 := hPl.ex ex1.pot nap ex2
    have ex02 := ex1.trans ex2
    have s3 := same_new (o := .tup [.ref a, .ref t]) hT0
    refine ⟨T0, _, rfl, .inl (.inl upd_same), rfl, _, _, rfl, _, _, rfl, rfl, ?_⟩
    have hPl3 := hPl2.same s3
    have TT3 := TT.same s3
    have ex3 := ex02.same s3
    generalize upd H2 T0 (.tup [.ref a, .ref t]) = H3 at s3 hPl3 TT3 ex3 ⊢
    -- their instances
    have M0 : MvsOk zs ms := ⟨by omega, fun m hm => (hO.mv m hm).len, fun m hm q hq => ⟨hzs m hm q hq, (hO.mv m hm).to q hq⟩⟩
    have PM : PlMv zs ms := ⟨M0, fun m hm => (hO.mv m hm).nd, fun m hm => by
      have := len_sub (m := zs) (hO.mv m hm).nd fun z hz => by
        obtain ⟨q, hq, rfl⟩ := List.mem_map.mp hz
        exact hzs m hm q hq
      rw [List.length_map] at this
      omega, hO.pos, sgn⟩
    have n0 := hO.pos
    refine ⟨_, rfl, a, rs, ds, ms, ls, rfl, hPl3, hnd, hO, fun H4 x dx M L ds' ms' e4 FM me => ?_⟩
    refine ⟨_, rfl, t, TA, TB, TW, zs, g, o, ps, rfl, TT3.same e4, nAB, N, fun px pdx ys ys2 qs H5 e5 PrA NP pm pq => ⟨_, _, rfl, ?_⟩⟩
    have ml : ms'.length = ms.length := me.1
    have FM5 := FM.same e5
    have hPl5 := hPl3.same (e4.trans e5)
    have TT5 := TT3.same (e4.trans e5)
    have ex5 := ex3.same (e4.trans e5)
    -- the table, the word
    obtain ⟨c, C⟩ := clo_exists N
    refine ⟨_, rfl, t, TA, TB, TW, zs, g, o, ps, c, rfl, TT5, N, C, fun T H6 _ e6 hTC => ?_⟩
    have FM6 := FM5.same e6
    have PrA6 := PrA.same e6
    have hPl6 := hPl5.same e6
    have ex6 := ex5.same e6
    clear TT5 TT3 TT FM5 hPl5
    refine ⟨_, rfl, _, rfl, p, l, 3, zs, rfl, ex6.pot, nlp, ex6.seqL hl nlp, ok, by decide, by decide, fun u H7 hu lu ex67 => ⟨two, fun T1 hT1 => ?_⟩⟩
    have FM7 := ex_form ex6.pot ex67 FM6 (by omega)
    have PrA7 := ex_pr ex6.pot ex67 PrA6
    have hTC7 := ex_tab ex6.pot ex67 hTC
    have hPl7 := hPl6.ex ex6.pot nap ex67
    have s8 := same_new (o := .tup [.ref T, .str (wS u)]) hT1
    refine ⟨T1, _, rfl, .inl (.inl upd_same), rfl, _, _, rfl, _, _, rfl, rfl, ?_⟩
    have FM8 := FM7.same s8
    have PrA8 := PrA7.same s8
    have hTC8 := hTC7.same s8
    have hPl8 := hPl7.same s8
    have ex8 := (ex6.trans ex67).same s8
    generalize upd H7 T1 (.tup [.ref T, .str (wS u)]) = H8 at FM8 PrA8 hTC8 hPl8 ex8 ⊢
    clear FM7 PrA7 hTC7 hPl7 s8 FM6 PrA6 hTC hPl6
    -- the row, the least distances
    have my : ∀ z ∈ zs, z ∈ ys := fun z hz => pm.mem_iff.mpr hz
    have cy : ∀ {a}, a ∈ codesOf zs ↔ a ∈ codesOf ys := fun {a} => ((pm.map _).mem_iff).symm
    have M1 : MvsOk ys ms' := M0.perm me my
    have lu3 : u.length ≤ 3 := by omega
    refine ⟨_, rfl, _, rfl, _, rfl, x, dx, px, pdx, M, L, ds', ms', ls, ys, ys2, g, o, qs, u, rfl, FM8, by omega, M1, by omega, PrA8, NP, fun a ha => cy.mp (hu a ha), by omega, fun r H9 c1 row e9 CL1 hr9 hR9 => ?_⟩
    have hTC9 := hTC8.same e9
    have hPl9 := hPl8.same e9
    refine ⟨_, rfl, _, rfl, _, rfl, _, rfl, a, rs, ds, ms, ls, zs, T, c, u, size, rfl, hPl9, PM, n10, hTC9, C.z, hu, by omega, fun F f its H10 e10 hF10 FD LO => ⟨two, fun T2 hT2 => ?_⟩⟩
    have s11 := same_new (o := .tup [.ref r, .ref F]) hT2
    refine ⟨T2, _, rfl, .inl (.inl upd_same), rfl, _, _, rfl, _, _, rfl, rfl, ?_⟩
    have e811 := (e9.trans e10).trans s11
    have hr11 := Same.seqT (e10.trans s11) hr9
    have hF11 := s11 _ _ hF10
    generalize upd H10 T2 (.tup [.ref r, .ref F]) = H11 at s11 e811 hr11 hF11 ⊢
    have FM11 := FM8.same e811
    have PrA11 := PrA8.same e811
    have hTC11 := hTC8.same e811
    have hPl11 := hPl8.same e811
    have ex11 := ex8.same e811
    clear FM8 PrA8 hTC8 hPl8 hTC9 hPl9 hr9 hF10
    -- the plain law of the row
    have conv : ∀ {c'}, Clo (codesOf ys) (rOf (codesOf ys) g o qs) c' → ∀ x y, InL (codesOf zs) x → InL (codesOf zs) y → c' x y = c x y := fun C' x y hx hy => (clo_conv N.sn pm pq C').uniq C x y hx hy
    have over : ∀ t v, LedR (edgeM ms) 0 v t → ∀ a ∈ v, a ∈ codesOf zs := fun t v h => h.over (edge_in M0 sgn)
    have ru : ∀ a ∈ u.reverse, a ∈ codesOf zs := fun a ha => hu a (List.mem_reverse.mp ha)
    have lur : u.reverse.length = u.length := List.length_reverse ..
    have cp : ∀ a ∈ codesOf zs, c none (some a) ≤ 9 := fun a ha => by
      have h1 := C.le none (some a) (g (sgS a)) InL.no (InL.of ha) (if_pos ha)
      have h2 := (N.pg (sgS a) ((mem_codes sgn).mp ha)).2
      omega
    have co : ∀ a ∈ codesOf zs, c (some a) none ≤ 9 := fun a ha => by
      have h1 := C.le (some a) none (o (sgS a)) (InL.of ha) InL.no (if_pos ha)
      have h2 := (N.po (sgS a) ((mem_codes sgn).mp ha)).2
      omega
    rw [edge_eq me, ml] at hR9
    rw [ml] at hr11
    have X : RowX (edgeM ms) ms.length c u.reverse row := RowX.of C rfl M0 sgn hO.tree cp co ru (by omega) (hR9.conv (conv CL1) ru over)
    -- the cheapest price
    refine ⟨_, rfl, l, rfl, ⟨_, ex11.seqL hl nlp⟩, fun D hD => ?_⟩
    refine lc_lstE (ex11.seqL hl nlp) hD (by omega) (fun _ => true) (cheapV c) (fun _ _ => rfl) (fun _ _ H2 e2 Q q => q _ (Same.refl _)) (fun y hy _ Ha ea Q' q' => ?_) (fun H12 e12 u12 => ?_)
    · obtain ⟨z, hz, rfl⟩ := List.mem_map.mp (show y ∈ zs.map V.str from hy)
      obtain ⟨kvs, hk1, hk2⟩ := hTC11.same ea
      refine ⟨_, rfl, _, rfl, two, fun tt htt => ?_⟩
      have f2 := same_new (o := .tup [.str "", .str z]) htt
      refine ⟨T, .int (c none (some (codeOf z))), rfl, .inr ⟨kvs, kN none (some (codeOf z)), tt, .inl (f2 _ _ hk1), rfl, ?_, (hk2 _ _ InL.no (InL.of (code_mem sgn hz)) (fun e => nomatch e)).symm⟩, q' _ f2⟩
      rw [upd_same]
      show _ = some (HO.tup [.str (nS none), .str (nS (some (codeOf z)))])
      rw [nS_code (sgn z hz)]; rfl
    rw [filter_all] at u12
    have ecs : (strsV zs).map (cheapV c) = (zs.map fun z => c none (some (codeOf z))).map V.int := by
      show (zs.map V.str).map (cheapV c) = _
      rw [List.map_map, List.map_map]; rfl
    rw [ecs] at u12
    refine ⟨D, _, rfl, SqL.of u12, by rw [List.length_map]; omega, fun cheap hcm hcl => ?_⟩
    have ch0 : 0 ≤ cheap := by
      obtain ⟨z, hz, e⟩ := List.mem_map.mp hcm
      have := C.pos none (some (codeOf z)) InL.no (InL.of (code_mem sgn hz)) (fun e => nomatch e)
      omega
    have chl : ∀ a ∈ codesOf zs, cheap ≤ c none (some a) := fun a ha => hcl _ (List.mem_map.mpr ⟨sgS a, (mem_codes sgn).mp ha, rfl⟩)
    -- closed prices
    have FM12 := FM11.same e12
    have PrA12 := PrA11.same e12
    have hr12 := Same.seqT e12 hr11
    have hPl12 := hPl11.same e12
    have hF12 := e12 _ _ hF11
    have ex12 := ex11.same e12
    clear FM11 PrA11 hTC11 hPl11 hr11 hF11
    obtain ⟨PA, PB, PS, pws, hps, _⟩ := id PrA12
    refine ⟨_, rfl, _, rfl, px, pdx, pws, rfl, .inr hps, px, pdx, ys, ys2, g, o, qs, rfl, PrA12, NP, fun y dy ys' ys2' qs' cc H13 e13 CLc PrY NY pmY APY => ?_⟩
    have M2 : MvsOk ys' ms' := M0.perm me fun z hz => pmY.mem_iff.mpr (my z hz)
    have cy2 : ∀ {a}, a ∈ codesOf zs ↔ a ∈ codesOf ys' := fun {a} => cy.trans ((pmY.map _).mem_iff).symm
    refine ⟨_, rfl, x, dx, y, dy, M, L, ds', ms', ls, ys', ys2', gC cc, oC cc, qs', u, rfl, FM12.same e13, by omega, M2, by omega, PrY, NY, fun a ha => cy2.mp (hu a ha), by omega, fun r2 H14 c2 row2 e14 CL2 hr14 hR14 => ?_⟩
    rw [edge_eq me, ml] at hR14
    rw [ml] at hr14
    have conv2 : ∀ x y, InL (codesOf zs) x → InL (codesOf zs) y → c2 x y = c x y := fun x y hx hy => by
      have ix : InL (codesOf ys) x := fun a ha => cy.mp (hx a ha)
      have iy : InL (codesOf ys) y := fun a ha => cy.mp (hy a ha)
      rw [clo_again NP CLc pmY APY CL2 x y ix iy, conv CLc x y hx hy]
    have X2 : RowX (edgeM ms) ms.length c u.reverse row2 := RowX.of C rfl M0 sgn hO.tree cp co ru (by omega) (hR14.conv conv2 ru over)
    have er : rowI ms.length row2 = rowI ms.length row := rowI_congr fun t ht => X2.uniq X ht
    rw [er] at hr14
    have e1214 := e13.trans e14
    have hr13 := Same.seqT e1214 hr12
    rw [rowI_ints] at hr14 hr13
    refine ⟨_, rfl, _, _, .tup hr14 (dpZ _), .tup hr13 (dpZ _), shZ _, shZ _, _, rfl, ?_⟩
    rw [eqv_self (shZ _)]
    refine iteF ?_
    have FM14 := FM12.same e1214
    have PrA14 := PrA12.same e1214
    have hPl14 := hPl12.same e1214
    have hF14 := e1214 _ _ hF12
    have ex14 := ex12.same e1214
    have hq14 := Same.seqT e1214 hr12
    clear FM12 PrA12 hPl12 hF12 ex12 hr12 hr13 hr14 e14 e13 e1214
    have lrs : (rs.map V.ref).length = ms.length := by rw [List.length_map, hPl14.lr]
    have lw : ((wS u).length : Int) = (u.length : Int) := by rw [wS_len]
    have found := fun (i : Nat) (hi : i < ms.length) => X.found C ru over ch0 chl FD LO (t := i) hi
    rw [lur] at found
    have tl : true ∈ ls := hO.some hPl14.ll
    have rb : rowB (((List.range ms.length).map row).map V.int) = true := row_num n0 (by omega) fun t ht => by
      have h1 := X.nn t ht
      have h2 := X.most t ht
      rw [lur] at h2
      omega
    have lns : ((List.range ms.length).map row).length = ms'.length := by rw [List.length_map, List.length_range, ml]
    -- all states
    refine ⟨_, rfl, a, _, rfl, .inl hPl14.lst, _, rfl, by omega, by omega, ?_⟩
    rw [lrs]
    refine for_it (n := ms.length) (walk_range (lo := 0)) (fun i σ H' => (∃ o13 o14, σ = [some (.ref p), some (.ref l), some (.int ((size : Nat) : Int)), some (.ref a), some (.ref t), some (.ref x), some (.ref px), some (.ref T), some (.str (wS u)), some (.ref r), some (.ref F), some (.int cheap), none, o13, o14, none]) ∧ Same H14 H') ⟨⟨_, _, rfl⟩, Same.refl _⟩ (fun _ _ _ _ _ => trivial) (fun i y σ Ha Hb hi e hy => ?_) (fun σ H15 e => ?_)
    · obtain ⟨rfl, hy⟩ := hy
      have hy' : y = .int (i : Int) := by rw [hy]; show V.int (0 + (i : Int)) = _; rw [Int.zero_add]
      subst hy'
      obtain ⟨⟨o13, o14, rfl⟩, ea⟩ := e
      have hFb := ea _ _ hF14
      have hrb := Same.seqT ea hq14
      obtain ⟨fd1, fd2⟩ := found i hi
      refine ⟨_, rfl, _, _, rfl, rfl, _, rfl, _, rfl, (by rw [wS_len]; omega), _, _, rfl, rfl, _, rfl, _, _, rfl, rfl, .inl ⟨by rw [wS_len]; omega, by rw [wS_len]; omega⟩, ?_⟩
      refine ⟨_, rfl, _, rfl, F, _, _, _, rfl, rfl, SqL.of hFb, optL_at hi, rfl, _, rfl, ?_⟩
      rw [lw]
      cases hf : f i with
      | none =>
        have key := fd2 (.inl hf)
        refine iteF (iteF ⟨_, rfl, _, rfl, F, _, _, _, rfl, rfl, SqL.of hFb, optL_at hi, rfl, _, rfl, ?_⟩)
        rw [hf]
        refine iteT (iteT ⟨_, rfl, _, rfl, r, _, _, _, rfl, rfl, hrb, rowI_at hi, _, rfl, _, _, rfl, rfl, _, rfl, ?_⟩)
        rw [decide_eq_false (by omega)]
        exact iteF ⟨⟨_, _, rfl⟩, ea⟩
      | some m =>
        have k1 := fd1 m hf
        refine iteT ⟨_, rfl, _, rfl, r, _, _, _, rfl, rfl, hrb, rowI_at hi, _, rfl, _, rfl, F, _, _, _, rfl, rfl, SqL.of hFb, optL_at hi, ?_⟩
        rw [hf]
        refine ⟨_, _, rfl, rfl, _, rfl, ?_⟩
        rw [decide_eq_false (show ¬ row i > m by omega)]
        refine iteF ⟨_, rfl, _, rfl, F, _, _, _, rfl, rfl, SqL.of hFb, optL_at hi, rfl, _, rfl, ?_⟩
        rw [hf]
        refine iteF ⟨_, rfl, _, rfl, F, _, _, _, rfl, rfl, SqL.of hFb, optL_at hi, ?_⟩
        rw [hf]
        refine ⟨_, rfl, _, rfl, r, _, _, _, rfl, rfl, hrb, rowI_at hi, _, _, rfl, rfl, _, rfl, ?_⟩
        by_cases q : m > row i
        · have key := fd2 (.inr ⟨m, hf, by omega⟩)
          rw [decide_eq_true q]
          refine iteT ⟨_, rfl, _, rfl, r, _, _, _, rfl, rfl, hrb, rowI_at hi, _, rfl, _, _, rfl, rfl, _, rfl, ?_⟩
          rw [decide_eq_false (by omega)]
          exact iteF ⟨⟨_, _, rfl⟩, ea⟩
        · rw [decide_eq_false q]
          exact iteF (iteF ⟨⟨_, _, rfl⟩, ea⟩)
    obtain ⟨⟨o13, o14, rfl⟩, e15⟩ := e
    have FM15 := FM14.same e15
    have PrA15 := PrA14.same e15
    have hPl15 := hPl14.same e15
    have hq15 := Same.seqT e15 hq14
    have ex15 := ex14.same e15
    clear FM14 PrA14 hPl14 hF14 hq14 ex14
    -- short words
    refine ⟨_, rfl, a, rs, ds, ms, ls, zs, 2, rfl, hPl15, PM, by decide, fun G ts fdl H16 e16 PG FD2 => ?_⟩
    have FM16 := FM15.same e16
    have PrA16 := PrA15.same e16
    have hPl16 := hPl15.same e16
    have hq16 := Same.seqT e16 hq15
    have ex16 := ex15.same e16
    clear FM15 PrA15 hPl15 hq15 ex15
    refine ⟨G, rfl, ⟨_, SqL.of PG.l⟩, for_it walk_list (fun k σ H' => (∃ o13 o15, σ = [some (.ref p), some (.ref l), some (.int ((size : Nat) : Int)), some (.ref a), some (.ref t), some (.ref x), some (.ref px), some (.ref T), some (.str (wS u)), some (.ref r), some (.ref F), some (.int cheap), none, o13, o14, o15]) ∧ Same H16 H') ⟨⟨_, _, rfl⟩, Same.refl _⟩ (fun k σ H' _ e => Same.seq e.2 (SqL.of PG.l)) (fun k y σ Ha Hb hk e hy => ?_) (fun σ H17 e => ?_)⟩
    · obtain ⟨rfl, hy⟩ := hy
      obtain ⟨⟨o13, o15, rfl⟩, ea⟩ := e
      rw [List.getElem?_map] at hy
      obtain ⟨tt, htt, rfl⟩ := Option.map_eq_some_iff.mp hy
      have kl : k < fdl.length := by rw [← PG.n]; exact (List.getElem?_eq_some_iff.mp htt).1
      have hit := List.getElem?_eq_getElem kl
      obtain ⟨v, st, hvs⟩ : ∃ v st, fdl[k] = (v, st) := ⟨fdl[k].1, fdl[k].2, rfl⟩
      rw [hvs] at hit
      obtain ⟨lv, led⟩ := (FD2.iff v st).mp (List.mem_of_getElem? hit)
      have stn := led_lt PM.lt n0 led
      have hov : ∀ l ∈ v, l ∈ codesOf zs := fun l hl => over st _ led l (List.mem_reverse.mpr hl)
      have htv := PG.at_ k tt _ htt hit
      have rv : ∀ a ∈ v.reverse, a ∈ codesOf zs := fun a ha => hov a (List.mem_reverse.mp ha)
      have low : ∀ {c'}, Clo (codesOf ys) (rOf (codesOf ys) g o qs) c' → row st ≤ Dc c' u.reverse v.reverse := fun C' => by
        rw [Dc_congr (L := codesOf zs) (fun x y hx hy => conv C' x y hx hy) _ _ ru rv]
        exact X.lo st v.reverse stn led
      refine ⟨tt, _, rfl, .inl (.inl (ea _ _ htv)), rfl, _, _, rfl, _, _, rfl, rfl, ?_⟩
      refine ⟨_, rfl, _, rfl, _, rfl, u, v, px, pdx, ys, ys2, g, o, qs, rfl, PrA16.same ea, NP, fun a ha => cy.mp (hu a ha), fun a ha => cy.mp (hov a ha), by omega, by omega, fun c3 Hc C3 ec => ?_⟩
      have eac := ea.trans ec
      have lo3 := low C3
      refine ⟨_, rfl, _, rfl, r, _, _, _, rfl, rfl, Same.seqT eac hq16, rowI_at stn, _, _, rfl, rfl, _, rfl, ?_⟩
      rw [decide_eq_false (show ¬ Dc c3 u.reverse v.reverse < row st by omega)]
      refine iteF ?_
      have hPlc := hPl16.same eac
      have hr1 : rs[st]? = some (rs[st]'(by rw [hPlc.lr]; exact stn)) := List.getElem?_eq_getElem _
      have hd1 : ds[st]? = some (ds[st]'(by rw [hPlc.dc.1]; exact stn)) := List.getElem?_eq_getElem _
      have hl1 : ls[st]? = some (ls[st]'(by rw [hPlc.ll]; exact stn)) := List.getElem?_eq_getElem _
      generalize rs[st]'(by rw [hPlc.lr]; exact stn) = r1 at hr1
      generalize ds[st]'(by rw [hPlc.dc.1]; exact stn) = d1 at hd1
      generalize ls[st]'(by rw [hPlc.ll]; exact stn) = l1 at hl1
      have hrow := hPlc.pr st r1 d1 l1 hr1 hd1 hl1
      refine ⟨_, rfl, _, rfl, a, _, _, _, rfl, rfl, hPlc.lst, atI_nat (by rw [List.getElem?_map, hr1]; rfl), r1, _, 1, _, rfl, rfl, SqL.of hrow, rfl, l1, rfl, ?_⟩
      cases l1 with
      | false => exact iteF (iteF ⟨⟨_, _, rfl⟩, eac⟩)
      | true =>
        refine iteT ⟨_, rfl, _, rfl, _, rfl, u, v, px, pdx, ys, ys2, g, o, qs, rfl, PrA16.same eac, NP, fun a ha => cy.mp (hu a ha), fun a ha => cy.mp (hov a ha), by omega, by omega, fun c4 Hd C4 ed => ?_⟩
        have ead := eac.trans ed
        have lo4 := low C4
        have hqd := Same.seqT ead hq16
        rw [rowI_ints] at hqd
        refine ⟨_, rfl, _, rfl, x, dx, M, L, ms'.length, ls, r, (List.range ms.length).map row, rfl, (FM16.same ead).f, hqd, lns, by omega, rb, tl, fun He m ee hm => ⟨_, _, rfl, rfl, _, rfl, ?_⟩⟩
        have := hm.2 (row st) ((sel_mem hPlc.ll _).mpr ⟨st, stn, hl1, rfl⟩)
        rw [decide_eq_false (by omega)]
        exact iteF ⟨⟨_, _, rfl⟩, ead.trans ee⟩
    obtain ⟨⟨o13, o15, rfl⟩, e17⟩ := e
    -- the end
    have hq17 := Same.seqT e17 hq16
    have hr17 := hq17
    rw [rowI_ints] at hr17
    refine ⟨_, rfl, _, rfl, x, dx, M, L, ms'.length, ls, r, (List.range ms.length).map row, rfl, (FM16.same e17).f, hr17, lns, by omega, rb, tl, fun H18 m e18 hm => ?_⟩
    have e1618 := e17.trans e18
    have hPl18 := hPl16.same e1618
    have hq18 := Same.seqT e1618 hq16
    refine ⟨_, rfl, a, _, rfl, .inl hPl18.lst, _, rfl, by omega, by omega, fun D2 hD2 => ?_⟩
    rw [lrs]
    refine lc_rng (n := ms.length) (by omega) (lastB ls) (numF row) (fun _ _ => rfl) (fun y hy acc Q' q' => ?_) (fun y hy hf acc Q' q' => ?_) ?_
    · obtain ⟨st, stn, rfl⟩ := rangeV_mem hy
      have hr1 : rs[st]? = some (rs[st]'(by rw [hPl18.lr]; exact stn)) := List.getElem?_eq_getElem _
      have hd1 : ds[st]? = some (ds[st]'(by rw [hPl18.dc.1]; exact stn)) := List.getElem?_eq_getElem _
      have hl1 : ls[st]? = some (ls[st]'(by rw [hPl18.ll]; exact stn)) := List.getElem?_eq_getElem _
      generalize rs[st]'(by rw [hPl18.lr]; exact stn) = r1 at hr1
      generalize ds[st]'(by rw [hPl18.dc.1]; exact stn) = d1 at hd1
      generalize ls[st]'(by rw [hPl18.ll]; exact stn) = l1 at hl1
      have hrow := hPl18.pr st r1 d1 l1 hr1 hd1 hl1
      have el : lastB ls (.int (st : Int)) = l1 := by
        show ls.getD ((st : Int).toNat) false = l1
        rw [Int.toNat_natCast, List.getD_eq_getElem?_getD, hl1]; rfl
      rw [el] at q'
      exact ⟨_, rfl, _, rfl, a, _, _, _, rfl, rfl, seqL_upd hPl18.lst hD2, atI_nat (by rw [List.getElem?_map, hr1]; rfl), r1, _, 1, _, rfl, rfl, seqL_upd (SqL.of hrow) hD2, rfl, l1, rfl, q'⟩
    · obtain ⟨st, stn, rfl⟩ := rangeV_mem hy
      exact ⟨_, rfl, _, rfl, r, _, _, _, rfl, rfl, seqT_upd hq18 hD2, rowI_at stn, q'⟩
    · have ev : ((rangeV ms.length).filter (lastB ls)).map (numF row) = (((List.range ms.length).filter fun s => ls.getD s false).map row).map V.int := by
        have e1 : (rangeV ms.length).filter (lastB ls) = ((List.range ms.length).filter fun s => ls.getD s false).map fun (i : Nat) => V.int (i : Int) := by
          unfold rangeV
          rw [List.filter_map]
          refine congrArg _ (List.filter_congr fun s _ => ?_)
          simp [lastB]
        rw [e1, List.map_map, List.map_map]
        exact List.map_congr_left fun s _ => by simp [numF]
      have sm : ∀ y : Int, y ∈ ((List.range ms.length).filter fun s => ls.getD s false).map row ↔ ∃ s, s < ms.length ∧ ls[s]? = some true ∧ y = row s := fun y => by
        constructor
        · intro h
          obtain ⟨s, hs, rfl⟩ := List.mem_map.mp h
          obtain ⟨h1, h2⟩ := List.mem_filter.mp hs
          have sl : s < ls.length := by rw [hPl18.ll]; exact List.mem_range.mp h1
          rw [List.getD_eq_getElem?_getD, List.getElem?_eq_getElem sl] at h2
          exact ⟨s, List.mem_range.mp h1, by rw [List.getElem?_eq_getElem sl]; exact congrArg some h2, rfl⟩
        · rintro ⟨s, h1, h2, rfl⟩
          refine List.mem_map.mpr ⟨s, List.mem_filter.mpr ⟨List.mem_range.mpr h1, ?_⟩, rfl⟩
          rw [List.getD_eq_getElem?_getD, h2]; rfl
      have pos : 0 < (((List.range ms.length).filter fun s => ls.getD s false).map row).length := by
        obtain ⟨i, hi⟩ := List.getElem?_of_mem tl
        have il : i < ms.length := by rw [← hPl18.ll]; exact (List.getElem?_eq_some_iff.mp hi).1
        exact List.length_pos_of_mem ((sm (row i)).mpr ⟨i, il, hi, rfl⟩)
      rw [ev]
      refine ⟨D2, _, rfl, SqL.of upd_same, pos, fun m' hm' hle' => ⟨rfl, ?_⟩⟩
      have em : m = m' := by
        obtain ⟨h1, h2⟩ := hm
        have h3 := hle' m ((sm m).mpr ((sel_mem hPl18.ll m).mp h1))
        have h4 := h2 m' ((sel_mem hPl18.ll m').mpr ((sm m').mp hm'))
        omega
      subst em
      rw [decide_eq_true rfl]
      exact hQ _ ((ex16.same e1618).same (same_new hD2))
def spLaw (K : PySem.W.Frag) : Sp := fun vs H Q _ => ∃ (a : Addr) (ns : List Int), vs = [.ref a] ∧ SqL K H a (ns.map V.int) ∧ ns.length ≤ 1000 ∧ ∀ H', Q (.bl true) H'
abbrev N_law : List Str := ["_law_script", "_law_at", "_law_urn_here"]
theorem sc_law : FnScope N_law ["_law_script"] (defScope (top 96)) := ⟨rfl, rfl, rfl, by decide +kernel, rfl, by decide +kernel, by decide +kernel⟩
theorem sgn_ab : SgnOk [("a" : Str), "b"] := ⟨by decide, fun z hz => by
  rcases List.mem_cons.mp hz with rfl | hz
  · exact ⟨97, by decide, rfl⟩
  · rw [List.mem_singleton.mp hz]; exact ⟨98, by decide, rfl⟩, by decide, by decide⟩
theorem sgn_a : SgnOk [("a" : Str)] := ⟨by decide, fun z hz => by
  rw [List.mem_singleton.mp hz]; exact ⟨97, by decide, rfl⟩, by decide, by decide⟩
theorem sgn_bd : SgnOk [("b" : Str), "d"] := ⟨by decide, fun z hz => by
  rcases List.mem_cons.mp hz with rfl | hz
  · exact ⟨98, by decide, rfl⟩
  · rw [List.mem_singleton.mp hz]; exact ⟨100, by decide, rfl⟩, by decide, by decide⟩
theorem f_law {f : Addr} {fd : FuncData} (F : FunD K "law" "law" (defArgs (top 96)) (defBody (top 96)) (defScope (top 96)) [] [] f fd) (B : Blt mg) (c_law_urn : Cal P w K mg base 1 "_law_urn" (spFilled K)) (c_law_right : Cal P w K mg base 7 "_law_right" (spRight26 K)) : FnG P w K mg base 8 f fd ["_law_script"] (spLaw K) := by
  refine fnG_of F sc_law (fun vs H Q E h => ?_) (fun cdv A outer s H vs Q E gd hr h => ?_)
  · obtain ⟨_, _, rfl, _⟩ := h; rfl
  · obtain ⟨a, ns, rfl, ha, hn, hQ⟩ := h
    refine ⟨_, (pss_cons (ps_for PassesOwn.never rfl (pi_range1 (by rfl) B.range (pa_cons (pe_callB (call_max2 rfl) (by rfl) B.max (by decide +kernel) (pa_cons pe_int (pa_cons (pe_callB (call_min2 rfl) (by rfl) B.min (by decide +kernel) (pa_cons pe_int (pa_cons (pe_callB call_len_seq (by rfl) B.len (by decide +kernel) (pa_cons (pv 0) pa_nil)) pa_nil))) pa_nil))) pa_nil)) (pg_name (i := 1) sc_law.nd rfl (Or.inl rfl))
        (pss_cons (ps_set (i := 2) sc_law.nd rfl (Or.inl rfl) (pe_c c_law_urn hr (by decide) (by rfl) (pa_cons (pv 0) (pa_cons (pv 1) pa_nil))))
        (pss_one (ps_if (PW.pt (pw_or (pt_not (pt_val (pe_c c_law_right hr (by decide) (by rfl) (pa_cons (pv 2) (pa_cons (pe_lst (pa_cons pe_str (pa_cons pe_str pa_nil))) (pa_cons pe_int pa_nil)))))) (pw_or (pt_not (pt_val (pe_c c_law_right hr (by decide) (by rfl) (pa_cons (pv 2) (pa_cons (pe_lst (pa_cons pe_str pa_nil)) (pa_cons pe_int pa_nil)))))) (pw_or1 (pt_not (pt_val (pe_c c_law_right hr (by decide) (by rfl) (pa_cons (pv 2) (pa_cons (pe_lst (pa_cons pe_str (pa_cons pe_str pa_nil))) (pa_cons pe_int pa_nil))))))))))
          (pss_one (ps_ret pe_bl))
          pss_nil))))
      (pss_one (ps_ret pe_bl))), ?_⟩
    refine ⟨_, rfl, a, _, rfl, .inl ha, _, _, rfl, _, _, rfl, _, rfl, ?_, ?_, for_it (walk_range (lo := 0)) (fun i σ H' => SqL K H' a (ns.map V.int) ∧ ∃ o1 o2, σ = [some (.ref a), o1, o2]) ⟨ha, _, _, rfl⟩ (fun _ _ _ _ _ => trivial) (fun i x σ H1 H1' hi e y => ?_) (fun σ H1 e => hQ _)⟩
    · rw [List.length_map]; split <;> split <;> omega
    · rw [List.length_map]; split <;> split <;> omega
    obtain ⟨rfl, rfl⟩ := y
    obtain ⟨ha1, o1, o2, rfl⟩ := e
    have hi6 : i < 10 := by
      refine Nat.lt_of_lt_of_le hi ?_
      rw [List.length_map]
      split <;> split <;> omega
    refine ⟨_, rfl, _, rfl, a, _, ns, rfl, ha1, by omega, by omega, fun p H2 hpn s2 hp2 => ?_⟩
    obtain ⟨x2, y2, z2, hp20⟩ := id hp2
    refine ⟨_, rfl, (by show 2 ≤ sizeLine; decide), fun l1 hl1 => ?_⟩
    obtain ⟨s3, u3⟩ := laid (.lst (strsV [("a" : Str), "b"])) hl1
    have np1 : l1 ≠ p := (ne_of_none hp20 hl1).symm
    have pot3 : Pot (upd H2 l1 (.lst (strsV [("a" : Str), "b"]))) p := ⟨_, _, _, s3 _ _ hp20⟩
    refine ⟨p, l1, [("a" : Str), "b"], 7, rfl, pot3, np1, SqL.of u3, sgn_ab, by decide, by decide, fun H4 ex4 => ⟨_, rfl, iteF ?_⟩⟩
    have ex24 := (Ex.refl pot3).trans ex4
    obtain ⟨x4, y4, z4, hp4⟩ := ex4.pot
    refine ⟨_, rfl, (by show 1 ≤ sizeLine; decide), fun l2 hl2 => ?_⟩
    obtain ⟨s5, u5⟩ := laid (.lst (strsV [("a" : Str)])) hl2
    have np2 : l2 ≠ p := (ne_of_none hp4 hl2).symm
    have pot5 : Pot (upd H4 l2 (.lst (strsV [("a" : Str)]))) p := ⟨_, _, _, s5 _ _ hp4⟩
    refine ⟨p, l2, [("a" : Str)], 9, rfl, pot5, np2, SqL.of u5, sgn_a, by decide, by decide, fun H6 ex6 => ⟨_, rfl, iteF ?_⟩⟩
    obtain ⟨x6, y6, z6, hp6⟩ := ex6.pot
    refine ⟨_, rfl, (by show 2 ≤ sizeLine; decide), fun l3 hl3 => ?_⟩
    obtain ⟨s7, u7⟩ := laid (.lst (strsV [("b" : Str), "d"])) hl3
    have np3 : l3 ≠ p := (ne_of_none hp6 hl3).symm
    have pot7 : Pot (upd H6 l3 (.lst (strsV [("b" : Str), "d"]))) p := ⟨_, _, _, s7 _ _ hp6⟩
    refine ⟨p, l3, [("b" : Str), "d"], 5, rfl, pot7, np3, SqL.of u7, sgn_bd, by decide, by decide, fun H8 ex8 => ⟨_, rfl, iteF ⟨?_, _, _, rfl⟩⟩⟩
    have all : ∀ b o, b ≠ p → H2 b = some o → H8 b = some o := fun b o n h => ex8.keep _ _ n (s7 _ _ (ex6.keep _ _ n (s5 _ _ (ex4.keep _ _ n (s3 _ _ h)))))
    rcases ha1 with (h | ⟨o, h⟩) | h
    · exact .inl (.inl (all _ _ (ne_of_none h hpn) (s2 _ _ h)))
    · exact .inl (.inr ⟨o, all _ _ (ne_of_none h hpn) (s2 _ _ h)⟩)
    · exact .inr h
end
end MN
/-! the class Steps in the head's run; the signs of forms -/
namespace MN
open PySem PySem.Spec PyProof.Rows L2
abbrev gS (K : PySem.W.Frag) : Addr := He.ga K "Steps"
def stepB (K : PySem.W.Frag) : Bool := scB K (gS K) && ((slB K (gS K) "own_closed" && decide (PySem.W.slotIn K (He.ma K (gS K) "own_closed") (gS K) = some 0)) && ((slB K (gS K) "own_lasts" && decide (PySem.W.slotIn K (He.ma K (gS K) "own_lasts") (gS K) = some 1)) && ((slB K (gS K) "own_moves" && decide (PySem.W.slotIn K (He.ma K (gS K) "own_moves") (gS K) = some 2)) &&
  ((slB K (gS K) "own_start" && decide (PySem.W.slotIn K (He.ma K (gS K) "own_start") (gS K) = some 3)) && ((slB K (gS K) "own_ways" && decide (PySem.W.slotIn K (He.ma K (gS K) "own_ways") (gS K) = some 4)) && ((He.Fa.mkr "Steps").ok K && ((He.Fa.meth "Steps" "price_of_swap").ok K && ((He.Fa.meth "Steps" "filled").ok K && ((He.Fa.meth "Steps" "behind").ok K && (He.Fa.meth "Steps" "row_of_word").ok K)))))))))
theorem slB_at2 {K : PySem.W.Frag} {C : Addr} {f : Str} {i : Nat} (h : (slB K C f && decide (PySem.W.slotIn K (He.ma K C f) C = some i)) = true) : ∃ p, SlX.Slot1 K C f p i := by
  obtain ⟨a, b⟩ := He.ba h
  exact slB_at a (of_decide_eq_true b)
theorem stepB_ok {K : PySem.W.Frag} {mg : Str → Option Value} {f1 f2 f3 f4 f5 : FuncData} (h : stepB K = true) (gs : mg "Steps" = some (.ref (He.ga K "Steps")))
    (F1 : FunAt K "__init__" "Steps.__init__" (inClass (top 70) 1) [] (He.ma K (gS K) "__init__") f1) (F2 : FunAt K "price_of_swap" "Steps.price_of_swap" (inClass (top 70) 3) [] (He.ma K (gS K) "price_of_swap") f2) (F3 : FunAt K "filled" "Steps.filled" (inClass (top 70) 4) [] (He.ma K (gS K) "filled") f3)
    (F4 : FunAt K "behind" "Steps.behind" (inClass (top 70) 5) [] (He.ma K (gS K) "behind") f4) (F5 : FunAt K "row_of_word" "Steps.row_of_word" (inClass (top 70) 7) [] (He.ma K (gS K) "row_of_word") f5) : StepC K mg (gS K) := by
  obtain ⟨e1, h⟩ := He.ba h
  obtain ⟨e2, h⟩ := He.ba h
  obtain ⟨e3, h⟩ := He.ba h
  obtain ⟨e4, h⟩ := He.ba h
  obtain ⟨e5, h⟩ := He.ba h
  obtain ⟨e6, h⟩ := He.ba h
  obtain ⟨e7, h⟩ := He.ba h
  obtain ⟨e8, h⟩ := He.ba h
  obtain ⟨e9, h⟩ := He.ba h
  obtain ⟨e10, e11⟩ := He.ba h
  exact ⟨scB_ok e1, slB_at2 e2, slB_at2 e3, slB_at2 e4, slB_at2 e5, slB_at2 e6, gs, ⟨_, f1, He.mkr_ok e7, F1⟩, ⟨_, f2, He.meth_ok e8, F2⟩, ⟨_, f3, He.meth_ok e9, F3⟩, ⟨_, f4, He.meth_ok e10, F4⟩, ⟨_, f5, He.meth_ok e11, F5⟩⟩
end MN
/-! the runs of the head -/
namespace MN
open PySem PySem.Spec PyProof.Rows L2
abbrev R26 : PySem.W.OpenRow := PySem.W.OpenLaw.row PySem.Challenge.rw_mendnumber_k26_whole_rows_by_all_words
def names26 : List Str := ([("_wall" : Str), ("MendError" : Str), ("InvalidWord" : Str), ("InvalidPrices" : Str), ("InvalidForm" : Str), ("InvalidRow" : Str), ("InvalidOperation" : Str), ("InvalidNumber" : Str)] : List Str) ++ ([("TooMany" : Str), ("SIGNS" : Str), ("MAX_WORD" : Str), ("GREATEST" : Str), ("is_integer" : Str), ("is_sign" : Str), ("is_word" : Str), ("require_word" : Str)] : List Str) ++ ([("require_number" : Str), ("MAX_PRICE" : Str), ("MAX_SWAP" : Str), ("is_price" : Str), ("is_pair" : Str), ("are_prices" : Str), ("Closed" : Str), ("closed_of" : Str)] : List Str) ++ ([("Prices" : Str), ("require_prices" : Str), ("explored" : Str), ("useful_states" : Str), ("are_useful" : Str), ("classes_of" : Str), ("Quotient" : Str), ("NONE" : Str)] : List Str) ++ ([("row_at" : Str), ("last_at" : Str), ("with_first" : Str), ("states_behind" : Str), ("is_met" : Str), ("Paired" : Str), ("Chained" : Str), ("MAX_WRITTEN" : Str)] : List Str) ++ ([("MAX_STATES" : Str), ("MAX_LISTED" : Str), ("is_state" : Str), ("are_states" : Str), ("in_order" : Str), ("Form" : Str), ("MadeForm" : Str), ("require_form" : Str)] : List Str) ++ ([("require_operand" : Str), ("require_few" : Str), ("made_form" : Str), ("formed" : Str), ("behind" : Str), ("first_words" : Str), ("counts_upto" : Str), ("words_of" : Str)] : List Str) ++ ([("MAX_SIDE" : Str), ("BEYOND" : Str), ("require_small" : Str), ("require_priced" : Str), ("require_target" : Str), ("lowered_ways" : Str), ("put_ways" : Str), ("Steps" : Str)] : List Str) ++ ([("is_plain_row" : Str), ("require_row" : Str), ("row_of" : Str), ("end_cost" : Str), ("MAX_SIGNS" : Str), ("require_two" : Str), ("costs_with" : Str), ("cost_table" : Str)] : List Str) ++ ([("distance" : Str), ("_law_urn" : Str), ("_law_pull" : Str), ("_law_from" : Str), ("_law_plain_form" : Str), ("_law_form" : Str), ("_law_plain_prices" : Str), ("_law_prices" : Str)] : List Str) ++ ([("_law_closed" : Str), ("_law_price" : Str), ("_law_word" : Str), ("_law_distance" : Str), ("_law_led" : Str), ("_law_least_to" : Str), ("_law_right" : Str)] : List Str)
def defs26a : List He5.DefA := [gDef "is_integer" (top 14),
  gDef "is_sign" (top 15),
  gDef "is_word" (top 16),
  gDef "require_word" (top 17),
  gDef "is_price" (top 22),
  gDef "is_pair" (top 23),
  gDef "are_prices" (top 24),
  gDef "closed_of" (top 26),
  gDef "require_prices" (top 28),
  gDef "require_two" (top 77),
  gDef "costs_with" (top 78),
  gDef "cost_table" (top 79),
  gDef "distance" (top 80)]
def glo26a : List Str := ([("is_integer" : Str), ("is_sign" : Str), ("is_word" : Str), ("require_word" : Str), ("is_price" : Str), ("is_pair" : Str), ("are_prices" : Str), ("closed_of" : Str)] : List Str) ++ ([("require_prices" : Str), ("require_two" : Str), ("costs_with" : Str), ("cost_table" : Str), ("distance" : Str)] : List Str)
def ex26a (K : PySem.W.Frag) : Bool := gloAll K glo26a && (freeAll K bltNames && ((He.Fa.str "SIGNS" "abcde").ok K && ((He.Fa.int "GREATEST" (10 ^ 60)).ok K && ((He.Fa.int "MAX_WORD" 1000).ok K && ((He.Fa.int "MAX_PRICE" 9).ok K && ((He.Fa.int "MAX_SWAP" 18).ok K && ((He.Fa.int "MAX_WRITTEN" 8).ok K && ((He.Fa.int "MAX_SIDE" 6).ok K && ((He.Fa.int "BEYOND" 10000).ok K && ((He.Fa.int "MAX_SIGNS" 200).ok K))))))))))
def defs26b : List He5.DefA := [gDef "useful_states" (top 31),
  gDef "are_useful" (top 32),
  gDef "is_state" (top 48),
  gDef "are_states" (top 49),
  gDef "in_order" (top 50),
  gDef "require_form" (top 53),
  gDef "require_small" (top 65),
  gDef "require_priced" (top 66),
  gDef "lowered_ways" (top 68),
  gDef "put_ways" (top 69),
  gDef "is_plain_row" (top 71),
  gDef "require_row" (top 72),
  gDef "row_of" (top 73),
  gDef "end_cost" (top 74),
  { at_ := fun K => He.ga K "require_target", name := "require_target", qual := "require_target", params := defArgs (top 67), body := defBody (top 67), scope := defScope (top 67), dfl := [.str "", .str ""] },
  { at_ := fun K => He.ma K (He.ga K "Form") "__init__", name := "__init__", qual := "Form.__init__", params := defArgs (inClass (top 51) 1), body := defBody (inClass (top 51) 1), scope := defScope (inClass (top 51) 1) },
  { at_ := fun K => He.ma K (He.ga K "Form") "__len__", name := "__len__", qual := "Form.__len__", params := defArgs (inClass (top 51) 24), body := defBody (inClass (top 51) 24), scope := defScope (inClass (top 51) 24) },
  { at_ := fun K => He5.wf K (He.ga K "Form") "property" "signs", name := "signs", qual := "Form.signs", params := defArgs (inClass (top 51) 5), body := defBody (inClass (top 51) 5), scope := defScope (inClass (top 51) 5) }]
def glo26b : List Str := ([("useful_states" : Str), ("are_useful" : Str), ("is_state" : Str), ("are_states" : Str), ("in_order" : Str), ("require_form" : Str), ("require_small" : Str), ("require_priced" : Str)] : List Str) ++ ([("lowered_ways" : Str), ("put_ways" : Str), ("is_plain_row" : Str), ("require_row" : Str), ("row_of" : Str), ("end_cost" : Str), ("require_target" : Str), ("Form" : Str)] : List Str)
def ex26b (K : PySem.W.Frag) : Bool := gloAll K glo26b && (formB K && (propB K (He.ga K "Form") "signs"))
def defs26c : List He5.DefA := [{ at_ := fun K => He.ma K (He.ga K "Prices") "__init__", name := "__init__", qual := "Prices.__init__", params := defArgs (inClass (top 27) 1), body := defBody (inClass (top 27) 1), scope := defScope (inClass (top 27) 1) },
  { at_ := fun K => He.ma K (He.ga K "Closed") "__init__", name := "__init__", qual := "Closed.__init__", params := defArgs (inClass (top 25) 1), body := defBody (inClass (top 25) 1), scope := defScope (inClass (top 25) 1) },
  { at_ := fun K => He.ma K (He.ga K "Prices") "__contains__", name := "__contains__", qual := "Prices.__contains__", params := defArgs (inClass (top 27) 14), body := defBody (inClass (top 27) 14), scope := defScope (inClass (top 27) 14) },
  { at_ := fun K => He.ma K (He.ga K "Prices") "closed", name := "closed", qual := "Prices.closed", params := defArgs (inClass (top 27) 8), body := defBody (inClass (top 27) 8), scope := defScope (inClass (top 27) 8) },
  { at_ := fun K => He.ma K (He.ga K "Steps") "__init__", name := "__init__", qual := "Steps.__init__", params := defArgs (inClass (top 70) 1), body := defBody (inClass (top 70) 1), scope := defScope (inClass (top 70) 1) },
  { at_ := fun K => He.ma K (He.ga K "Steps") "price_of_swap", name := "price_of_swap", qual := "Steps.price_of_swap", params := defArgs (inClass (top 70) 3), body := defBody (inClass (top 70) 3), scope := defScope (inClass (top 70) 3) },
  { at_ := fun K => He.ma K (He.ga K "Steps") "filled", name := "filled", qual := "Steps.filled", params := defArgs (inClass (top 70) 4), body := defBody (inClass (top 70) 4), scope := defScope (inClass (top 70) 4) },
  { at_ := fun K => He.ma K (He.ga K "Steps") "behind", name := "behind", qual := "Steps.behind", params := defArgs (inClass (top 70) 5), body := defBody (inClass (top 70) 5), scope := defScope (inClass (top 70) 5) },
  { at_ := fun K => He.ma K (He.ga K "Steps") "row_of_word", name := "row_of_word", qual := "Steps.row_of_word", params := defArgs (inClass (top 70) 7), body := defBody (inClass (top 70) 7), scope := defScope (inClass (top 70) 7) },
  { at_ := fun K => He5.wf K (He.ga K "Prices") "property" "put", name := "put", qual := "Prices.put", params := defArgs (inClass (top 27) 4), body := defBody (inClass (top 27) 4), scope := defScope (inClass (top 27) 4) },
  { at_ := fun K => He5.wf K (He.ga K "Prices") "property" "out", name := "out", qual := "Prices.out", params := defArgs (inClass (top 27) 5), body := defBody (inClass (top 27) 5), scope := defScope (inClass (top 27) 5) },
  { at_ := fun K => He5.wf K (He.ga K "Prices") "property" "swap", name := "swap", qual := "Prices.swap", params := defArgs (inClass (top 27) 6), body := defBody (inClass (top 27) 6), scope := defScope (inClass (top 27) 6) }]
def glo26c : List Str := ([("Prices" : Str), ("Closed" : Str), ("Steps" : Str)] : List Str)
def ex26c (K : PySem.W.Frag) : Bool := gloAll K glo26c && (prB K && (stepB K))
def defs26d : List He5.DefA := [gDef "_law_urn" (top 82),
  gDef "_law_pull" (top 83),
  gDef "_law_from" (top 84),
  gDef "_law_plain_form" (top 85),
  gDef "_law_form" (top 86),
  gDef "_law_plain_prices" (top 87),
  gDef "_law_prices" (top 88),
  gDef "_law_closed" (top 89),
  gDef "_law_price" (top 90),
  gDef "_law_word" (top 91),
  gDef "_law_distance" (top 92),
  gDef "_law_led" (top 93),
  gDef "_law_least_to" (top 94),
  gDef "_law_right" (top 95),
  gDef "law" (top 96)]
def glo26d : List Str := ([("_law_urn" : Str), ("_law_pull" : Str), ("_law_from" : Str), ("_law_plain_form" : Str), ("_law_form" : Str), ("_law_plain_prices" : Str), ("_law_prices" : Str), ("_law_closed" : Str)] : List Str) ++ ([("_law_price" : Str), ("_law_word" : Str), ("_law_distance" : Str), ("_law_led" : Str), ("_law_least_to" : Str), ("_law_right" : Str), ("law" : Str)] : List Str)
def ex26d (K : PySem.W.Frag) : Bool := gloAll K glo26d
def ps26 : List Look := [(ex26a, defs26a), (ex26b, defs26b), (ex26c, defs26c), (ex26d, defs26d)]
set_option maxHeartbeats 0 in
theorem runL26 : RunL R26 20000 := by
  intro w os
  kernel_rfl
set_option maxHeartbeats 0 in
theorem runN26 : RunN R26 20000 (PySem.W.view R26.prog [96]) names26 := by
  intro w os
  kernel_rfl
set_option maxHeartbeats 0 in
theorem runP26a : RunP R26 20000 1100 (ex26a, defs26a) := by
  intro w os
  kernel_rfl
set_option maxHeartbeats 0 in
theorem runP26b : RunP R26 20000 1100 (ex26b, defs26b) := by
  intro w os
  kernel_rfl
set_option maxHeartbeats 0 in
theorem runP26c : RunP R26 20000 1100 (ex26c, defs26c) := by
  intro w os
  kernel_rfl
set_option maxHeartbeats 0 in
theorem runP26d : RunP R26 20000 1100 (ex26d, defs26d) := by
  intro w os
  kernel_rfl
theorem run26 (w : World) : HandSHeadRun.RunEq R26 (PySem.W.view R26.prog [96]) (hookL 1100 ps26) (obL 1100 ps26) 20000 names26 w := run_of R26 20000 runL26 runN26 (fun p hp => by
  simp only [ps26, List.mem_cons, List.not_mem_nil, or_false] at hp
  rcases hp with rfl | rfl | rfl | rfl
  · exact runP26a
  · exact runP26b
  · exact runP26c
  · exact runP26d) w
end MN
/-! the facts and the end -/
namespace MN
open PySem PySem.Spec PyProof.Rows L2
section
variable {P : Program} {w : World} {K : PySem.W.Frag} {h : Heap} {mg : Str → Option Value}
theorem at26 {ex : PySem.W.Frag → Bool} {defs : List He5.DefA} {glo : List Str} (X : K.In h) (G : h.Ns mainGlobals mg) (c : SaysX ex defs K) (hg : gloAll K glo = true) (i : Nat) (x : Str) (st : Stmt) (hi : defs[i]? = some (gDef x st)) (hx : x ∈ glo) : At K mg x st := by
  obtain ⟨fd, F⟩ := c.def_ i hi
  exact ⟨_, fd, F, gloAll_ok X G hg hx⟩
theorem facts26 {f : Addr} (X : K.In h) (G : h.Ns mainGlobals mg) (hfa : mg ("law" : Str) = some (.ref f)) (cc : ∀ p ∈ ps26, SaysX p.1 p.2 K) :
    ∃ fd : FuncData, (∀ (s : Shared) (v : Value), BindsTo s fd ⟨[v], []⟩ [("_law_script", v)]) ∧ ∀ base : Heap, K.In base → base.Ns mainGlobals mg → FnG P w K mg base 8 f fd ["_law_script"] (spLaw K) := by
  have ca : SaysX ex26a defs26a K := cc (ex26a, defs26a) (List.mem_cons_self)
  have cb : SaysX ex26b defs26b K := cc (ex26b, defs26b) (List.mem_cons_of_mem _ List.mem_cons_self)
  have cp : SaysX ex26c defs26c K := cc (ex26c, defs26c) (List.mem_cons_of_mem _ (List.mem_cons_of_mem _ List.mem_cons_self))
  have cd : SaysX ex26d defs26d K := cc (ex26d, defs26d) (List.mem_cons_of_mem _ (List.mem_cons_of_mem _ (List.mem_cons_of_mem _ List.mem_cons_self)))
  obtain ⟨ga, e⟩ := He.ba ca.all
  obtain ⟨e1, e⟩ := He.ba e
  obtain ⟨e2, e⟩ := He.ba e
  obtain ⟨e3, e⟩ := He.ba e
  obtain ⟨e4, e⟩ := He.ba e
  obtain ⟨e5, e⟩ := He.ba e
  obtain ⟨e6, e⟩ := He.ba e
  obtain ⟨e7, e⟩ := He.ba e
  obtain ⟨e8, e⟩ := He.ba e
  obtain ⟨e9, e10⟩ := He.ba e
  have B : Blt mg := Blt.of (freeAll_ok X G e1) (strC_ok X G e2)
  have GG : GlC mg "GREATEST" (.int big) := intC_ok X G e3
  have GWd : GlC mg "MAX_WORD" (.int 1000) := intC_ok X G e4
  have GP : GlC mg "MAX_PRICE" (.int 9) := intC_ok X G e5
  have GSw : GlC mg "MAX_SWAP" (.int 18) := intC_ok X G e6
  have GW : GlC mg "MAX_WRITTEN" (.int 8) := intC_ok X G e7
  have G6 : GlC mg "MAX_SIDE" (.int 6) := intC_ok X G e8
  have GB : GlC mg "BEYOND" (.int 10000) := intC_ok X G e9
  have GM : GlC mg "MAX_SIGNS" (.int 200) := intC_ok X G e10
  obtain ⟨gb, e⟩ := He.ba cb.all
  obtain ⟨b1, b2⟩ := He.ba e
  obtain ⟨gc, e⟩ := He.ba cp.all
  obtain ⟨c1, c2⟩ := He.ba e
  have gd : gloAll K glo26d = true := cd.all
  obtain ⟨ft, Ft⟩ := cb.def_ 14
  obtain ⟨fi, Fi⟩ := cb.def_ 15
  obtain ⟨fl, Fl⟩ := cb.def_ 16
  obtain ⟨fs, Fs⟩ := cb.def_ 17
  obtain ⟨p0, p1, i0, i1, FC⟩ := formB_ok b1 Fi Fl
  have FS : FormS K (He.ga K "Form") := ⟨_, _, fs, propB_ok b2, Fs⟩
  have hC : mg "Form" = some (.ref (He.ga K "Form")) := gloAll_ok X G gb (by decide +kernel)
  have GF : GlC mg "Form" (.ref (He.ga K "Form")) := ⟨_, hC, rfl⟩
  have ht : mg "require_target" = some (.ref (He.ga K "require_target")) := gloAll_ok X G gb (by decide +kernel)
  obtain ⟨f1, F1⟩ := cp.def_ 0
  obtain ⟨f2, F2⟩ := cp.def_ 1
  obtain ⟨f3, F3⟩ := cp.def_ 2
  obtain ⟨f4, F4⟩ := cp.def_ 3
  obtain ⟨s1, S1⟩ := cp.def_ 4
  obtain ⟨s2, S2⟩ := cp.def_ 5
  obtain ⟨s3, S3⟩ := cp.def_ 6
  obtain ⟨s4, S4⟩ := cp.def_ 7
  obtain ⟨s5, S5⟩ := cp.def_ 8
  obtain ⟨f5, F5⟩ := cp.def_ 9
  obtain ⟨f6, F6⟩ := cp.def_ 10
  obtain ⟨f7, F7⟩ := cp.def_ 11
  have PC := prB_ok (mg := mg) c1 (gloAll_ok X G gc (by decide +kernel)) (gloAll_ok X G gc (by decide +kernel)) F1 F2 F3 F4 F5 F6 F7
  have SC := stepB_ok (mg := mg) c2 (gloAll_ok X G gc (by decide +kernel)) S1 S2 S3 S4 S5
  obtain ⟨fd, F⟩ := cd.def_ 14
  have e := hfa.symm.trans (gloAll_ok X G gd (x := "law") (by decide +kernel))
  cases e
  have b := FunD.bindsA (ps := ["_law_script"]) F fun _ _ _ _ _ _ us hl => match us, hl with | [_], _ => rfl
  refine ⟨fd, fun s v => b s [v] rfl, fun base _ _ => ?_⟩
  have aa := fun i x st hi hx => at26 (mg := mg) (glo := glo26a) X G ca ga i x st hi hx
  have ab := fun i x st hi hx => at26 (mg := mg) (glo := glo26b) X G cb gb i x st hi hx
  have ad := fun i x st hi hx => at26 (mg := mg) (glo := glo26d) X G cd gd i x st hi hx
  have c_is_integer : Cal P w K mg base 1 "is_integer" (spIsInt K) := MN.c_is_integer (aa 0 _ _ rfl (by decide +kernel)) B GG
  have c_is_sign : Cal P w K mg base 1 "is_sign" (spIsSign K) := MN.c_is_sign (aa 1 _ _ rfl (by decide +kernel)) B
  have c_is_word : Cal P w K mg base 1 "is_word" (spIsWord K) := MN.c_is_word (aa 2 _ _ rfl (by decide +kernel)) B
  have c_require_word : Cal P w K mg base 2 "require_word" spReqWord := MN.c_require_word (aa 3 _ _ rfl (by decide +kernel)) B GWd c_is_word
  have c_is_price : Cal P w K mg base 2 "is_price" (spIsPrice K) := MN.c_is_price (aa 4 _ _ rfl (by decide +kernel)) c_is_integer
  have c_is_pair : Cal P w K mg base 2 "is_pair" (spIsPair K) := MN.c_is_pair (aa 5 _ _ rfl (by decide +kernel)) B c_is_sign
  have c_are_prices : Cal P w K mg base 3 "are_prices" spAreP := MN.c_are_prices (aa 6 _ _ rfl (by decide +kernel)) B GP GSw c_is_sign c_is_price c_is_pair
  have c_closed_of : Cal P w K mg base 3 "closed_of" (spClosedOf (He.ga K "Prices") (He.ga K "Closed")) := MN.c_closed_of (aa 7 _ _ rfl (by decide +kernel)) B PC
  have c_require_prices : Cal P w K mg base 1 "require_prices" (spReqPrices (He.ga K "Prices")) := MN.c_require_prices (aa 8 _ _ rfl (by decide +kernel)) B PC
  have c_require_two : Cal P w K mg base 3 "require_two" (spReqTwo (He.ga K "Prices")) := MN.c_require_two (aa 9 _ _ rfl (by decide +kernel)) B PC GM c_is_sign c_require_word c_require_prices
  have c_costs_with : Cal P w K mg base 1 "costs_with" (spCostsWith (He.ga K "Closed")) := MN.c_costs_with (aa 10 _ _ rfl (by decide +kernel)) B PC
  have c_cost_table : Cal P w K mg base 2 "cost_table" (spCostTable (He.ga K "Closed")) := MN.c_cost_table (aa 11 _ _ rfl (by decide +kernel)) B PC c_costs_with
  have c_distance : Cal P w K mg base 4 "distance" (spDistance (He.ga K "Prices")) := MN.c_distance (aa 12 _ _ rfl (by decide +kernel)) B PC c_require_two c_closed_of c_cost_table
  have c_useful_states : Cal P w K mg base 1 "useful_states" (spUseful K) := MN.c_useful_states (ab 0 _ _ rfl (by decide +kernel)) B
  have c_are_useful : Cal P w K mg base 2 "are_useful" (spAreUseful K) := MN.c_are_useful (ab 1 _ _ rfl (by decide +kernel)) B c_useful_states
  have c_is_state : Cal P w K mg base 2 "is_state" (spIsState K) := MN.c_is_state (ab 2 _ _ rfl (by decide +kernel)) B c_is_sign c_is_integer
  have c_are_states : Cal P w K mg base 3 "are_states" (spAreStates K) := MN.c_are_states (ab 3 _ _ rfl (by decide +kernel)) B GW c_is_state c_are_useful
  have c_in_order : Cal P w K mg base 1 "in_order" spInOrderM := MN.c_in_orderM (ab 4 _ _ rfl (by decide +kernel)) B
  have c_require_form : Cal P w K mg base 1 "require_form" (spReqForm K _ i0 i1) := MN.c_require_form (ab 5 _ _ rfl (by decide +kernel)) B FC GF
  have c_require_small : Cal P w K mg base 3 "require_small" (spReqForm K _ i0 i1) := MN.c_require_small (ab 6 _ _ rfl (by decide +kernel)) B FC G6
  have c_require_priced : Cal P w K mg base 3 "require_priced" (spPriced2 K (He.ga K "Prices")) := MN.c_require_priced (ab 7 _ _ rfl (by decide +kernel)) B PC c_is_sign
  have c_lowered_ways : Cal P w K mg base 1 "lowered_ways" spLowered := MN.c_lowered_ways (ab 8 _ _ rfl (by decide +kernel)) B
  have c_put_ways : Cal P w K mg base 2 "put_ways" (spPutWays K) := MN.c_put_ways (ab 9 _ _ rfl (by decide +kernel)) B c_lowered_ways
  have c_is_plain_row : Cal P w K mg base 2 "is_plain_row" (spPlain K) := MN.c_is_plain_row (ab 10 _ _ rfl (by decide +kernel)) B G6 GB c_is_integer
  have c_require_row : Cal P w K mg base 3 "require_row" (spReqRow K _ i0 i1) := MN.c_require_row (ab 11 _ _ rfl (by decide +kernel)) B FC c_is_plain_row
  have c_require_target : CalD P w K mg base 4 "require_target" [.str ""] (spReqTarget K _ i0 i1 (He.ga K "Prices")) := MN.c_require_target1 ht Ft FC FS B c_require_priced c_require_small
  have c_row_of : Cal P w K mg base 6 "row_of" (spRowOf K _ i0 i1 (He.ga K "Prices")) := MN.c_row_of (ab 12 _ _ rfl (by decide +kernel)) B SC FC PC GB c_require_form c_require_prices c_require_word c_require_target c_closed_of c_put_ways
  have c_end_cost : Cal P w K mg base 4 "end_cost" (spEndCost K _ i0 i1) := MN.c_end_cost (ab 13 _ _ rfl (by decide +kernel)) B FC c_require_form c_require_row c_require_small
  have c_law_urn : Cal P w K mg base 1 "_law_urn" (spFilled K) := MN.c_law_urn (ad 0 _ _ rfl (by decide +kernel)) B
  have c_law_pull : Cal P w K mg base 1 "_law_pull" spDip := MN.c_law_pull (ad 1 _ _ rfl (by decide +kernel)) B
  have c_law_from : Cal P w K mg base 2 "_law_from" (spFrom K) := MN.c_law_from (ad 2 _ _ rfl (by decide +kernel)) B c_law_pull
  have c_law_plain_form : Cal P w K mg base 3 "_law_plain_form" (spPForm K) := MN.c_law_plain_form (ad 3 _ _ rfl (by decide +kernel)) B c_law_pull c_law_from
  have c_law_form : Cal P w K mg base 6 "_law_form" (spFormL K _ i0 i1) := MN.c_law_formM (ad 4 _ _ rfl (by decide +kernel)) B FC hC c_are_states c_in_order
  have c_law_plain_prices : Cal P w K mg base 2 "_law_plain_prices" (spPlainP K) := MN.c_law_plain_prices (ad 5 _ _ rfl (by decide +kernel)) B c_law_pull
  have c_law_prices : Cal P w K mg base 6 "_law_prices" (spPrices26 (He.ga K "Prices")) := MN.c_law_prices (ad 6 _ _ rfl (by decide +kernel)) B PC c_are_prices
  have c_law_closed : Cal P w K mg base 1 "_law_closed" spClosed26 := MN.c_law_closed (ad 7 _ _ rfl (by decide +kernel)) B
  have c_law_price : Cal P w K mg base 1 "_law_price" spPrice26 := MN.c_law_price26 (ad 8 _ _ rfl (by decide +kernel))
  have c_law_word : Cal P w K mg base 3 "_law_word" (spWord26 K) := MN.c_law_word26 (ad 9 _ _ rfl (by decide +kernel)) B c_law_pull c_law_from
  have c_law_distance : Cal P w K mg base 2 "_law_distance" spDist26 := MN.c_law_distance (ad 10 _ _ rfl (by decide +kernel)) B c_law_price
  have c_law_led : Cal P w K mg base 1 "_law_led" (spLed K) := MN.c_law_led (ad 11 _ _ rfl (by decide +kernel)) B
  have c_law_least_to : Cal P w K mg base 3 "_law_least_to" (spLeastTo K) := MN.c_law_least_to (ad 12 _ _ rfl (by decide +kernel)) B c_law_led c_law_distance
  have c_law_right : Cal P w K mg base 7 "_law_right" (spRight26 K) := MN.c_law_right (ad 13 _ _ rfl (by decide +kernel)) B FC PC c_law_plain_form c_law_plain_prices c_law_form c_law_prices c_law_closed c_law_word c_row_of c_law_least_to c_law_led c_distance c_end_cost c_are_prices c_closed_of
  exact f_law F B c_law_urn c_law_right
end
end MN
open PySem PySem.W PySem.Calls PyProof.Rows
set_option maxHeartbeats 0 in
theorem PySem.Challenge.cw_mendnumber_k26_whole_rows_by_all_words_holds : PySem.Challenge.rw_mendnumber_k26_whole_rows_by_all_words.Holds := by
  w_on; o_law
  refine HandSHeadRun.head_any (r := OpenLaw.row PySem.Challenge.rw_mendnumber_k26_whole_rows_by_all_words) (q := view (OpenLaw.row PySem.Challenge.rw_mendnumber_k26_whole_rows_by_all_words).prog [96]) (H := MN.hookL 1100 MN.ps26) (ob := MN.obL 1100 MN.ps26) (M := 20000) (loose := MN.names26) (d := HandSHeadRun.topDef (OpenLaw.row PySem.Challenge.rw_mendnumber_k26_whole_rows_by_all_words).prog 96) (kwd := []) (MN.obL_eq 1100 MN.ps26)
    (by kernel_rfl) (fun s => by kernel_rfl) MN.run26 (by kernel_rfl) (by kernel_rfl) (by kernel_rfl) (by rfl) (by first | assumption | decide +kernel) (by decide +kernel) ⟨rfl, rfl, rfl, rfl, rfl, by decide +kernel⟩ ?hw ?hc
  case hw => w_witness2
  case hc =>
    refine MN.walk_g (l := PySem.Challenge.rw_mendnumber_k26_whole_rows_by_all_words) (n := 63) (k := 8) (x := "_law_script") rfl (by decide) (by kernel_rfl) ⟨rfl, by decide, by decide⟩ ?F
    intro w mg fa h Y G hmg0
    obtain ⟨K, KX, c⟩ := Y
    have hmg : mg ("law" : PySem.Str) = some (.ref fa) := by
      have e : (HandSHeadRun.topDef (OpenLaw.row PySem.Challenge.rw_mendnumber_k26_whole_rows_by_all_words).prog 96).name = ("law" : PySem.Str) := by kernel_rfl
      rw [← e]
      exact hmg0
    obtain ⟨fd, hb, hF⟩ := MN.facts26 (P := (PySem.Challenge.rw_mendnumber_k26_whole_rows_by_all_words).prog) (w := w) KX G hmg c
    exact ⟨K, fd, MN.spLaw K, KX, hb, fun H a ns hl _ hS => ⟨a, ns, rfl, hS, Nat.le_trans hl (by decide), fun _ => rfl⟩, hF⟩
