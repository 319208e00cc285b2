import PyProof.Rows.All
import Wide.All
import OpenK.AllK
import Wide.FinOn
import KE.KStateDown
import KE.SortKeyHeap
import KE.GoesMore
import KE.GoesNew
import KE.KDictZip
import Lean
import HandS.ForMost
import HandS.More
import HandS.Walk
import HandS.Flow
import HandS.Style
import HandS.Conv
import HandS.Defaults
import HandS.IsInst
import HandS.DictComp
import HandS.SortKw
import HandS.Slots
import HandS.SlotsOwn
import HandS.ClsMeth
import HandS.MakeKwOnly
import HandS.Zip
import HandS.TupAny
import HandS.ListItems
import HandS.SetFor
import HandS.SetBool
import HandS.Strs
import HandS.CallLocal
import HandS.WordsExc
import HandS.WordsDict
import HandS.Small
import HandS.Head0
import HandS.Head1
import HandS.Head2
import HandS.HeadEnd
import HandS.HeadHook1
import HandS.HeadHook2
import HandS.HeadNt
import HandS.GenList
import HandS.TupLen
import KE.KDictPairs
import HandS.DictTup
import HandS.Star
import HandS.TupSets
import HandS.Flt
import HandS.Property
import HandS.TupMul
import KE.DataMinMax
import KE.KDictItemsList
import HandS.DictEq
import HandS.OwnEq
import HandS.FStr
import HandS.TryOnly
import PySem.Challenge.RW_mendnumber_k02_whole_histories_of_prices
set_option Elab.async false
set_option linter.all false
set_option maxRecDepth 100000
set_option maxHeartbeats 4000000
/-! defs by their names; promises that hold while nothing is being shown (repr) -/
namespace MN
open PySem PySem.Spec PyProof.Rows L2
/-- the def x of the text st, under its name -/
def At (K : PySem.W.Frag) (mg : Str → Option Value) (x : Str) (st : Stmt) : Prop := ∃ f fd, FunD K x x (defArgs st) (defBody st) (defScope st) [] [] f fd ∧ mg x = some (.ref f)
abbrev BindEq (x : Str) (st : Stmt) (ps : List Str) : Prop := ∀ (kV doc pm : Value) (an : Option Addr) (cdv ct : Value) (us : List Value), us.length = ps.length → bindArgs (PySem.W.fnOf x x (defArgs st) (defBody st) (defScope st) .none kV doc pm an cdv ct) ⟨us, []⟩ = pure (ps.zip us)
/-- a def that may be called by its name -/
structure Cal (P : Program) (w : World) (K : PySem.W.Frag) (mg : Str → Option Value) (base : Heap) (k : Nat) (x : Str) (sp : Sp) : Prop where
  ex : ∃ (f : Addr) (fd : FuncData) (ps : List Str), FnOk P w K mg base CX0 k f fd ps sp ∧ mg x = some (.ref f) ∧ PySem.W.keepIn K (.ref f) = true ∧ Binds K fd ps []
/-- FnOk for calls under which nothing is being shown -/
structure FnG (P : Program) (w : World) (K : PySem.W.Frag) (mg : Str → Option Value) (base : Heap) (k : Nat) (f : Addr) (fd : FuncData) (ps : List Str) (sp : Sp) : Prop where
  len : ∀ vs H Q E, sp vs H Q E → vs.length = ps.length
  run : ∀ (A : Around) (outer : List Env) (s : Shared) (H : Hp) (args : Args) (us : List Value) (vs : List V) (Q : VK) (E : XK), A.guards = some [] → Room k A → Env0 P w K mg base A outer s H →
    BindsTo s fd args (ps.zip us) → Vals vs us → sp vs H Q E → codeAny (model P w) A (.call (.ref f) args) (CR CX0 outer P w H s Q E) s
structure CalG (P : Program) (w : World) (K : PySem.W.Frag) (mg : Str → Option Value) (base : Heap) (k : Nat) (x : Str) (sp : Sp) : Prop where
  ex : ∃ (f : Addr) (fd : FuncData) (ps : List Str), FnG P w K mg base k f fd ps sp ∧ mg x = some (.ref f) ∧ PySem.W.keepIn K (.ref f) = true ∧ Binds K fd ps []
section
variable {X : Cx} {k j : Nat} {x : Str} {sp : Sp} {p pos : Pos} {e : Expr} {es : List Expr} {t : TA}
theorem pe_c (c : Cal X.prog X.w X.K X.mg X.base k x sp) (hr : Room j X.A) (hk : k ≤ j) (hg : Gl X x) (ha : PA X (e :: es) t)
    (hdb : (x == ("__debug__" : Str)) = false := by decide) (he : starEach (e :: es) X.env = (false, eval e X.env) :: starEach es X.env := by rfl)
    (hpl : (backTo pos (starEach es X.env)).any (·.1) = false := by rfl) : PE X (.Call (.Name x p) (e :: es) [] pos) (tCall sp [] E0 t) := by
  obtain ⟨f, fd, ps, F, hm, kp, b⟩ := c.ex
  exact pe_call F (hr.mono hk) hg hm kp b .nil pass0 ha hdb he hpl
theorem run_g {f : Addr} {fd : FuncData} {ps : List Str} {pins : List (Addr × Obj)} {σ : L2.St} {H : Hp} {s : Shared} {Q : VK} {us : List Value} {vs : List V} (F : FnG X.prog X.w X.K X.mg X.base k f fd ps sp) (gd : X.A.guards = some []) (hr : Room k X.A)
    (hb : Binds X.K fd ps []) (I : Inv X pins σ H s) (r : Vals vs us) (h : sp vs H Q E0) : wpAny (model X.prog X.w) X.A (call (.ref f) us) (EP X pins σ Q) X.xe s := by
  have hl : us.length = ps.length := r.length.symm.trans (F.len _ _ _ _ h)
  have hb' := hb s us I.kIn (by rw [List.append_nil]; exact hl)
  rw [List.append_nil] at hb'
  refine wpAny_call (codeAny_mono (F.run X.A X.stack s H ⟨us, []⟩ us vs Q E0 gd hr I.env0 hb' r h) fun r s' hq => ?_)
  match r, hq with
  | .ok (.ret u), hq => exact I.after hq
theorem pe_cG (c : CalG X.prog X.w X.K X.mg X.base k x sp) (gd : X.A.guards = some []) (hr : Room j X.A) (hk : k ≤ j) (hg : Gl X x) (ha : PA X (e :: es) t)
    (hdb : (x == ("__debug__" : Str)) = false := by decide) (he : starEach (e :: es) X.env = (false, eval e X.env) :: starEach es X.env := by rfl)
    (hpl : (backTo pos (starEach es X.env)).any (·.1) = false := by rfl) : PE X (.Call (.Name x p) (e :: es) [] pos) (tCall sp [] E0 t) := by
  obtain ⟨f, fd, ps, F, hm, kp, b⟩ := c.ex
  refine ⟨fun pins s σ H Q I h => ?_⟩
  refine wpAny_Call_Name_kw (ld_glob I hg hm ?_ hdb)
  refine PySem.W.callWith_K (h₀ := X.base) I.ok.mod.kin kp (thn (ha.run pos pins s σ H _ I h) fun us s1 ⟨vs, H1, I1, r, q⟩ => ⟨I1.kIn, ?_⟩) he hpl
  exact run_g F gd (hr.mono hk) b I1 r (List.append_nil vs ▸ (show sp (vs ++ []) H1 Q E0 from q))
/-- a constant of the module -/
theorem pe_gl {v : V} (hg : Gl X x) (h : ∃ u, X.mg x = some u ∧ RelV v u) (hd : (x == ("__debug__" : Str)) = false := by decide) : PE X (.Name x pos) (tC v) := by
  obtain ⟨u, hm, r⟩ := h
  exact pe_glob hg hm r hd
end
section
variable {P : Program} {w : World} {K : PySem.W.Frag} {mg : Str → Option Value} {base : Heap}
theorem Cal.g {k : Nat} {x : Str} {sp : Sp} (c : Cal P w K mg base k x sp) : CalG P w K mg base k x sp := by
  obtain ⟨f, fd, ps, F, hm, kp, b⟩ := c.ex
  exact ⟨f, fd, ps, ⟨F.len, fun A outer s H args us vs Q E _ => F.run A outer s H args us vs Q E⟩, hm, kp, b⟩
theorem cal_of {x : Str} {st : Stmt} {N ps : List Str} {k : Nat} {sp : Sp} (A : At K mg x st) (S : FnScope N ps (defScope st)) (hb : BindEq x st ps)
    (len : ∀ vs H Q E, sp vs H Q E → vs.length = ps.length)
    (hbody : ∀ (f : Addr) (cdv : Value) (A : Around) (outer : List Env) (s : Shared) (H : Hp) (vs : List V) (Q : VK) (E : XK), Room k (A.deeper (envOfC x (defScope st) s.heap.objs.size f cdv)) → sp vs H Q E →
      ∃ t, PSs (cxOf CX0 P w K mg base N x (defScope st) f cdv A outer s H E).nox (defBody st) t ∧ t { nx := fun _ H' => Q .non H', rt := Q } (start N vs) H) : Cal P w K mg base (k + 1) x sp := by
  obtain ⟨f, fd, F, hm⟩ := A
  refine ⟨f, fd, ps, F.ok S len fun cdv A outer s H vs Q E hr h => ?_, hm, F.kp, F.bindsN hb⟩
  obtain ⟨t, h1, h2⟩ := hbody f cdv A outer s H vs Q E hr h
  exact ⟨t, h1.nox, h2⟩
theorem fnG_of {x : Str} {st : Stmt} {N ps : List Str} {k : Nat} {sp : Sp} {f : Addr} {fd : FuncData} (F : FunD K x x (defArgs st) (defBody st) (defScope st) [] [] f fd) (S : FnScope N ps (defScope st))
    (len : ∀ vs H Q E, sp vs H Q E → vs.length = ps.length)
    (hbody : ∀ (cdv : Value) (A : Around) (outer : List Env) (s : Shared) (H : Hp) (vs : List V) (Q : VK) (E : XK), (A.deeper (envOfC x (defScope st) s.heap.objs.size f cdv)).guards = some [] → Room k (A.deeper (envOfC x (defScope st) s.heap.objs.size f cdv)) → sp vs H Q E →
      ∃ t, PSs (cxOf CX0 P w K mg base N x (defScope st) f cdv A outer s H E).nox (defBody st) t ∧ t { nx := fun _ H' => Q .non H', rt := Q } (start N vs) H) : FnG P w K mg base (k + 1) f fd ps sp := by
  refine ⟨len, fun A outer s H args us vs Q E gd hr e0 hb r hsp => ?_⟩
  obtain ⟨oc, od, dV, kV, doc, pm, an, cdv, ct, osl, rfl, lk, hcd, -, -⟩ := F.ex
  have kin : ∀ b o, base.get? b = some o → s.heap.get? b = some o := fun b o e => (e0.bs b o e).1
  have KX : K.In s.heap := e0.mod.kin.keeps kin
  refine codeAny_call_function hr.depth (KX _ _ lk) rfl S.co S.gen rfl (PySem.W.codeRec_of KX hcd) (hb _ _ _ _ ?_)
  refine wpAny_newFunctionEnv_cells S.kind (fun y hy => (S.par y.1 (List.of_mem_zip hy).1).imp id fun q => ⟨q, PySem.W.cellsFrom_some _ _ _ (.inl q)⟩) fun env he s1 ic => ?_
  cases he
  refine ⟨(e0.mod.nolimit.keeps kin).keeps ic.toInCall.keep, codeAny_func ?_⟩
  obtain ⟨t, ht, hq⟩ := hbody cdv A outer s H vs Q E gd (hr.deeper _) hsp
  have I : Inv (cxOf CX0 P w K mg base N x (defScope st) f cdv A outer s H E) [] (start N vs) H s1 := inv_start S hr.hd e0 (len _ _ _ _ hsp) r ic
  refine wpAny_mono (ht.nox.run [] s1 (start N vs) H _ I hq) (fun fl s' hs => ?_) fun _ _ hs => hs
  match fl, hs with
  | .ret u, ⟨v, σ', H', J, rv, q⟩ => exact ⟨v, H', J.os, J.bare, J.base, J.hok, rv, q⟩
  | .next, ⟨σ', H', J, q⟩ => exact ⟨V.non, H', J.os, J.bare, J.base, J.hok, rfl, q⟩
  | .brk, ⟨_, _, _, q⟩ => exact q.elim
  | .cont, ⟨_, _, _, q⟩ => exact q.elim
theorem calG_of {x : Str} {st : Stmt} {N ps : List Str} {k : Nat} {sp : Sp} (A : At K mg x st) (S : FnScope N ps (defScope st)) (hb : BindEq x st ps)
    (len : ∀ vs H Q E, sp vs H Q E → vs.length = ps.length)
    (hbody : ∀ (f : Addr) (cdv : Value) (A : Around) (outer : List Env) (s : Shared) (H : Hp) (vs : List V) (Q : VK) (E : XK), (A.deeper (envOfC x (defScope st) s.heap.objs.size f cdv)).guards = some [] → Room k (A.deeper (envOfC x (defScope st) s.heap.objs.size f cdv)) → sp vs H Q E →
      ∃ t, PSs (cxOf CX0 P w K mg base N x (defScope st) f cdv A outer s H E).nox (defBody st) t ∧ t { nx := fun _ H' => Q .non H', rt := Q } (start N vs) H) : CalG P w K mg base (k + 1) x sp := by
  obtain ⟨f, fd, F, hm⟩ := A
  exact ⟨f, fd, ps, fnG_of F S len (hbody f), hm, F.kp, F.bindsN hb⟩
end
end MN
/-! the end of a law's row: its def called where nothing is being shown -/
namespace MN
open PySem PySem.Spec PyProof.Rows L2
theorem law_g {P : Program} {w : World} {K : PySem.W.Frag} {mg mb : Str → Option Value} {k : Nat} {fa a : Addr} {fd : FuncData} {x : Str} {sp : Sp} {s₁ : Shared} {vs : List Value} {ns : List Int}
    (KX : K.In s₁.heap) (hns : s₁.heap.Ns mainGlobals mg) (hb : s₁.heap.Ns builtinsNs mb) (hbb : ∀ x : Str, x ≠ "__name__" → mb x = bootBuiltins x) (hlim : s₁.heap.NoLimit) (hg : s₁.gens = #[])
    (ha : s₁.heap.get? a = some { cls := .type "list", data := .seq vs.toArray }) (hi : IntsAre vs ns) (hl : ns.length ≤ sizeLine) (hr : Room k callerA)
    (F : ∀ base : Heap, K.In base → base.Ns mainGlobals mg → FnG P w K mg base k fa fd [x] sp) (hbind : ∀ (s : Shared) (u : Value), BindsTo s fd ⟨[u], []⟩ [(x, u)])
    (hsp : ∀ H : Hp, Only H → SqL K H a (ns.map V.int) → sp [.ref a] H (fun v _ => v = .bl true) E0) :
    codeAny (model P w) callerA (.call (.ref fa) ⟨[.ref a], []⟩) (fun r s' => r = .ok (.ret (.bool true)) ∧ OldK s₁.heap s'.heap ∧ s'.os = s₁.os ∧ AllBare s'.gens) s₁ := by
  have rv := vals_ints hi
  have core : ∀ H : Hp, Only H → SqL K H a (ns.map V.int) → HOk P w H s₁.heap → (∀ b u, H b = some u → b = a ∧ K.lookup a = none) →
      codeAny (model P w) callerA (.call (.ref fa) ⟨[.ref a], []⟩) (fun r s' => r = .ok (.ret (.bool true)) ∧ OldK s₁.heap s'.heap ∧ s'.os = s₁.os ∧ AllBare s'.gens) s₁ := by
    intro H hO hS hok hA
    have free : ∀ {b : Addr}, b ≠ a → H b = none := fun {b} hb => by
      cases q : H b with
      | none => rfl
      | some u => exact absurd (hA b u q).1 hb
    have nsK : ∀ {b : Addr} {m : Str → Option Value}, s₁.heap.Ns b m → (hidT s₁.heap H).Ns b m := fun {b m} ⟨o, es, ep, e, d, r⟩ => by
      refine ⟨o, es, ep, hidT_get e (free fun z => ?_), d, r⟩
      rw [z, ha] at e
      cases e
      cases (show Data.seq vs.toArray _ = Data.dict es ep from d)
    have hKb : K.In (hidT s₁.heap H) := fun b o e => by
      refine hidT_get (KX b o e) ?_
      cases q : H b with
      | none => rfl
      | some u =>
        obtain ⟨z, zk⟩ := hA b u q
        rw [z, zk] at e
        cases e
    have hM : Mod K mg (hidT s₁.heap H) := by
      obtain ⟨mc, h1, h2⟩ := hlim
      exact ⟨hKb, nsK hns, ⟨mb, nsK hb, hbb⟩, ⟨mc, nsK h1, h2⟩⟩
    have e0 : Env0 P w K mg (hidT s₁.heap H) callerA [] s₁ H := by
      refine ⟨rfl, hM, fun b o e => of_hidT e, Nat.le_of_eq (hidT_size _ _), trivial, fun b hb => ?_, hok, .of_eq hg⟩
      cases (show b ∈ ([] : List Addr) from hb)
    refine codeAny_mono ((F _ hKb (nsK hns)).run callerA [] s₁ H ⟨[.ref a], []⟩ [.ref a] [.ref a] _ _ rfl hr e0 (hbind s₁ (.ref a)) (.cons rfl .nil) (hsp H hO hS)) fun r s' h => ?_
    match r, h with
    | .ok (.ret u), ⟨v, H', os, bare, un, hok', r', q⟩ =>
      cases (show v = .bl true from q)
      cases (show u = Value.bool true from r')
      refine ⟨rfl, OldK.of_keep fun b o e => ?_, os, bare⟩
      rcases hO b with z | ⟨ob, xs, z⟩
      · exact un.keep b o e z (fun y => nomatch (show b ∈ ([] : List Addr) from y)) (fun y => nomatch (show b ∈ ([] : List Addr) from y))
      · have e1 := (hok b _ z).1
        have e2 := (hok' b _ (un.frzs b ob _ z)).1
        rw [e] at e1
        cases e1
        exact e2
  cases hk : K.lookup a with
  | some o =>
    have e := KX a o hk
    rw [ha] at e
    cases e
    refine core (fun _ => none) (fun _ => .inl rfl) (.inr ⟨_, vs.toArray, _, hk, rfl, rfl, rfl, ?_, by simpa using rv⟩) (fun _ _ z => nomatch z) (fun _ _ z => nomatch z)
    rw [List.size_toArray, hi.length]
    exact hl
  | none =>
    let o : Obj := { cls := .type "list", data := .seq vs.toArray }
    have at_ : ∀ b u, upd (fun _ => none) a (.frz o (.lst (ns.map V.int))) b = some u → b = a ∧ u = .frz o (.lst (ns.map V.int)) := fun b u q => by
      by_cases z : b = a
      · subst z
        rw [upd_same] at q
        exact ⟨rfl, (Option.some.inj q).symm⟩
      · rw [upd_ne z] at q
        cases q
    refine core (upd (fun _ => none) a (.frz o (.lst (ns.map V.int)))) (fun b => ?_) (.inl (.inr ⟨o, upd_same⟩)) (fun b u q => ?_) (fun b u q => ⟨(at_ b u q).1, hk⟩)
    · by_cases z : b = a
      · subst z; exact .inr ⟨_, _, upd_same⟩
      · exact .inl (upd_ne z)
    · obtain ⟨rfl, rfl⟩ := at_ b u q
      exact ⟨ha, by rw [List.length_map]; exact hl, vs, _, rv, ha⟩
theorem walk_g {l : PySem.W.OpenLaw} {n k : Nat} {q : Program} {loose : List Str} {XP : (Str → Option Value) → Heap → Prop} {YP : World → Heap → Prop} {d : DefRec} {x : Str}
    (hn : l.most = some n) (hn2 : n ≤ sizeLine) (hdf : d.params.defaults = []) (hr : Room k callerA)
    (F : ∀ (w : World) (mg : Str → Option Value) (fa : Addr) (h : Heap), YP w h → h.Ns mainGlobals mg → mg d.name = some (.ref fa) →
      ∃ (K : PySem.W.Frag) (fd : FuncData) (sp : Sp), K.In h ∧ (∀ (s : Shared) (u : Value), BindsTo s fd ⟨[u], []⟩ [(x, u)]) ∧
        (∀ (H : Hp) (a : Addr) (ns : List Int), ns.length ≤ n → Only H → SqL K H a (ns.map V.int) → sp [.ref a] H (fun v _ => v = .bl true) E0) ∧
        ∀ base : Heap, K.In base → base.Ns mainGlobals mg → FnG l.prog w K mg base k fa fd [x] sp) :
    PySem.W.WalkO q loose XP YP l.row.toRowW d [] (fun f vs => PySem.call f vs) := by
  refine Att.attach_call hn hdf fun w s₀ s₁ mg mb fa o pm cd doc a vs ns G Y ho hd hcd hmg hobj hints hlen hg => ?_
  obtain ⟨K, fd, sp, KX, hb, hsp, hF⟩ := F w mg fa _ Y G.T.g hmg
  exact law_g KX G.T.g G.T.b G.T.builtins G.T.nolimit hg hobj hints (Nat.le_trans hlen hn2) hr hF hb fun H hO hS => hsp H a ns hlen hO hS
end MN
namespace MN
open PySem L2
def top (i : Nat) : Stmt := PySem.Challenge.pw_mendnumber_k02_whole_histories_of_prices.main.body.getD i (.Pass ⟨0, 0, 0, 0⟩)
end MN
/-! comprehensions whose tests and items leave the heap as it is -/
namespace MN
open PySem PySem.Spec PyProof.Rows L2
theorem seqL_upd {K : PySem.W.Frag} {H : Hp} {a D : Addr} {xs : List V} {o : HO} (h : SqL K H a xs) (hD : H D = none) : SqL K (upd H D o) a xs := by
  rcases h with (h | ⟨o, h⟩) | h
  · exact .inl (.inl (by rw [upd_ne (ne_of_none h hD)]; exact h))
  · exact .inl (.inr ⟨o, by rw [upd_ne (ne_of_none h hD)]; exact h⟩)
  · exact .inr h
theorem seqT_upd {K : PySem.W.Frag} {H : Hp} {a D : Addr} {xs : List V} {o : HO} (h : SqT K H a xs) (hD : H D = none) : SqT K (upd H D o) a xs := by
  rcases h with (h | ⟨o, h⟩) | h
  · exact .inl (.inl (by rw [upd_ne (ne_of_none h hD)]; exact h))
  · exact .inl (.inr ⟨o, by rw [upd_ne (ne_of_none h hD)]; exact h⟩)
  · exact .inr h
theorem Same.seqT {K : PySem.W.Frag} {H H' : Hp} {a : Addr} {xs : List V} (e : Same H H') (h : SqT K H a xs) : SqT K H' a xs := by
  rcases h with (h | ⟨o, h⟩) | h
  · exact .inl (.inl (e _ _ h))
  · exact .inl (.inr ⟨o, e _ _ h⟩)
  · exact .inr h
/-- the reading of a comprehension, from where its source's walk is known -/
abbrev LcGoal (J : It) (g : TG) (tt : TT) (te : TE) (vs : List Nat) (σ : L2.St) (H1 : Hp) (D : Addr) (Qd : Hp → Prop) : Prop := ∃ W : Nat → Nat → Hp → Prop, (∃ m, W 0 m (upd H1 D (.lst []))) ∧ ∀ i m H, W i m H →
  (J.stop i H ∧ Qd H) ∨ (J.go i H ∧ ∃ Nx : Hp → Prop, (∀ H', Nx H' → ∃ m', m' < m ∧ W (i + 1) m' H') ∧ ∀ x H', J.yld i H x H' → g x (wipe σ vs) H' fun σ2 H2 => wipe σ2 vs = wipe σ vs ∧ tt σ2 H2 fun b H3 =>
    if b = true then te σ2 H3 fun y H4 => ∃ acc, H4 D = some (.lst acc) ∧ acc.length < sizeLine ∧ Nx (upd H4 D (.lst (acc ++ [y]))) else Nx H3)
theorem lc_pure {J : It} {n : Nat} {G : Hp → Prop} {Y : Nat → Hp → V → Hp → Prop} (w : Walk J n G Y) (xs : List V) (hn : xs.length = n) (hz : n ≤ 1000000) (hY : ∀ i H x H', i < n → Y i H x H' → H' = H ∧ xs[i]? = some x)
    {j : Nat} {tt : TT} {te : TE} {vs : List Nat} {σ : L2.St} {H1 : Hp} {D : Addr} {Qd : Hp → Prop} (f : V → Bool) (v : V → V) (hG : ∀ acc, G (upd H1 D (.lst acc)))
    (hw : ∀ x ∈ xs, wipe ((wipe σ vs).set j (some x)) vs = wipe σ vs)
    (ht : ∀ x ∈ xs, ∀ (acc : List V) (Q : Bool → Hp → Prop), Q (f x) (upd H1 D (.lst acc)) → tt ((wipe σ vs).set j (some x)) (upd H1 D (.lst acc)) Q)
    (he : ∀ x ∈ xs, f x = true → ∀ (acc : List V) (Q : VK), Q (v x) (upd H1 D (.lst acc)) → te ((wipe σ vs).set j (some x)) (upd H1 D (.lst acc)) Q)
    (hd : Qd (upd H1 D (.lst ((xs.filter f).map v)))) : LcGoal J (gName j) tt te vs σ H1 D Qd := by
  refine lc_it w (fun i H' => H' = upd H1 D (.lst (((xs.take i).filter f).map v))) (by rw [List.take_zero]; rfl) (fun i H' _ e => by rw [e]; exact hG _) (fun i x H H' hi e y => ?_) (fun H' e => ?_)
  · obtain ⟨rfl, hx⟩ := hY i H x H' hi y
    subst e
    have hm : x ∈ xs := List.mem_of_getElem? hx
    have tk : xs.take (i + 1) = xs.take i ++ [x] := by rw [List.take_add_one, hx]; rfl
    refine ⟨hw x hm, ht x hm _ _ ?_⟩
    cases hf : f x with
    | false =>
      refine iteF ?_
      rw [tk, List.filter_append, List.filter_cons, hf]
      simp
    | true =>
      refine iteT (he x hm hf _ _ ⟨_, upd_same, ?_, ?_⟩)
      · rw [List.length_map]
        refine Nat.lt_of_le_of_lt (List.length_filter_le _ _) (Nat.lt_of_le_of_lt (List.length_take_le _ _) ?_)
        have : 1000000 < sizeLine := by decide
        omega
      · rw [upd_upd, tk, List.filter_append, List.filter_cons, hf]
        simp
  · rw [e, ← hn, List.take_length]
    exact hd
section
variable {K : PySem.W.Frag} {j : Nat} {tt : TT} {te : TE} {vs : List Nat} {σ : L2.St} {H1 : Hp} {D a : Addr} {Qd : Hp → Prop}
def signsOf (z : Str) : List V := z.cps.toList.map fun c => V.str ⟨#[c]⟩
theorem lc_str {z : Str} (hz : z.length ≤ 1000000) (f : V → Bool) (v : V → V) (hw : ∀ x ∈ signsOf z, wipe ((wipe σ vs).set j (some x)) vs = wipe σ vs)
    (ht : ∀ x ∈ signsOf z, ∀ (acc : List V) (Q : Bool → Hp → Prop), Q (f x) (upd H1 D (.lst acc)) → tt ((wipe σ vs).set j (some x)) (upd H1 D (.lst acc)) Q)
    (he : ∀ x ∈ signsOf z, f x = true → ∀ (acc : List V) (Q : VK), Q (v x) (upd H1 D (.lst acc)) → te ((wipe σ vs).set j (some x)) (upd H1 D (.lst acc)) Q)
    (hd : Qd (upd H1 D (.lst (((signsOf z).filter f).map v)))) : LcGoal (Its z) (gName j) tt te vs σ H1 D Qd := by
  refine lc_pure walk_str (signsOf z) (by simp [signsOf]) hz (fun i H x H' hi y => ?_) f v (fun _ => trivial) hw ht he hd
  obtain ⟨e, c, hc, rfl⟩ := y
  refine ⟨e, ?_⟩
  simp [signsOf, hc]
theorem lc_lst {xs : List V} (hs : SqL K H1 a xs) (hD : H1 D = none) (hz : xs.length ≤ 1000000) (f : V → Bool) (v : V → V) (hw : ∀ x ∈ xs, wipe ((wipe σ vs).set j (some x)) vs = wipe σ vs)
    (ht : ∀ x ∈ xs, ∀ (acc : List V) (Q : Bool → Hp → Prop), Q (f x) (upd H1 D (.lst acc)) → tt ((wipe σ vs).set j (some x)) (upd H1 D (.lst acc)) Q)
    (he : ∀ x ∈ xs, f x = true → ∀ (acc : List V) (Q : VK), Q (v x) (upd H1 D (.lst acc)) → te ((wipe σ vs).set j (some x)) (upd H1 D (.lst acc)) Q)
    (hd : Qd (upd H1 D (.lst ((xs.filter f).map v)))) : LcGoal (Itl K a) (gName j) tt te vs σ H1 D Qd :=
  lc_pure walk_list xs rfl hz (fun _ _ _ _ _ y => y) f v (fun _ => seqL_upd hs hD) hw ht he hd
theorem lc_tpl {xs : List V} (hs : SqT K H1 a xs) (hD : H1 D = none) (hz : xs.length ≤ 1000000) (f : V → Bool) (v : V → V) (hw : ∀ x ∈ xs, wipe ((wipe σ vs).set j (some x)) vs = wipe σ vs)
    (ht : ∀ x ∈ xs, ∀ (acc : List V) (Q : Bool → Hp → Prop), Q (f x) (upd H1 D (.lst acc)) → tt ((wipe σ vs).set j (some x)) (upd H1 D (.lst acc)) Q)
    (he : ∀ x ∈ xs, f x = true → ∀ (acc : List V) (Q : VK), Q (v x) (upd H1 D (.lst acc)) → te ((wipe σ vs).set j (some x)) (upd H1 D (.lst acc)) Q)
    (hd : Qd (upd H1 D (.lst ((xs.filter f).map v)))) : LcGoal (Itt K a) (gName j) tt te vs σ H1 D Qd :=
  lc_pure walk_tup xs rfl hz (fun _ _ _ _ _ y => y) f v (fun _ => seqT_upd hs hD) hw ht he hd
def rangeV (n : Nat) : List V := (List.range n).map fun (i : Nat) => V.int (i : Int)
theorem lc_rng {n : Nat} (hz : n ≤ 1000000) (f : V → Bool) (v : V → V) (hw : ∀ x ∈ rangeV n, wipe ((wipe σ vs).set j (some x)) vs = wipe σ vs)
    (ht : ∀ x ∈ rangeV n, ∀ (acc : List V) (Q : Bool → Hp → Prop), Q (f x) (upd H1 D (.lst acc)) → tt ((wipe σ vs).set j (some x)) (upd H1 D (.lst acc)) Q)
    (he : ∀ x ∈ rangeV n, f x = true → ∀ (acc : List V) (Q : VK), Q (v x) (upd H1 D (.lst acc)) → te ((wipe σ vs).set j (some x)) (upd H1 D (.lst acc)) Q)
    (hd : Qd (upd H1 D (.lst (((rangeV n).filter f).map v)))) : LcGoal (Itr 0 n) (gName j) tt te vs σ H1 D Qd := by
  refine lc_pure (walk_range (lo := 0)) (rangeV n) (by simp [rangeV]) hz (fun i H x H' hi y => ?_) f v (fun _ => trivial) hw ht he hd
  obtain ⟨e1, e2⟩ := y
  refine ⟨e1, ?_⟩
  simp [rangeV, hi, e2]
end
/-- tests and items may lay new objects -/
theorem lc_ext {J : It} {n : Nat} {G : Hp → Prop} {Y : Nat → Hp → V → Hp → Prop} (w : Walk J n G Y) (xs : List V) (hn : xs.length = n) (hz : n ≤ 1000000) (hY : ∀ i H x H', i < n → Y i H x H' → H' = H ∧ xs[i]? = some x)
    {j : Nat} {tt : TT} {te : TE} {vs : List Nat} {σ : L2.St} {H1 : Hp} {D : Addr} {Qd : Hp → Prop} (hD : H1 D = none) (f : V → Bool) (v : V → V) (hG : ∀ H', Same H1 H' → G H')
    (hw : ∀ x ∈ xs, wipe ((wipe σ vs).set j (some x)) vs = wipe σ vs)
    (ht : ∀ x ∈ xs, ∀ H2, Same H1 H2 → ∀ (Q : Bool → Hp → Prop), (∀ H3, Same H2 H3 → Q (f x) H3) → tt ((wipe σ vs).set j (some x)) H2 Q)
    (he : ∀ x ∈ xs, f x = true → ∀ H2, Same H1 H2 → ∀ (Q : VK), (∀ H3, Same H2 H3 → Q (v x) H3) → te ((wipe σ vs).set j (some x)) H2 Q)
    (hd : ∀ H', Same H1 H' → H' D = some (.lst ((xs.filter f).map v)) → Qd H') : LcGoal J (gName j) tt te vs σ H1 D Qd := by
  refine lc_it w (fun i H' => Same H1 H' ∧ H' D = some (.lst (((xs.take i).filter f).map v))) ⟨fun b o e => by rw [upd_ne (ne_of_none e hD)]; exact e, by rw [List.take_zero]; exact upd_same⟩ (fun i H' _ e => hG _ e.1) (fun i x H H' hi e y => ?_) (fun H' e => ?_)
  · obtain ⟨rfl, hx⟩ := hY i H x H' hi y
    obtain ⟨e1, e2⟩ := e
    have hm : x ∈ xs := List.mem_of_getElem? hx
    have tk : xs.take (i + 1) = xs.take i ++ [x] := by rw [List.take_add_one, hx]; rfl
    refine ⟨hw x hm, ht x hm _ e1 _ fun H3 e3 => ?_⟩
    cases hf : f x with
    | false =>
      refine iteF ⟨e1.trans e3, ?_⟩
      rw [tk, List.filter_append, List.filter_cons, hf]
      simpa using e3 _ _ e2
    | true =>
      refine iteT (he x hm hf _ (e1.trans e3) _ fun H4 e4 => ⟨_, e4 _ _ (e3 _ _ e2), ?_, fun b o q => ?_, ?_⟩)
      · rw [List.length_map]
        refine Nat.lt_of_le_of_lt (List.length_filter_le _ _) (Nat.lt_of_le_of_lt (List.length_take_le _ _) ?_)
        have : 1000000 < sizeLine := by decide
        omega
      · rw [upd_ne (ne_of_none q hD)]
        exact e4 _ _ (e3 _ _ (e1 _ _ q))
      · rw [upd_same, tk, List.filter_append, List.filter_cons, hf]
        simp
  · rw [← hn, List.take_length] at e
    exact hd H' e.1 e.2
section
variable {K : PySem.W.Frag} {j : Nat} {tt : TT} {te : TE} {vs : List Nat} {σ : L2.St} {H1 : Hp} {D a : Addr} {Qd : Hp → Prop}
theorem lc_tplE {xs : List V} (hs : SqT K H1 a xs) (hD : H1 D = none) (hz : xs.length ≤ 1000000) (f : V → Bool) (v : V → V) (hw : ∀ x ∈ xs, wipe ((wipe σ vs).set j (some x)) vs = wipe σ vs)
    (ht : ∀ x ∈ xs, ∀ H2, Same H1 H2 → ∀ (Q : Bool → Hp → Prop), (∀ H3, Same H2 H3 → Q (f x) H3) → tt ((wipe σ vs).set j (some x)) H2 Q)
    (he : ∀ x ∈ xs, f x = true → ∀ H2, Same H1 H2 → ∀ (Q : VK), (∀ H3, Same H2 H3 → Q (v x) H3) → te ((wipe σ vs).set j (some x)) H2 Q)
    (hd : ∀ H', Same H1 H' → H' D = some (.lst ((xs.filter f).map v)) → Qd H') : LcGoal (Itt K a) (gName j) tt te vs σ H1 D Qd :=
  lc_ext walk_tup xs rfl hz (fun _ _ _ _ _ y => y) hD f v (fun _ e => Same.seqT e hs) hw ht he hd
theorem lc_lstE {xs : List V} (hs : SqL K H1 a xs) (hD : H1 D = none) (hz : xs.length ≤ 1000000) (f : V → Bool) (v : V → V) (hw : ∀ x ∈ xs, wipe ((wipe σ vs).set j (some x)) vs = wipe σ vs)
    (ht : ∀ x ∈ xs, ∀ H2, Same H1 H2 → ∀ (Q : Bool → Hp → Prop), (∀ H3, Same H2 H3 → Q (f x) H3) → tt ((wipe σ vs).set j (some x)) H2 Q)
    (he : ∀ x ∈ xs, f x = true → ∀ H2, Same H1 H2 → ∀ (Q : VK), (∀ H3, Same H2 H3 → Q (v x) H3) → te ((wipe σ vs).set j (some x)) H2 Q)
    (hd : ∀ H', Same H1 H' → H' D = some (.lst ((xs.filter f).map v)) → Qd H') : LcGoal (Itl K a) (gName j) tt te vs σ H1 D Qd :=
  lc_ext walk_list xs rfl hz (fun _ _ _ _ _ y => y) hD f v (fun _ e => Same.seq e hs) hw ht he hd
end
theorem yes_q {σ : L2.St} {H : Hp} {Q : Bool → Hp → Prop} (h : Q true H) : tYes σ H Q := h
theorem filter_all {xs : List V} : xs.filter (fun _ => true) = xs := by simp
end MN
namespace MN
open PySem PySem.Spec PyProof.Rows L2
/-- the built-in names that no def of the module hides; the signs -/
structure Blt (mg : Str → Option Value) : Prop where
  isinstance : mg "isinstance" = none
  str : mg "str" = none
  len : mg "len" = none
  all : mg "all" = none
  tuple : mg "tuple" = none
  int : mg "int" = none
  bool : mg "bool" = none
  list : mg "list" = none
  dict : mg "dict" = none
  range : mg "range" = none
  sorted : mg "sorted" = none
  zip : mg "zip" = none
  max : mg "max" = none
  min : mg "min" = none
  abs : mg "abs" = none
  repr : mg "repr" = none
  sum : mg "sum" = none
  any : mg "any" = none
  set : mg "set" = none
  enumerate : mg "enumerate" = none
  SIGNS : ∃ u, mg "SIGNS" = some u ∧ RelV (.str "abcde") u
def bltNames : List Str := ([("isinstance" : Str), ("str" : Str), ("len" : Str), ("all" : Str), ("tuple" : Str), ("int" : Str), ("bool" : Str), ("list" : Str)] : List Str) ++ ([("dict" : Str), ("range" : Str), ("sorted" : Str), ("zip" : Str), ("max" : Str), ("min" : Str), ("abs" : Str), ("repr" : Str)] : List Str) ++ ([("sum" : Str), ("any" : Str), ("set" : Str), ("enumerate" : Str)] : List Str)
theorem Blt.of {mg : Str → Option Value} (h : ∀ x ∈ bltNames, mg x = none) (hs : ∃ u, mg "SIGNS" = some u ∧ RelV (.str "abcde") u) : Blt mg := by
  refine ⟨h _ ?_, h _ ?_, h _ ?_, h _ ?_, h _ ?_, h _ ?_, h _ ?_, h _ ?_, h _ ?_, h _ ?_, h _ ?_, h _ ?_, h _ ?_, h _ ?_, h _ ?_, h _ ?_, h _ ?_, h _ ?_, h _ ?_, h _ ?_, hs⟩ <;> simp [bltNames]
end MN
/-! rules of one's own: repr of data, powers, texts repeated, a tuple turned round -/
namespace MN
open PySem PySem.Spec PyProof.Rows L2
section
variable {X : Cx}
/-- repr of lists and tuples of data -/
def rRepr (K : PySem.W.Frag) : List V → Hp → VK → Prop := fun xs H Q => ∃ (x : V) (d : PyData), xs = [x] ∧ Dp K H x d ∧ isDisplay d = true ∧ d.showable = true ∧ d.hasDict = false ∧ d.depth ≤ 60 ∧ d.shown.length ≤ sizeLine ∧ Q (.str d.shown) H
theorem call_repr (gd : X.A.guards = some []) (hu : X.A.units + 64 < cLine) : CallR X (.builtin "repr") (rRepr X.K) := by
  intro pins s σ H vs us Q I r h
  obtain ⟨x, d, rfl, hd, h1, h2, h3, h4, h5, q⟩ := h
  cases r with
  | cons rx rn =>
    cases rn
    obtain ⟨as, rd⟩ := Dp.reads I d x _ hd rx
    obtain ⟨a, rfl⟩ := isRef_of_reads rd h1
    refine repr_of_reads' rd h2 (PyData.noDict_hsm h3) gd (by omega) (fun _ _ e => e) (fun h' u tk hk => ?_) h5
    exact ⟨.str d.shown, H, I.kept hk, ⟨u, rfl⟩, q⟩
/-- i ** j, as far as the bits go -/
theorem op_powB : OpR X (binaryOp .Pow) (rI (fun i j => 0 ≤ j ∧ (Builtin.Int.intBits i : Int) * j ≤ 2 ^ 27) fun i j => .int (i ^ j.toNat)) := opI fun _ _ _ _ _ _ _ hc q => pow_int hc.1 hc.2 q
/-- s * n -/
def repS (z : Str) (n : Int) : Str := ⟨((List.replicate n.toNat z.cps.toList).flatten).toArray⟩
theorem foldl_app (l : List (Array Nat)) : ∀ a : Array Nat, (l.foldl (· ++ ·) a).toList = a.toList ++ (l.map Array.toList).flatten := by
  induction l with
  | nil => intro a; simp
  | cons x l ih => intro a; rw [List.foldl_cons, ih]; simp
theorem repS_length (z : Str) (n : Int) : (repS z n).length = n.toNat * z.length := by
  simp [repS, Str.length]
def rRepS : R2 := fun x y H Q => ∃ (z : Str) (n : Int), x = .str z ∧ y = .int n ∧ 0 ≤ n ∧ n ≤ 100000 ∧ z.length ≤ 100 ∧ Q (.str (repS z n)) H
theorem op_repS : OpR X (binaryOp .Mult) rRepS := by
  intro pins s σ H x y v u Q I rx ry h
  obtain ⟨z, n, rfl, rfl, h0, h1, h2, q⟩ := h
  obtain ⟨t, rfl⟩ := rx
  obtain ⟨t2, rfl⟩ := ry
  have hb : z.length * n.toNat ≤ 100 * 100000 := Nat.mul_le_mul h2 (by omega)
  have hl : Builtin.Str.tooLong (z.length * n.toNat) = false := by
    have h9 : z.length * n.toNat ≤ sizeLine := Nat.le_trans hb (by decide)
    exact decide_eq_false (by omega)
  have hdiv : ¬ n < 1 → ¬ ((z.length : Int) > (2 ^ 63 - 1) / n) := fun hn => by
    have e : (100 : Int) ≤ (2 ^ 63 - 1) / n := (Int.le_ediv_iff_mul_le (by omega)).mpr (by omega)
    omega
  refine P.mul_str (by simp only [Bool.or_eq_false_iff, decide_eq_false_iff_not]; omega) (fun hn _ => hdiv hn) (fun _ _ => hl) ?_
  by_cases c1 : n < 1
  · have e : repS z n = Str.empty := by
      have : n.toNat = 0 := by omega
      simp [repS, this, Str.empty]
    rw [if_pos c1]
    rw [e] at q
    exact ⟨by decide, .str Str.empty, H, I.tok _, ⟨_, rfl⟩, q⟩
  · rw [if_neg c1]
    by_cases c2 : (n == 1 || z.length == 0) = true
    · rw [if_pos c2]
      have e : repS z n = z := by
        rw [Bool.or_eq_true] at c2
        rcases c2 with c2 | c2
        · have : n = 1 := eq_of_beq c2
          subst this
          simp [repS]
        · have hz : z.cps.toList = [] := by
            have : z.cps.size = 0 := eq_of_beq c2
            simpa using this
          obtain ⟨⟨l⟩⟩ := z
          cases hz
          simp [repS]
      rw [e] at q
      exact ⟨.str z, H, I, ⟨_, rfl⟩, q⟩
    · rw [if_neg c2]
      have e : (⟨(List.replicate n.toNat z.cps).foldl (· ++ ·) #[]⟩ : Str) = repS z n := by
        have := foldl_app (List.replicate n.toNat z.cps) #[]
        simp only [repS]
        congr 1
        apply Array.toList_inj.mp
        rw [this]
        simp
      rw [e]
      refine ⟨?_, .str (repS z n), H, I.tok _, ⟨_, rfl⟩, q⟩
      show (repS z n).length ≤ sizeLine
      rw [repS_length, Nat.mul_comm]
      exact Nat.le_trans hb (by decide)
/-! ### rules in a comprehension's block: the text's facts K are given by name -/
section
variable {K : PySem.W.Frag} (hK : X.K = K)
include hK
theorem lenK : CallR X (.builtin "len") (fun xs H Q => ∃ p ys, xs = [.ref p] ∧ (SqL K H p ys ∨ SqT K H p ys) ∧ Q (.int (ys.length : Nat)) H) := hK ▸ call_len_seq
theorem allK (hc : X.calm = true) : CallR X (.builtin "all") (rAll K) := hK ▸ cr_all hc
theorem isiK : CallR X (.builtin "isinstance") (rIsi K) := hK ▸ call_isi
theorem ixLK : IxR X (rIxL K) := hK ▸ ix_list
theorem ixTK : IxR X (rIxT K) := hK ▸ ix_tup
theorem inSeqK : OpR X (compareOp .In) (rIn K false) := hK ▸ op_in_seq
theorem notInSeqK : OpR X (compareOp .NotIn) (rIn K true) := hK ▸ op_notIn_seq
end
/-! ### methods of lists, the context a letter -/
section
variable {o e : Expr} {to te : TE} {apos cpos : Pos}
theorem pe_popAt (K : PySem.W.Frag) (hK : X.K = K) (ho : PE X o to) (he : PE X e te)
    (hbase : attributeBase o "pop" X.env (eval o X.env) = eval o X.env := by rfl)
    (hfew : ((backTo cpos (starEach [e] X.env)).all (fun x => !x.1) && (backToKw cpos (keywordEach [] X.env)).all (fun x => x.1.isSome) && decide ([e].length + ([] : List Keyword).length + (if ([] : List Keyword).isEmpty then 0 else 1) < 30)) = true := by rfl)
    (hline : (apos.endLine == cpos.line) = true := by rfl) (hs : starEach [e] X.env = (false, eval e X.env) :: starEach [] X.env := by rfl) : PE X (.Call (.Attribute o "pop" apos) [e] [] cpos) (tBM K "list" rPopAt to (tCons te tNil)) := hK ▸ pe_bm PySem.F.plainAttrs_list PySem.F.slot_list_pop PySem.F.type_list_pop mt_popAt ho (pa_cons he pa_nil hs) hbase hfew hline hs rfl
theorem pe_append (K : PySem.W.Frag) (hK : X.K = K) (ho : PE X o to) (he : PE X e te)
    (hbase : attributeBase o "append" X.env (eval o X.env) = eval o X.env := by rfl)
    (hfew : ((backTo cpos (starEach [e] X.env)).all (fun x => !x.1) && (backToKw cpos (keywordEach [] X.env)).all (fun x => x.1.isSome) && decide ([e].length + ([] : List Keyword).length + (if ([] : List Keyword).isEmpty then 0 else 1) < 30)) = true := by rfl)
    (hline : (apos.endLine == cpos.line) = true := by rfl) (hs : starEach [e] X.env = (false, eval e X.env) :: starEach [] X.env := by rfl) : PE X (.Call (.Attribute o "append" apos) [e] [] cpos) (tBM K "list" rAppend to (tCons te tNil)) := hK ▸ pe_bm PySem.F.plainAttrs_list PySem.F.slot_list_append PySem.F.type_list_append mt_append ho (pa_cons he pa_nil hs) hbase hfew hline hs rfl
end
end
end MN
/-! list(d.values()); a class called through a local name; what is never evaluated -/
namespace MN
open PySem PySem.Spec PyProof.Rows L2
section
variable {X : Cx}
def tNo : TE := fun _ _ _ => False
theorem pe_no {e : Expr} : PE X e tNo := ⟨fun _ _ _ _ _ _ h => h.elim⟩
theorem pi_no {tg e : Expr} : PI X tg e (fun _ _ _ => False) := ⟨fun _ _ _ _ _ _ h => h.elim⟩
def tListVals (te : TE) : TE := fun σ H Q => te σ H fun x H1 => ∃ (d : Addr) (kvs : List (Key × V)), x = .ref d ∧ H1 d = some (.dK kvs) ∧ ∀ q, H1 q = none → Q (.ref q) (upd H1 q (.lst (kvs.map (·.2))))
theorem kv_vals : ∀ {kvs : List (Key × V)} {vs : List (Key × Value)}, KV kvs vs → Vals (kvs.map (·.2)) (vs.map (·.2))
  | [], [], _ => .nil
  | _ :: _, _ :: _, .cons h t => .cons h.2 (kv_vals t)
variable {e : Expr} {te : TE} {p apos cpos pos : Pos}
/-- list(e.values()) -/
theorem pe_listVals (hc : X.calm = true) (he : PE X e te) (hg : Gl X "list") (hm : X.mg "list" = none) (hbase : attributeBase e "values" X.env (eval e X.env) = eval e X.env := by rfl) (hline : (apos.endLine == cpos.line) = true := by rfl)
    (hs : starEach [.Call (.Attribute e "values" apos) [] [] cpos] X.env = (false, eval (.Call (.Attribute e "values" apos) [] [] cpos) X.env) :: starEach [] X.env := by rfl) :
    PE X (.Call (.Name "list" p) [.Call (.Attribute e "values" apos) [] [] cpos] [] pos) (tListVals te) := by
  refine ⟨fun pins s σ H Q I hq => ?_⟩
  refine wpAny_Call_Name_kw (ld_blt I hg hm boot_list ?_)
  refine PyProof.Rows.callWith_type1 ?_ hs rfl
  rw [hs]
  show wpAny _ _ (spliced ((false, eval (.Call (.Attribute e "values" apos) [] [] cpos) X.env) :: backTo pos (starEach [] X.env))) _ _ s
  refine Calls.spliced_cons ?_
  refine wpAny_Call_method (T := "dict") (id := "dict.values") hbase rfl hline F.plainAttrs_dict F.slot_dict_values F.type_dict_values (thn (he.run pins s σ H _ I hq) fun u s1 ⟨x, H1, I1, rx, d, kvs, ex, hd, q⟩ => ?_)
  subst ex
  obtain rfl : u = Value.ref d := rx
  obtain ⟨hz, hs0, vs, kv, hdo⟩ := I1.hok d _ hd
  obtain ⟨ep, hat⟩ := hdo.dictAt
  have lk : kvs.length = vs.length := Paired.length kv
  have I2 : Inv X pins σ H1 { s1 with heap := s1.heap.push { cls := .type "dict_values", data := .fields #[.ref d] } } := I1.kept (t' := s1.toks) fun b ob q => Heap.get?_push_of_some _ q
  refine ⟨hdo.typeIs, hdo.mapOf.noDict, ?_⟩
  show wpAny _ _ (callWith cpos (.builtin "dict.values") [.ref d] [] []) _ X.xe s1
  refine method_meetsIn F.slot_dict_values F.entry_dict_values rfl (PySem.evalArgs_none ⟨rfl, hdo.typeIs, F.args_dict_values_1 _, _, meets_dict_values (mixKind X.prog X.w) d hs0, ⟨vs, hdo⟩, ?_⟩)
  refine Calls.spliced_nil ?_
  refine PySem.W.kdl_call (PySem.W.kdl_values (knd := mixKind X.prog X.w) (kvs := vs) (ep := ep)) (I1.ok.hd hc) ⟨⟨_, Heap.get?_push_size _ rfl, rfl, rfl⟩, hat.push _⟩ (by rw [← lk]; exact hz) fun h' tk acc' c' hkeep hS hacc => ?_
  have el : acc'.toList.length = acc'.size := by simp
  have ev : acc'.toList = vs.map (·.2) := PySem.W.kdl_vals_eq acc'.toList (by rw [el, hacc.1]) fun j v h2 => hacc.2 j v (by rw [← Array.getElem?_toList]; exact h2)
  refine ⟨.ref _, upd H1 _ (.lst (kvs.map (·.2))), I2.laid hkeep (Nat.le_refl _) (show ObjOk X.prog X.w _ _ _ (.lst (kvs.map (·.2))) from ⟨?_, acc'.toList, c', ?_, ?_⟩), rfl, q _ (I2.hok.fresh (Nat.le_refl _))⟩
  · rw [List.length_map]; exact hz
  · rw [ev]; exact kv_vals kv
  · rw [Array.toArray_toList]; exact hS
end
section
variable {X : Cx} {CX : CXT} {k i : Nat} {f C : Addr} {fd : FuncData} {ps ks : List Str} {sp : Sp} {E : XK} {x : Str} {p pos : Pos} {kws : List Keyword} {tk : TA} {g : List Value → List Value → List Value} {gV : List V → List V → List V}
/-- the class that the i-th slot holds, called by keywords alone -/
def tMakeKL (i : Nat) (C : Addr) (m : Nat) (sp : Sp) (gV : List V → List V → List V) (E : XK) (tk : TA) : TE := fun σ H Q => σ[i]? = some (some (.ref C)) ∧ tMakeK C 0 m sp gV E tNil tk σ H Q
theorem pe_makeKL (M : Mk X.K C f) (F : FnOk X.prog X.w X.K X.mg X.base CX k f fd ps sp) (hr : Room (k + 1) X.A) (hN : X.N[i]? = some x) (hv : Vis X.env.scope x) (hb : KBn X.K fd ps 1 ks g gV) (hx : Passes CX X E) (hkw : PK X kws tk)
    (hall : (backToKw pos (keywordEach kws X.env)).all (·.1.isSome) = true := by rfl) (hks : (backToKw pos (keywordEach kws X.env)).filterMap (·.1) = ks := by rfl) (hdb : (x == ("__debug__" : Str)) = false := by decide) (hcd : (x == ("__classdict__" : Str)) = false := by decide)
    (hpl : ((backTo pos (starEach [] X.env)).any (·.1) || (backToKw pos (keywordEach kws X.env)).any (·.1.isNone)) = false := by rfl) :
    PE X (.Call (.Name x p) [] kws pos) (tMakeKL i C ks.length sp gV E tk) := by
  refine ⟨fun pins s σ H Q I h => ?_⟩
  obtain ⟨hs, h⟩ := h
  refine wpAny_Call_Name_kw (thn ((pe_var (pos := p) hN hv hdb hcd).run pins s σ H (fun v H1 => v = .ref C ∧ H1 = H) I ⟨.ref C, hs, rfl, rfl⟩) fun u s1 ⟨v, H1, I1, r1, q1⟩ => ?_)
  obtain ⟨rfl, rfl⟩ := q1
  cases r1
  refine PySem.W.callWith_KW0 (h₀ := X.base) I.ok.mod.kin M.kp hall ?_ hpl
  refine thn (hkw.run pos pins s1 σ _ _ I1 h) fun ws s2 ⟨zs, H2, I2, rz, l1, l2, q2⟩ => ⟨I2.kIn, ?_⟩
  rw [hks]
  exact run_makeK (us := []) (vs := []) M F hr hb hx I2 .nil rz rfl l2 q2
end
/-! ### isinstance(value, str) where value may be an instance with slots -/
/-- an instance with slots, of a class that is no text -/
def SlNo (K : PySem.W.Frag) (H : Hp) (v : V) (u : Value) : Prop := ∃ a C dx vs, v = .ref a ∧ SlX.Slt H a C dx vs ∧ SlX.SCls K C ∧ SlX.SIsi K C ∧ PySem.W.kitOne K (.ref C) u = some false
def IsX (K : PySem.W.Frag) (H : Hp) (v : V) (c : String) (b : Bool) : Prop := (∃ t, TyX K H v t ∧ PySem.W.kitOne K t (.type c) = some b) ∨ (b = false ∧ SlNo K H v (.type c))
theorem IsX.str {K : PySem.W.Frag} {H : Hp} {z : Str} : IsX K H (.str z) "str" true := .inl ⟨_, .base (.str z), kit_ty (by decide +kernel)⟩
def rIsS (K : PySem.W.Frag) : List V → Hp → VK → Prop := fun xs H Q => ∃ x c b, xs = [x, .ty c] ∧ IsX K H x c b ∧ Q (.bl b) H
theorem call_isS {X : Cx} : CallR X (.builtin "isinstance") (rIsS X.K) := by
  intro pins s σ H xs us Q I r h
  obtain ⟨x, c, b, rfl, h | ⟨rfl, a, C, dx, vs, rfl, h1, h2, h3, h4⟩, q⟩ := h
  · obtain ⟨t, h1, h2⟩ := h
    exact call_isi pins s σ H _ us Q I r ⟨x, .ty c, t, .type c, b, rfl, .ty _, h1, h2, q⟩
  · refine SlX.call_isiSl (.type c) pins s σ H _ us Q I r ⟨a, C, dx, vs, .ty c, false, rfl, rfl, fun w e => e, h1, h2, h3, h4, q⟩
end MN
/-! lemmas that hang on no law: walks, locked dicts, instances with slots -/
namespace MN
open PySem PySem.Spec PyProof.Rows L2
theorem same_new {H : Hp} {p : Addr} {o : HO} (h : H p = none) : Same H (upd H p o) := fun b u e => by rw [upd_ne (ne_of_none e h)]; exact e
theorem tyT {K : PySem.W.Frag} {H : Hp} {t : Addr} {xs : List V} (h : SqT K H t xs) : TyX K H (.ref t) (.type "tuple") := by
  rcases h with (h | ⟨o, h⟩) | h
  · exact .base (.tup h)
  · exact .fTuple h
  · obtain ⟨o, its, n, e1, e2, _⟩ := h
    exact .kTuple e1 e2
abbrev GlC (mg : Str → Option Value) (x : Str) (v : V) : Prop := ∃ u, mg x = some u ∧ RelV v u
theorem IsX.ty {K : PySem.W.Frag} {H : Hp} {v : V} {a c : String} {b : Bool} (h : TyX K H v (.type a)) (hk : kitB a c = some b) : IsX K H v c b := .inl ⟨_, h, kit_ty hk⟩
theorem pg_tupK {X : Cx} {pos : Pos} {K : PySem.W.Frag} (hK : X.K = K) {es : List Expr} {k : Nat} {t : TGs} {n : Nat} (hc : X.calm = true) (h : PGs X es t)
    (hn : (assignEach es X.env).length = n := by rfl) (hst : (assignEach es X.env).findIdx? (·.1) = none := by rfl) : PG X (.Tuple es k pos) (gTup K n t) := hK ▸ pg_tup hc h hn hst
theorem isSK {X : Cx} {K : PySem.W.Frag} (hK : X.K = K) : CallR X (.builtin "isinstance") (rIsS K) := hK ▸ call_isS
theorem walk_zipT {K : PySem.W.Frag} {a b : Addr} {xs ys : List V} {n : Nat} (hn : n = min xs.length ys.length) : Walk (RZ.ItzT K a b) n (fun H => SqT K H a xs ∧ SqT K H b ys) (YPair (fun i => xs[i]?) (fun i => ys[i]?)) := by
  subst hn
  refine ⟨fun i _ hi q => ?_, fun _ q => ⟨xs, ys, q.1, q.2, by omega⟩, fun i H v H' _ q y => ?_⟩
  · have h1 : i < xs.length := by omega
    have h2 : i < ys.length := by omega
    exact ⟨xs, ys, xs[i], ys[i], q.1, q.2, by simp [h1], by simp [h2]⟩
  · obtain ⟨T, x, y, h1, h2, h3, h4, h5⟩ := y
    exact ⟨T, x, y, h1, h2, h3, h4 xs q.1, h5 ys q.2⟩
section
variable {j : Nat} {tt : TT} {te : TE} {vs : List Nat} {σ : L2.St} {H1 : Hp} {D d : Addr} {o : Obj} {Qd : Hp → Prop}
theorem lc_keys {kvs : List (Key × V)} (hs : H1 d = some (.frz o (.dK kvs))) (hD : H1 D = none) (hz : kvs.length ≤ 1000000) (f : V → Bool) (v : V → V) (hw : ∀ x ∈ kvs.map (fun kv => kV kv.1), wipe ((wipe σ vs).set j (some x)) vs = wipe σ vs)
    (ht : ∀ x ∈ kvs.map (fun kv => kV kv.1), ∀ (acc : List V) (Q : Bool → Hp → Prop), Q (f x) (upd H1 D (.lst acc)) → tt ((wipe σ vs).set j (some x)) (upd H1 D (.lst acc)) Q)
    (he : ∀ x ∈ kvs.map (fun kv => kV kv.1), f x = true → ∀ (acc : List V) (Q : VK), Q (v x) (upd H1 D (.lst acc)) → te ((wipe σ vs).set j (some x)) (upd H1 D (.lst acc)) Q)
    (hd : Qd (upd H1 D (.lst (((kvs.map fun kv => kV kv.1).filter f).map v)))) : LcGoal (Itk d o kvs) (gName j) tt te vs σ H1 D Qd := by
  refine lc_pure walk_keys (kvs.map fun kv => kV kv.1) (by simp) hz (fun i H x H' hi y => ?_) f v (fun _ => by rw [upd_ne (ne_of_none hs hD)]; exact hs) hw ht he hd
  obtain ⟨e, k, v', h1, rfl⟩ := y
  exact ⟨e, by simp [h1]⟩
theorem dc_it {J : It} {n : Nat} {G : Hp → Prop} {Y : Nat → Hp → V → Hp → Prop} (w : Walk J n G Y) {g : TG} {tk tv : TE} (Pv : Nat → Hp → Prop) (h0 : Pv 0 (upd H1 D (.dK []))) (hG : ∀ i H, i ≤ n → Pv i H → G H)
    (hs : ∀ i x H H', i < n → Pv i H → Y i H x H' → g x (wipe σ vs) H' fun σ2 H2 => wipe σ2 vs = wipe σ vs ∧ tt σ2 H2 fun b H3 =>
      if b = true then tk σ2 H3 fun y H4 => tv σ2 H4 fun z H5 => ∃ kvs k, y = kV k ∧ H5 D = some (.dK kvs) ∧ kvs.length < sizeLine ∧ Pv (i + 1) (upd H5 D (.dK (putK kvs k z))) else Pv (i + 1) H3) (hd : ∀ H, Pv n H → Qd H) :
    ∃ W : Nat → Nat → Hp → Prop, (∃ m, W 0 m (upd H1 D (.dK []))) ∧ ∀ i m H, W i m H →
      (J.stop i H ∧ Qd H) ∨ (J.go i H ∧ ∃ Nx : Hp → Prop, (∀ H', Nx H' → ∃ m', m' < m ∧ W (i + 1) m' H') ∧ ∀ x H', J.yld i H x H' → g x (wipe σ vs) H' fun σ2 H2 => wipe σ2 vs = wipe σ vs ∧ tt σ2 H2 fun b H3 =>
        if b = true then tk σ2 H3 fun y H4 => tv σ2 H4 fun z H5 => ∃ kvs k, y = kV k ∧ H5 D = some (.dK kvs) ∧ kvs.length < sizeLine ∧ Nx (upd H5 D (.dK (putK kvs k z))) else Nx H3) := by
  refine ⟨fun i m H => m = n - i ∧ i ≤ n ∧ Pv i H, ⟨n, by simp, Nat.zero_le _, h0⟩, ?_⟩
  rintro i m H ⟨rfl, hi, p⟩
  have q := hG i H hi p
  by_cases hlt : i < n
  · exact .inr ⟨w.goes i H hlt q, Pv (i + 1), fun H' p' => ⟨n - (i + 1), by omega, rfl, hlt, p'⟩, fun x H' y => hs i x H H' hlt p (w.yields i H x H' hlt q y)⟩
  · obtain rfl : i = n := by omega
    exact .inl ⟨w.stops H q, hd H p⟩
theorem dp_it {J : It} {n : Nat} {G : Hp → Prop} {Y : Nat → Hp → V → Hp → Prop} {o0 : HO} (w : Walk J n G Y) {g : TG} {tk tv : TE} (Pv : Nat → Hp → Prop) (h0 : Pv 0 (upd H1 D o0)) (hG : ∀ i H, i ≤ n → Pv i H → G H)
    (hs : ∀ i x H H', i < n → Pv i H → Y i H x H' → g x (wipe σ vs) H' fun σ2 H2 => wipe σ2 vs = wipe σ vs ∧ tt σ2 H2 fun b H3 =>
      if b = true then tk σ2 H3 fun y H4 => tv σ2 H4 fun z H5 => ∃ H6, DPut H5 D y z H6 ∧ Pv (i + 1) H6 else Pv (i + 1) H3) (hd : ∀ H, Pv n H → Qd H) :
    ∃ W : Nat → Nat → Hp → Prop, (∃ m, W 0 m (upd H1 D o0)) ∧ ∀ i m H, W i m H →
      (J.stop i H ∧ Qd H) ∨ (J.go i H ∧ ∃ Nx : Hp → Prop, (∀ H', Nx H' → ∃ m', m' < m ∧ W (i + 1) m' H') ∧ ∀ x H', J.yld i H x H' → g x (wipe σ vs) H' fun σ2 H2 => wipe σ2 vs = wipe σ vs ∧ tt σ2 H2 fun b H3 =>
        if b = true then tk σ2 H3 fun y H4 => tv σ2 H4 fun z H5 => ∃ H6, DPut H5 D y z H6 ∧ Nx H6 else Nx H3) := by
  refine ⟨fun i m H => m = n - i ∧ i ≤ n ∧ Pv i H, ⟨n, by simp, Nat.zero_le _, h0⟩, ?_⟩
  rintro i m H ⟨rfl, hi, p⟩
  have q := hG i H hi p
  by_cases hlt : i < n
  · exact .inr ⟨w.goes i H hlt q, Pv (i + 1), fun H' p' => ⟨n - (i + 1), by omega, rfl, hlt, p'⟩, fun x H' y => hs i x H H' hlt p (w.yields i H x H' hlt q y)⟩
  · obtain rfl : i = n := by omega
    exact .inl ⟨w.stops H q, hd H p⟩
end
/-- nothing to walk over -/
theorem lc_none {J : It} {g : TG} {tt : TT} {te : TE} {vs : List Nat} {σ : L2.St} {H1 : Hp} {D : Addr} {Qd : Hp → Prop} (h : J.stop 0 (upd H1 D (.lst []))) (q : Qd (upd H1 D (.lst []))) : LcGoal J g tt te vs σ H1 D Qd :=
  ⟨fun i _ H => i = 0 ∧ H = upd H1 D (.lst []), ⟨0, rfl, rfl⟩, fun _ _ _ e => by
    obtain ⟨rfl, rfl⟩ := e
    exact .inl ⟨h, q⟩⟩
/-- locked, a list laid, unlocked -/
theorem same_lock {H : Hp} {a D : Addr} {u : HO} {o : Obj} {x : HO} (h : H a = some u) (hD : (upd H a (.frz o u)) D = none) : Same H (upd (upd (upd H a (.frz o u)) D x) a u) ∧ (upd (upd (upd H a (.frz o u)) D x) a u) D = some x ∧ D ≠ a := by
  have n : D ≠ a := fun z => by rw [z, upd_same] at hD; cases hD
  refine ⟨fun b y e => ?_, by rw [upd_ne n, upd_same], n⟩
  by_cases z : b = a
  · rw [z, upd_same]; rw [z, h] at e; exact e
  · rw [upd_ne z]
    have n2 : b ≠ D := fun q => by rw [upd_ne n] at hD; rw [q, hD] at e; cases e
    rw [upd_ne n2, upd_ne z]; exact e
theorem lc_keysL {j : Nat} {tt : TT} {te : TE} {vs : List Nat} {σ : L2.St} {H1 : Hp} {D a : Addr} {od : Obj} {kvs : List (Key × V)} {Qd : Hp → Prop} (h : H1 a = some (.dK kvs)) (hD : (upd H1 a (.frz od (.dK kvs))) D = none) (hz : kvs.length ≤ 1000000) (f : V → Bool) (v : V → V) (hw : ∀ x ∈ kvs.map (fun kv => kV kv.1), wipe ((wipe σ vs).set j (some x)) vs = wipe σ vs)
    (ht : ∀ x ∈ kvs.map (fun kv => kV kv.1), ∀ H2, H2 a = some (.frz od (.dK kvs)) → (∀ b o, b ≠ a → H1 b = some o → H2 b = some o) → ∀ (Q : Bool → Hp → Prop), Q (f x) H2 → tt ((wipe σ vs).set j (some x)) H2 Q)
    (he : ∀ x ∈ kvs.map (fun kv => kV kv.1), f x = true → ∀ H2, H2 a = some (.frz od (.dK kvs)) → (∀ b o, b ≠ a → H1 b = some o → H2 b = some o) → ∀ (Q : VK), Q (v x) H2 → te ((wipe σ vs).set j (some x)) H2 Q)
    (hd : ∀ H', H' a = some (.frz od (.dK kvs)) → Same H1 (upd H' a (.dK kvs)) → upd H' a (.dK kvs) D = some (.lst (((kvs.map fun kv => kV kv.1).filter f).map v)) → Qd H') :
    LcGoal (Itk a od kvs) (gName j) tt te vs σ (upd H1 a (.frz od (.dK kvs))) D Qd := by
  have n : D ≠ a := fun z => by rw [z, upd_same] at hD; cases hD
  have k1 : ∀ acc, upd (upd H1 a (.frz od (.dK kvs))) D (.lst acc) a = some (.frz od (.dK kvs)) := fun acc => by rw [upd_ne n.symm, upd_same]
  have k2 : ∀ acc b o, b ≠ a → H1 b = some o → upd (upd H1 a (.frz od (.dK kvs))) D (.lst acc) b = some o := fun acc b o nb e => by
    have n2 : b ≠ D := fun q => by rw [upd_ne n] at hD; rw [q, hD] at e; cases e
    rw [upd_ne n2, upd_ne nb]; exact e
  refine lc_keys upd_same hD hz f v hw (fun x hx acc Q q => ht x hx _ (k1 _) (k2 _) Q q) (fun x hx hf acc Q q => he x hx hf _ (k1 _) (k2 _) Q q) ?_
  obtain ⟨s, sD, _⟩ := same_lock (x := .lst (((kvs.map fun kv => kV kv.1).filter f).map v)) h hD
  exact hd _ (k1 _) s sD
theorem slt_same {H H' : Hp} {a C dx : Addr} {vs : List (Option V)} (e : Same H H') (h : SlX.Slt H a C dx vs) : SlX.Slt H' a C dx vs := by
  rcases h with ⟨h, rfl⟩ | ⟨h1, h2⟩
  · exact .inl ⟨e _ _ h, rfl⟩
  · exact .inr ⟨e _ _ h1, e _ _ h2⟩
theorem piTupK {X : Cx} {K : PySem.W.Frag} (hK : X.K = K) {tg l : Expr} {tl : TE} (hl : PE X l tl) : PI X tg l (iTup K tl) := hK ▸ pi_tup hl
theorem putK_le (kvs : List (Key × V)) (k : Key) (v : V) : (putK kvs k v).length ≤ kvs.length + 1 := by
  unfold putK
  split <;> simp
/-- an instance with slots, laid -/
def Sl2 (H : Hp) (a C dx : Addr) (vs : List (Option V)) : Prop := H a = some (SlX.SlO a C dx vs) ∧ H dx = some (.xd [])
theorem slH_sl2 {H : Hp} {a C dx : Addr} {vs : List (Option V)} (h : dx ≠ a) : Sl2 (SlX.slH H a C dx vs) a C dx vs := ⟨upd_same, by unfold SlX.slH; rw [upd_ne h, upd_same]⟩
/-- all but x and dx stays -/
def Kp (x dx : Addr) (H H' : Hp) : Prop := ∀ b o, b ≠ x → b ≠ dx → H b = some o → H' b = some o
theorem Kp.same {x dx : Addr} {H H1 H2 : Hp} (h : Kp x dx H H1) (e : Same H1 H2) : Kp x dx H H2 := fun b o n1 n2 q => e _ _ (h b o n1 n2 q)
theorem Kp.sl {x dx C : Addr} {vs : List (Option V)} {H H1 : Hp} (h : Kp x dx H H1) : Kp x dx H (SlX.slH H1 x C dx vs) := fun b o n1 n2 q => by
  rw [SlX.slH_ne n1 n2]; exact h b o n1 n2 q
section
variable {P : Program} {w : World} {K : PySem.W.Frag} {mg : Str → Option Value} {base : Heap}
theorem fnok_of {x qual : Str} {params : Arguments} {body : List Stmt} {scope : Scope} {dvs : List V} {kws : List (Str × V)} {f : Addr} {fd : FuncData} {N ps : List Str} {k : Nat} {sp : Sp} (F : FunD K x qual params body scope dvs kws f fd) (S : FnScope N ps scope) (len : ∀ vs H Q E, sp vs H Q E → vs.length = ps.length)
    (hbody : ∀ (cdv : Value) (A : Around) (outer : List Env) (s : Shared) (H : Hp) (vs : List V) (Q : VK) (E : XK), Room k (A.deeper (envOfC qual scope s.heap.objs.size f cdv)) → sp vs H Q E →
      ∃ t, PSs (cxOf CX0 P w K mg base N qual scope f cdv A outer s H E).nox body t ∧ t { nx := fun _ H' => Q .non H', rt := Q } (start N vs) H) : FnOk P w K mg base CX0 (k + 1) f fd ps sp :=
  F.ok S len fun cdv A outer s H vs Q E hr h => by
    obtain ⟨t, h1, h2⟩ := hbody cdv A outer s H vs Q E hr h
    exact ⟨t, h1.nox, h2⟩
abbrev FunAt (K : PySem.W.Frag) (x qual : Str) (st : Stmt) (dvs : List V) (f : Addr) (fd : FuncData) : Prop := FunD K x qual (defArgs st) (defBody st) (defScope st) dvs [] f fd
end
/-- a new object, in a word -/
theorem laid {H : Hp} {q : Addr} (o : HO) (h : H q = none) : Same H (upd H q o) ∧ upd H q o q = some o := ⟨same_new h, upd_same⟩
end MN
/-! t[::-1] of a tuple -/
namespace MN
open PySem PySem.Spec PyProof.Rows L2
theorem places_back (n : Nat) : Builtin.Slice.slicePlaces ((n : Int) - 1) (-1) (-1) = n := by
  unfold Builtin.Slice.slicePlaces
  rw [if_neg (by decide)]
  by_cases h : n = 0
  · subst h; rfl
  · rw [if_pos (by omega), Int.neg_neg, Int.ediv_one]
    omega
theorem filterMap_some {α β : Type} {f : α → Option β} {g : α → β} : ∀ {l : List α}, (∀ k ∈ l, f k = some (g k)) → l.filterMap f = l.map g
  | [], _ => rfl
  | x :: l, h => by
    rw [List.filterMap_cons, h x List.mem_cons_self, List.map_cons, filterMap_some fun k hk => h k (List.mem_cons_of_mem _ hk)]
theorem pick_back (xs : Array Value) : ((List.range xs.size).filterMap fun (k : Nat) => xs[(((xs.size : Int) - 1) + (k : Int) * (-1)).toNat]?).toArray = xs.toList.reverse.toArray := by
  congr 1
  have e : ∀ k ∈ List.range xs.size, (fun (k : Nat) => xs[(((xs.size : Int) - 1) + (k : Int) * (-1)).toNat]?) k = some (xs.toList.reverse.getD k .none) := by
    intro k hk
    have hk : k < xs.size := List.mem_range.mp hk
    have i : (((xs.size : Int) - 1) + (k : Int) * (-1)).toNat = xs.size - 1 - k := by omega
    simp only [i]
    have hl : k < xs.toList.reverse.length := by simpa using hk
    rw [List.getD_eq_getElem?_getD, List.getElem?_eq_getElem hl, List.getElem_reverse]
    rw [Array.getElem?_eq_getElem (by omega)]
    simp
  rw [filterMap_some e]
  apply List.ext_getElem?
  intro i
  rw [List.getElem?_map]
  by_cases hi : i < xs.size
  · rw [List.getElem?_range hi]
    have hl : i < xs.toList.reverse.length := by simpa using hi
    simp only [Option.map_some]
    rw [List.getD_eq_getElem?_getD, List.getElem?_eq_getElem hl]
    simp
  · rw [List.getElem?_eq_none (by simpa using hi), List.getElem?_eq_none (by simpa using hi)]
    rfl
section
variable {prog : Program} {w : World} {A : Around} {E : Value → Shared → Prop} {s : Shared}
theorem getItem_tuple_back {t sl : Addr} {items : Array Value} {vs : Value} {Q : Value → Shared → Prop} (ht : IsTup s.heap t items) (hs : s.heap.IsSliceOf sl .none .none vs) (ps : IsPart vs (some (-1)))
    (h : Q (.ref s.heap.objs.size) { s with heap := s.heap.push { cls := .type "tuple", data := .seq items.toList.reverse.toArray } }) (hsz : items.size ≤ sizeLine) : wpAny (model prog w) A (getItem (.ref t) (.ref sl)) Q E s := by
  have hok : sizeOk (.seq items.toList.reverse.toArray) := by
    show items.toList.reverse.toArray.size ≤ sizeLine
    simpa using hsz
  obtain ⟨os, hos, hcs, hds⟩ := id hs
  have hTs : s.TypeIs (.ref sl) "slice" := ⟨os, hos, hcs⟩
  unfold getItem
  try with_reducible refine wpAny_holding ?_
  first | refine wpAny_bind (wpAny_pure ?_) | skip
  refine wpAny_bind (wpAny_sequenceKey ht.typeIs (by decide) ?_)
  refine wpAny_bind (wpAny_callSpecial?_slot (name := Str.ofString "__getitem__") ht.typeIs PyProof.Rows.slot_tuple_getitem
    (wpAny_call_entry PyProof.Rows.slot_tuple_getitem ht.typeIs entry_tuple_getitem ?_ (args_tuple_getitem _ _)))
  show wpAny _ _ (Builtin.Tuple.tupleItemsOf (.ref t) >>= _) _ _ s
  refine wpAny_bind (tupleItemsOf_ ht ?_)
  refine wpAny_bind (wpAny_typeOf hTs ?_)
  rw [if_pos (by decide)]
  refine wpAny_bind (m := Builtin.Slice.sliceApplied (.ref sl) (pure (items.size : Int))) ?_
  unfold Builtin.Slice.sliceApplied Builtin.Slice.sliceFields
  refine wpAny_bind (wpAny_bind (wpAny_field hos hds (x := .none) rfl (wpAny_bind (wpAny_field hos hds (x := .none) rfl (wpAny_bind (wpAny_field hos hds (x := vs) rfl (wpAny_pure ?_)))))))
  refine wpAny_bind (HT.slicePart_ ps ?_)
  show wpAny _ _ (if ((-1 : Int) == 0) = true then _ else _) _ _ s
  rw [if_neg (by decide)]
  refine wpAny_bind (HT.slicePart_ .none (wpAny_bind (HT.slicePart_ .none (wpAny_bind (wpAny_pure ?_)))))
  show wpAny _ _ (pure ((items.size : Int) - 1, (-1 : Int), Builtin.Slice.slicePlaces ((items.size : Int) - 1) (-1) (-1))) _ _ s
  rw [places_back]
  refine wpAny_pure ?_
  have hno : ¬ (((items.size : Int) - 1 == 0 && (-1 : Int) == 1 && items.size == items.size) = true) := by simp
  show wpAny _ _ (if ((items.size : Int) - 1 == 0 && (-1 : Int) == 1 && items.size == items.size) = true then _ else _) _ _ s
  rw [if_neg hno, pick_back]
  first
    | exact wpAny_bind (m := Builtin.Tuple.tupleExact _) (wpAny_newObj_type (wpAny_pure ⟨_, rfl, wpAny_pure h⟩) hok)
    | exact wpAny_bind (m := Builtin.Tuple.tupleExact _) (wpAny_newObj_type (wpAny_bind (wpAny_pure (wpAny_pure ⟨_, rfl, wpAny_pure h⟩))) hok)
    | exact wpAny_bind (wpAny_bind (m := Builtin.Tuple.tupleExact _) (wpAny_newObj_type (wpAny_pure (wpAny_pure ⟨_, rfl, wpAny_pure h⟩)) hok))
    | exact wpAny_bind (wpAny_bind (m := Builtin.Tuple.tupleExact _) (wpAny_newObj_type (wpAny_pure ⟨_, rfl, wpAny_pure h⟩) hok))
end
section
variable {X : Cx}
def tRevT (K : PySem.W.Frag) (te : TE) : TE := fun σ H Q => te σ H fun x H1 => ∃ a xs, x = .ref a ∧ SqT K H1 a xs ∧ ∀ p, H1 p = none → Q (.ref p) (upd H1 p (.tup xs.reverse))
theorem pe_revT {e : Expr} {te : TE} {k : Nat} {p1 p2 p3 pos : Pos} (he : PE X e te) : PE X (.Subscript e (.Slice none none (some (.UnaryOp .USub (.Constant (.int 1) k p1) p2)) p3) pos) (tRevT X.K te) := by
  refine ⟨fun pins s σ H Q I h => ?_⟩
  refine Subscript_ (thn (he.run pins s σ H _ I h) fun v s1 ⟨x, H1, I1, r1, a, xs, ex, hx, q⟩ => ?_)
  subst ex
  cases r1
  have hst : PO X (some (.UnaryOp .USub (.Constant (.int 1) k p1) p2)) (tPart (tUn (rU fun i => .int (-i)) (tC (.int 1)))) := po_some (pe_un un_neg pe_int)
  refine wpAny_Slice (thn (po_none.run pins s1 σ H1 (fun o H2 => o = none ∧ H2 = H1) I1 ⟨rfl, rfl⟩) fun vl s2 ⟨l, H2, I2, pl, el, e2⟩ => ?_)
  cases el
  cases e2
  refine thn (po_none.run pins s2 σ H1 (fun o H3 => o = none ∧ H3 = H1) I2 ⟨rfl, rfl⟩) fun vu s3 ⟨u, H3, I3, pu, eu, e3⟩ => ?_
  cases eu
  cases e3
  refine thn (hst.run pins s3 σ H1 (fun o H4 => o = some (-1) ∧ H4 = H1) I3 ⟨1, rfl, -1, rfl, rfl, rfl⟩) fun vs s4 ⟨o, H4, I4, ps, eo, e4⟩ => ?_
  cases eo
  cases e4
  cases pl
  cases pu
  have I5 : Inv X pins σ H1 { s4 with heap := s4.heap.push { cls := .type "slice", data := .fields #[.none, .none, vs] } } := I4.kept (t' := s4.toks) fun b ob q => Heap.get?_push_of_some _ q
  obtain ⟨its, r, ht, hz⟩ := I5.tuple hx
  have hlen := r.length
  show wpAny (model X.prog X.w) X.A (subscriptTail e (.Slice none none (some (.UnaryOp .USub (.Constant (.int 1) k p1) p2)) p3) (.ref a) (.ref s4.heap.objs.size)) (EP X pins σ Q) X.xe { s4 with heap := s4.heap.push { cls := .type "slice", data := .fields #[.none, .none, vs] } }
  refine tail_any (ops := [.ref a, .ref s4.heap.objs.size]) ht.typeIs PyProof.Rows.slot_tuple_getitem.lookup ?_ (by with_unfolding_all rfl)
  refine getItem_tuple_back ht (Heap.IsSliceOf.new _ .none .none vs) ps ?_ (by rw [List.size_toArray]; omega)
  refine ⟨.ref _, _, I5.laid (t' := s4.toks) (o := .tup xs.reverse) (fun b ob q => Heap.get?_push_of_some _ q) (Nat.le_refl _) ?_, rfl, q _ (I5.hok.fresh (Nat.le_refl _))⟩
  exact ⟨by rw [List.length_reverse]; exact hz, _, r.reverse, IsTup.new _ _⟩
end
end MN
/-! the order of words: by length, then sign by sign -/
namespace MN
open PySem
def ahead (a b : Str) : Prop := a.length < b.length ∨ (a.length = b.length ∧ a.cps.toList < b.cps.toList)
instance (a b : Str) : Decidable (ahead a b) := by unfold ahead; infer_instance
theorem str_ext {a b : Str} (h : a.cps.toList = b.cps.toList) : a = b := PySem.W.str_of_cps h
theorem str_eq_iff {a b : Str} : a = b ↔ a.cps.toList = b.cps.toList := ⟨fun h => by rw [h], str_ext⟩
theorem ahead_irrefl (a : Str) : ¬ ahead a a := fun h => by
  rcases h with h | ⟨_, h⟩
  · omega
  · exact List.lt_irrefl _ h
theorem ahead_trans {a b c : Str} (h : ahead a b) (h' : ahead b c) : ahead a c := by
  rcases h with h | ⟨e, h⟩ <;> rcases h' with h' | ⟨e', h'⟩
  · exact .inl (by omega)
  · exact .inl (by omega)
  · exact .inl (by omega)
  · exact .inr ⟨by omega, List.lt_trans h h'⟩
theorem ahead_total (a b : Str) : ahead a b ∨ a = b ∨ ahead b a := by
  by_cases h1 : a.length < b.length
  · exact .inl (.inl h1)
  by_cases h2 : b.length < a.length
  · exact .inr (.inr (.inl h2))
  have e : a.length = b.length := by omega
  by_cases h3 : a.cps.toList < b.cps.toList
  · exact .inl (.inr ⟨e, h3⟩)
  by_cases h4 : b.cps.toList < a.cps.toList
  · exact .inr (.inr (.inr ⟨e.symm, h4⟩))
  exact .inr (.inl (str_ext (List.le_antisymm (List.not_lt.mp h4) (List.not_lt.mp h3))))
def leW (a b : Str) : Bool := !decide (ahead b a)
/-- each once, in the order in which they are met -/
def uniq (zs : List Str) : List Str := zs.foldl (fun acc z => if z ∈ acc then acc else acc ++ [z]) []
theorem uniq_spec (zs : List Str) : ∀ acc : List Str, acc.Nodup → (zs.foldl (fun acc z => if z ∈ acc then acc else acc ++ [z]) acc).Nodup ∧ ∀ x, x ∈ zs.foldl (fun acc z => if z ∈ acc then acc else acc ++ [z]) acc ↔ x ∈ acc ∨ x ∈ zs := by
  induction zs with
  | nil => intro acc h; exact ⟨h, fun x => by simp⟩
  | cons z zs ih =>
    intro acc h
    rw [List.foldl_cons]
    by_cases hz : z ∈ acc
    · rw [if_pos hz]
      obtain ⟨h1, h2⟩ := ih acc h
      refine ⟨h1, fun x => ?_⟩
      rw [h2 x, List.mem_cons]
      constructor
      · rintro (q | q)
        · exact .inl q
        · exact .inr (.inr q)
      · rintro (q | q | q)
        · exact .inl q
        · exact .inl (q ▸ hz)
        · exact .inr q
    · rw [if_neg hz]
      have hn : (acc ++ [z]).Nodup := List.nodup_append.mpr ⟨h, by simp, fun a ha b hb e => hz (by rw [List.mem_singleton] at hb; rw [← hb, ← e]; exact ha)⟩
      obtain ⟨h1, h2⟩ := ih (acc ++ [z]) hn
      refine ⟨h1, fun x => ?_⟩
      rw [h2 x, List.mem_append, List.mem_singleton, List.mem_cons]
      constructor
      · rintro ((q | q) | q)
        · exact .inl q
        · exact .inr (.inl q)
        · exact .inr (.inr q)
      · rintro (q | q | q)
        · exact .inl (.inl q)
        · exact .inl (.inr q)
        · exact .inr q
theorem uniq_nodup (zs : List Str) : (uniq zs).Nodup := (uniq_spec zs [] List.nodup_nil).1
theorem mem_uniq (zs : List Str) (x : Str) : x ∈ uniq zs ↔ x ∈ zs := by
  have h := (uniq_spec zs [] List.nodup_nil).2 x
  have e : x ∈ uniq zs ↔ x ∈ ([] : List Str) ∨ x ∈ zs := h
  simpa using e
def ord (zs : List Str) : List Str := (uniq zs).mergeSort leW
theorem mem_ord {zs : List Str} {x : Str} : x ∈ ord zs ↔ x ∈ zs := by
  unfold ord
  rw [List.mem_mergeSort, mem_uniq]
theorem ord_sorted (zs : List Str) : (ord zs).Pairwise ahead := by
  have h1 : (ord zs).Pairwise fun a b => leW a b = true := by
    refine List.pairwise_mergeSort (fun a b c h h' => ?_) (fun a b => ?_) _
    · simp only [leW, Bool.not_eq_true', decide_eq_false_iff_not] at *
      intro q
      rcases ahead_total b c with z | z | z
      · exact h (ahead_trans z q)
      · exact h (z ▸ q)
      · exact h' z
    · simp only [leW, Bool.or_eq_true, Bool.not_eq_true', decide_eq_false_iff_not]
      by_cases q : ahead b a
      · exact .inr fun q' => ahead_irrefl _ (ahead_trans q q')
      · exact .inl q
  have h2 : (ord zs).Nodup := (List.mergeSort_perm _ _).nodup_iff.mpr (uniq_nodup zs)
  have h2' : (ord zs).Pairwise fun a b => a ≠ b := h2
  refine List.Pairwise.imp₂ (fun a b h h' => ?_) h1 h2'
  simp only [leW, Bool.not_eq_true', decide_eq_false_iff_not] at h
  rcases ahead_total a b with z | z | z
  · exact z
  · exact absurd z h'
  · exact absurd z h
/-- only one list ascends and has these members -/
theorem sorted_one : ∀ {xs ys : List Str}, xs.Pairwise ahead → ys.Pairwise ahead → (∀ z, z ∈ xs ↔ z ∈ ys) → xs = ys
  | [], [], _, _, _ => rfl
  | [], y :: ys, _, _, h => absurd ((h y).mpr List.mem_cons_self) (by simp)
  | x :: xs, [], _, _, h => absurd ((h x).mp List.mem_cons_self) (by simp)
  | x :: xs, y :: ys, hx, hy, h => by
    rw [List.pairwise_cons] at hx hy
    have e : x = y := by
      rcases ahead_total x y with z | z | z
      · have := (h x).mp List.mem_cons_self
        rcases List.mem_cons.mp this with q | q
        · exact q
        · exact absurd (ahead_trans z (hy.1 x q)) (ahead_irrefl _)
      · exact z
      · have := (h y).mpr List.mem_cons_self
        rcases List.mem_cons.mp this with q | q
        · exact q.symm
        · exact absurd (ahead_trans z (hx.1 y q)) (ahead_irrefl _)
    subst e
    congr 1
    refine sorted_one hx.2 hy.2 fun z => ?_
    have hz := h z
    rw [List.mem_cons, List.mem_cons] at hz
    constructor
    · intro q
      rcases hz.mp (.inr q) with e | e
      · exact absurd (e ▸ hx.1 z q) (ahead_irrefl _)
      · exact e
    · intro q
      rcases hz.mpr (.inr q) with e | e
      · exact absurd (e ▸ hy.1 z q) (ahead_irrefl _)
      · exact e
theorem ord_eq {xs ys : List Str} (h : ∀ z, z ∈ xs ↔ z ∈ ys) : ord xs = ord ys := sorted_one (ord_sorted _) (ord_sorted _) fun z => by rw [mem_ord, mem_ord]; exact h z
theorem ord_of {xs : List Str} (h : xs.Pairwise ahead) : ord xs = xs := sorted_one (ord_sorted _) h fun z => mem_ord
theorem ord_ord (xs : List Str) : ord (ord xs) = ord xs := ord_of (ord_sorted xs)
theorem ord_reverse (xs : List Str) : ord xs.reverse = ord xs := ord_eq fun z => List.mem_reverse
theorem ord_length (zs : List Str) : (ord zs).length ≤ zs.length := by
  unfold ord
  rw [List.length_mergeSort]
  have h : ∀ (zs acc : List Str), (zs.foldl (fun acc z => if z ∈ acc then acc else acc ++ [z]) acc).length ≤ acc.length + zs.length := by
    intro zs
    induction zs with
    | nil => intro acc; simp
    | cons z zs ih =>
      intro acc
      rw [List.foldl_cons, List.length_cons]
      have := ih (if z ∈ acc then acc else acc ++ [z])
      split at this
      · rename_i q; rw [if_pos q]; omega
      · rename_i q; rw [if_neg q]; rw [List.length_append, List.length_singleton] at this; omega
  simpa [uniq] using h zs []
theorem dataLe_rank : PySem.W.dataLe false (fun z : Str => PyData.tuple [.int z.length, .str z]) = leW := by
  funext a b
  show (!PySem.W.dataLt (.tuple [.int b.length, .str b]) (.tuple [.int a.length, .str a])) = _
  rw [PySem.W.dataLt_pair (by simp [PySem.W.alike]) (by simp [PySem.W.alike]), PySem.W.dataLt_int, PySem.W.dataLt_str]
  simp only [PyData.eqv, leW, ahead, beq_iff_eq]
  congr 1
  by_cases h1 : (b.length : Int) = a.length
  · have e : b.length = a.length := by omega
    have nl : ¬ b.length < a.length := by omega
    rw [if_pos h1]
    by_cases h2 : b = a
    · subst h2
      rw [if_pos rfl]
      exact (decide_eq_false (fun q => ahead_irrefl b q)).symm
    · rw [if_neg h2]
      simp [e]
  · have e : b.length ≠ a.length := by omega
    rw [if_neg h1]
    simp only [e, false_and, or_false]
    congr 1
    exact propext ⟨fun q => by omega, fun q => by omega⟩
end MN
/-! the defs about words -/
namespace MN
open PySem PySem.Spec PyProof.Rows L2
theorem str_one {z : Str} (h : z.length = 1) : ∃ c, z = ⟨#[c]⟩ := by
  obtain ⟨⟨l⟩⟩ := z
  match l, h with
  | [c], _ => exact ⟨c, rfl⟩
/-- a value: a text, or one of a kind that is no text -/
def ValOk (K : PySem.W.Frag) (H : Hp) (v : V) : Prop := (∃ z : Str, v = .str z ∧ z.length ≤ 100000) ∨ ((∀ z, v ≠ .str z) ∧ IsX K H v "str" false)
theorem ValOk.str {K : PySem.W.Frag} {H : Hp} {z : Str} (h : z.length ≤ 100000) : ValOk K H (.str z) := .inl ⟨z, rfl, h⟩
def sgn (c : Nat) : Bool := decide (c ∈ ("abcde" : Str).cps.toList)
def isWordS (z : Str) : Bool := z.cps.toList.all sgn
def isWord : V → Bool
  | .str z => isWordS z
  | _ => false
def isSign : V → Bool
  | .str z => decide (z.length = 1) && isWordS z
  | _ => false
theorem isWord_no {v : V} (h : ∀ z, v ≠ .str z) : isWord v = false := by
  cases v with
  | str z => exact absurd rfl (h z)
  | _ => rfl
theorem isSign_no {v : V} (h : ∀ z, v ≠ .str z) : isSign v = false := by
  cases v with
  | str z => exact absurd rfl (h z)
  | _ => rfl
section
variable {P : Program} {w : World} {K : PySem.W.Frag} {mg : Str → Option Value} {base : Heap}
/-! ### is_sign -/
def spIsSign (K : PySem.W.Frag) : Sp := fun vs H Q _ => ∃ v, vs = [v] ∧ ValOk K H v ∧ Q (.bl (isSign v)) H
theorem sc_is_sign : FnScope ["value"] ["value"] (defScope (top 12)) := ⟨rfl, rfl, rfl, by decide +kernel, rfl, by decide +kernel, by decide +kernel⟩
theorem c_is_sign (A : At K mg "is_sign" (top 12)) (B : Blt mg) : Cal P w K mg base 1 "is_sign" (spIsSign K) := by
  refine cal_of A sc_is_sign (fun _ _ _ _ _ _ us hl => match us, hl with | [_], _ => rfl) (fun vs H Q E h => ?_) (fun f cdv A outer s H vs Q E hr h => ?_)
  · obtain ⟨v, rfl, _⟩ := h; rfl
  · obtain ⟨v, rfl, hv, hQ⟩ := h
    refine ⟨_, pss_one (ps_ret (pe_and (pe_callB call_isS (by rfl) B.isinstance (by decide +kernel) (pa_cons (pv 0) (pa_cons (pe_bltn (v := .ty "str") (by rfl) B.str (by decide +kernel) rfl) pa_nil)))
      (pe_and (pe_cmpR op_eq (pe_callB call_len_str (by rfl) B.len PySem.boot_len (pa_cons (pv 0) pa_nil)) pe_int (nomark _))
        (pe_one (pe_cmpR op_in_sign (pv 0) (pe_gl (by rfl) B.SIGNS) (by rfl)))))), ?_⟩
    rcases hv with ⟨z, rfl, hz⟩ | ⟨hn, hk⟩
    · refine ⟨_, rfl, .str z, "str", true, rfl, .str, true, rfl, iteT ?_⟩
      refine ⟨_, rfl, z, rfl, Nat.le_trans hz (by decide), rfl, _, rfl, ?_⟩
      by_cases h1 : z.length = 1
      · obtain ⟨c, rfl⟩ : ∃ c, z = ⟨#[c]⟩ := str_one h1
        rw [show decide (V.int ((⟨#[c]⟩ : Str).length : Int) = V.int 1) = true from rfl]
        refine iteT ⟨_, rfl, c, _, rfl, rfl, ?_⟩
        have e : isSign (.str ⟨#[c]⟩) = decide (c ∈ ("abcde" : Str).cps.toList) := by simp [isSign, isWordS, Str.length, sgn]
        rw [← e]; exact hQ
      · have e0 : decide (V.int (z.length : Int) = V.int 1) = false := decide_eq_false (fun q => h1 (by injection q with q; omega))
        rw [e0]
        have e : isSign (.str z) = false := by simp [isSign, h1]
        rw [e] at hQ
        exact iteF hQ
    · refine ⟨_, rfl, v, "str", false, rfl, hk, false, rfl, iteF ?_⟩
      rw [isSign_no hn] at hQ
      exact hQ
/-! ### is_word -/
def spIsWord (K : PySem.W.Frag) : Sp := fun vs H Q _ => ∃ v, vs = [v] ∧ ValOk K H v ∧ ∀ H', Same H H' → Q (.bl (isWord v)) H'
abbrev N_is_word : List Str := ["value", "sign"]
end
end MN
/-! the defs about numbers -/
namespace MN
open PySem PySem.Spec PyProof.Rows L2
def big : Int := 10 ^ 60
def isInt (n : Int) : Bool := decide (-big < n) && decide (n < big)
theorem isInt_of {n : Int} (h1 : -1000000 ≤ n) (h2 : n ≤ 1000000) : isInt n = true := by
  have : (1000000 : Int) < big := by decide +kernel
  unfold isInt
  rw [decide_eq_true (by omega), decide_eq_true (by omega)]
  rfl
section
variable {P : Program} {w : World} {K : PySem.W.Frag} {mg : Str → Option Value} {base : Heap}
def spIsInt (K : PySem.W.Frag) : Sp := fun vs H Q _ => ∃ v, vs = [v] ∧ ((∃ n, v = .int n ∧ Q (.bl (isInt n)) H) ∨ (∃ b, v = .bl b ∧ Q (.bl false) H) ∨ (IsX K H v "int" false ∧ Q (.bl false) H))
theorem sc_is_integer : FnScope ["value"] ["value"] (defScope (top 11)) := ⟨rfl, rfl, rfl, by decide +kernel, rfl, by decide +kernel, by decide +kernel⟩
theorem c_is_integer (A : At K mg "is_integer" (top 11)) (B : Blt mg) (G : GlC mg "GREATEST" (.int big)) : Cal P w K mg base 1 "is_integer" (spIsInt K) := by
  refine cal_of A sc_is_integer (fun _ _ _ _ _ _ us hl => match us, hl with | [_], _ => rfl) (fun vs H Q E h => ?_) (fun f cdv A outer s H vs Q E hr h => ?_)
  · obtain ⟨v, rfl, _⟩ := h; rfl
  · obtain ⟨v, rfl, hQ⟩ := h
    refine ⟨_, (pss_one (ps_ret (pe_and (pe_callB call_isS (by rfl) B.isinstance (by decide +kernel) (pa_cons (pv 0) (pa_cons (pe_bltn (v := .ty "int") (by rfl) B.int (by decide +kernel) rfl) pa_nil))) (pe_and (pe_not (pe_callB call_isS (by rfl) B.isinstance (by decide +kernel) (pa_cons (pv 0) (pa_cons (pe_bltn (v := .ty "bool") (by rfl) B.bool (by decide +kernel) rfl) pa_nil)))) (pe_one (pe_chain op_lt op_lt (pe_un un_neg (pe_gl (by rfl) G)) (pv 0) (pe_gl (by rfl) G))))))), ?_⟩
    rcases hQ with ⟨n, rfl, hQ⟩ | ⟨b, rfl, hQ⟩ | ⟨hi, hQ⟩
    · refine ⟨_, rfl, _, _, true, rfl, .ty (.base (.int n)) (by decide +kernel), _, rfl, iteT ?_⟩
      refine ⟨_, rfl, _, _, false, rfl, .ty (.base (.int n)) (by decide +kernel), _, rfl, _, rfl, iteT ?_⟩
      refine ⟨_, rfl, _, rfl, _, _, rfl, rfl, _, rfl, ?_⟩
      by_cases h1 : -big < n
      · rw [decide_eq_true h1]
        refine iteT ⟨_, _, rfl, rfl, ?_⟩
        unfold isInt at hQ
        rw [decide_eq_true h1] at hQ
        exact hQ
      · rw [decide_eq_false h1]
        unfold isInt at hQ
        rw [decide_eq_false h1] at hQ
        exact iteF hQ
    · refine ⟨_, rfl, _, _, true, rfl, .ty (.base (.bl b)) (by decide +kernel), _, rfl, iteT ?_⟩
      exact ⟨_, rfl, _, _, true, rfl, .ty (.base (.bl b)) (by decide +kernel), _, rfl, _, rfl, iteF hQ⟩
    · exact ⟨_, rfl, _, _, false, rfl, hi, _, rfl, iteF hQ⟩
end
end MN
/-! require_number -/
namespace MN
open PySem PySem.Spec PyProof.Rows L2
section
variable {P : Program} {w : World} {K : PySem.W.Frag} {mg : Str → Option Value} {base : Heap}
/-- a number within its bounds -/
def spReqNumber : Sp := fun vs H Q _ => ∃ n lo hi, vs = [.int n, .int lo, .int hi] ∧ isInt n = true ∧ lo ≤ n ∧ n ≤ hi ∧ Q .non H
theorem sc_require_number : FnScope ["value", "low", "high"] ["value", "low", "high"] (defScope (top 15)) := ⟨rfl, rfl, rfl, by decide +kernel, rfl, by decide +kernel, by decide +kernel⟩
theorem c_require_number (A : At K mg "require_number" (top 15)) (c_is_integer : Cal P w K mg base 1 "is_integer" (spIsInt K)) : Cal P w K mg base 2 "require_number" spReqNumber := by
  refine cal_of A sc_require_number (fun _ _ _ _ _ _ us hl => match us, hl with | [_, _, _], _ => rfl) (fun vs H Q E h => ?_) (fun f cdv A outer s H vs Q E hr h => ?_)
  · obtain ⟨n, lo, hi, rfl, _⟩ := h; rfl
  · obtain ⟨n, lo, hi, rfl, hn, h1, h2, hQ⟩ := h
    refine ⟨_, (pss_one (ps_if (PW.pt (pw_or (pt_not (pt_val (pe_c c_is_integer hr (by decide) (by rfl) (pa_cons (pv 0) pa_nil)))) (pw_or1 (pt_not (pt_chain op_le op_le (pv 1) (pv 0) (pv 2))))))
      (pss_one ps_never)
      pss_nil)), ?_⟩
    refine ⟨_, rfl, _, rfl, .inl ⟨n, rfl, _, rfl, ?_⟩⟩
    rw [hn]
    refine iteF ⟨_, rfl, _, rfl, _, _, rfl, rfl, _, rfl, ?_⟩
    rw [decide_eq_true h1]
    refine iteT ⟨_, rfl, _, _, rfl, rfl, _, rfl, ?_⟩
    rw [decide_eq_true h2]
    exact iteF hQ
end
end MN
/-! is_price -/
namespace MN
open PySem PySem.Spec PyProof.Rows L2
section
variable {P : Program} {w : World} {K : PySem.W.Frag} {mg : Str → Option Value} {base : Heap}
/-- prices: whole numbers -/
def spIsPrice (K : PySem.W.Frag) : Sp := fun vs H Q _ => ∃ v m, vs = [v, .int m] ∧ ((∃ n, v = .int n ∧ Q (.bl (isInt n && (decide (1 ≤ n) && decide (n ≤ m)))) H) ∨ (∃ b, v = .bl b ∧ Q (.bl false) H) ∨ (IsX K H v "int" false ∧ Q (.bl false) H))
theorem sc_is_price : FnScope ["value", "most"] ["value", "most"] (defScope (top 22)) := ⟨rfl, rfl, rfl, by decide +kernel, rfl, by decide +kernel, by decide +kernel⟩
theorem c_is_price (A : At K mg "is_price" (top 22)) (c_is_integer : Cal P w K mg base 1 "is_integer" (spIsInt K)) : Cal P w K mg base 2 "is_price" (spIsPrice K) := by
  refine cal_of A sc_is_price (fun _ _ _ _ _ _ us hl => match us, hl with | [_, _], _ => rfl) (fun vs H Q E h => ?_) (fun f cdv A outer s H vs Q E hr h => ?_)
  · obtain ⟨v, m, rfl, _⟩ := h; rfl
  · obtain ⟨v, m, rfl, hQ⟩ := h
    refine ⟨_, (pss_one (ps_ret (pe_and (pe_c c_is_integer hr (by decide) (by rfl) (pa_cons (pv 0) pa_nil)) (pe_one (pe_chain op_le op_le pe_int (pv 0) (pv 1)))))), ?_⟩
    refine ⟨_, rfl, _, rfl, ?_⟩
    rcases hQ with ⟨n, rfl, hQ⟩ | ⟨b, rfl, hQ⟩ | ⟨hi, hQ⟩
    · refine .inl ⟨n, rfl, _, rfl, ?_⟩
      cases hn : isInt n with
      | false => rw [hn] at hQ; exact iteF hQ
      | true =>
        rw [hn] at hQ
        refine iteT ⟨_, rfl, _, _, rfl, rfl, _, rfl, ?_⟩
        by_cases h1 : 1 ≤ n
        · rw [decide_eq_true h1] at hQ ⊢
          exact iteT ⟨_, rfl, _, _, rfl, rfl, hQ⟩
        · rw [decide_eq_false h1] at hQ ⊢
          exact iteF hQ
    · exact .inr (.inl ⟨b, rfl, _, rfl, iteF hQ⟩)
    · exact .inr (.inr ⟨hi, _, rfl, iteF hQ⟩)
end
end MN
/-! are_signs, require_signs -/
namespace MN
open PySem PySem.Spec PyProof.Rows L2
def ltS (a b : Str) : Bool := decide (a.cps.toList < b.cps.toList)
def asc (zs : List Str) : Bool := (zs.zip zs.tail).all fun p => ltS p.1 p.2
def areSigns (zs : List Str) : Bool := !zs.isEmpty && (zs.all (fun z => isSign (.str z)) && asc zs)
def TextsAt (K : PySem.W.Frag) (H : Hp) (t : Addr) (zs : List Str) : Prop := SqT K H t (zs.map V.str) ∧ zs.length ≤ 100000 ∧ ∀ z ∈ zs, z.length ≤ 100000
section
variable {P : Program} {w : World} {K : PySem.W.Frag} {mg : Str → Option Value} {base : Heap}
def spAreSigns (K : PySem.W.Frag) : Sp := fun vs H Q _ => ∃ t zs, vs = [.ref t] ∧ TextsAt K H t zs ∧ ∀ H', Same H H' → Q (.bl (areSigns zs)) H'
abbrev N_are_signs : List Str := ["value", "sign", "one", "other"]
theorem sc_are_signs : FnScope N_are_signs ["value"] (defScope (top 13)) := ⟨rfl, rfl, rfl, by decide +kernel, rfl, by decide +kernel, by decide +kernel⟩
theorem c_are_signs (A : At K mg "are_signs" (top 13)) (B : Blt mg) (c_is_sign : Cal P w K mg base 1 "is_sign" (spIsSign K)) : Cal P w K mg base 2 "are_signs" (spAreSigns K) := by
  refine cal_of A sc_are_signs (fun _ _ _ _ _ _ us hl => match us, hl with | [_], _ => rfl) (fun vs H Q E h => ?_) (fun f cdv A outer s H vs Q E hr h => ?_)
  · obtain ⟨t, zs, rfl, _⟩ := h; rfl
  · obtain ⟨t, zs, rfl, ⟨ht, hl, hw⟩, hQ⟩ := h
    refine ⟨_, (pss_cons (ps_if (PW.pt (pw_or (pt_not (pt_val (pe_callB call_isi (by rfl) B.isinstance (by decide +kernel) (pa_cons (pv 0) (pa_cons (pe_bltn (v := .ty "tuple") (by rfl) B.tuple (by decide +kernel) rfl) pa_nil))))) (pw_or (pt_cmpR op_eq (pe_callB call_len_seq (by rfl) B.len (by decide +kernel) (pa_cons (pv 0) pa_nil)) pe_int (nomark _)) (pw_or1 (pt_not (pt_val (pe_callB (cr_all rfl) (by rfl) B.all (by decide +kernel) (pa_cons (pe_lc (own := [("sign", 1)]) (g := gName 1) (tt := tYes) (by rfl) sc_are_signs.nd (pi_tup (pv 0)) (blkOk_by (own := [("sign", 1)]) (N := N_are_signs) (sc := defScope (top 13)) (by decide +kernel)) (fun _ _ _ _ _ => (pg_name (i := 1) sc_are_signs.nd rfl (Or.inl rfl))) (fun _ _ _ _ _ => pts_nil) (fun _ _ _ _ _ => (pe_c c_is_sign hr (by decide) (by rfl) (pa_cons (pv 1) pa_nil)))) pa_nil))))))))
      (pss_one (ps_ret pe_bl))
      pss_nil)
      (pss_one (ps_ret (pe_callB (cr_all rfl) (by rfl) B.all (by decide +kernel) (pa_cons (pe_lc (own := [("one", 2), ("other", 3)]) (tt := tYes) (by rfl) sc_are_signs.nd (RZ.pi_zipA (by rfl) B.zip (pa_cons (pv 0) (pa_cons (pe_slice sl_tup (pv 0) (po_some pe_int) po_none) pa_nil))) (blkOk_by (own := [("one", 2), ("other", 3)]) (N := N_are_signs) (sc := defScope (top 13)) (by decide +kernel)) (fun _ _ _ _ _ => (pg_tupK (K := K) (n := 2) rfl rfl (pgs_cons (pg_name (i := 2) sc_are_signs.nd rfl (Or.inl rfl)) (pgs_cons (pg_name (i := 3) sc_are_signs.nd rfl (Or.inl rfl)) pgs_nil)))) (fun _ _ _ _ _ => pts_nil) (fun _ _ _ _ _ => (pe_cmpR op_lt_str (pv 2) (pv 3) (nomark _)))) pa_nil))))), ?_⟩
    refine ⟨_, rfl, .ref t, .ty "tuple", .type "tuple", .type "tuple", true, rfl, .ty _, tyT ht, kit_ty (by decide +kernel), true, rfl, iteF ?_⟩
    refine ⟨_, rfl, _, _, rfl, .inr ht, rfl, _, rfl, ?_⟩
    rw [List.length_map]
    cases zs with
    | nil =>
      exact iteT (iteT (hQ _ (Same.refl _)))
    | cons z0 zt =>
      generalize hzs : z0 :: zt = zs at *
      have hne : 0 < zs.length := by rw [← hzs]; simp
      have e0 : decide (V.int ((zs.length : Nat) : Int) = V.int 0) = false := decide_eq_false (fun q => by injection q with q; omega)
      rw [e0]
      refine iteF ?_
      refine ⟨_, rfl, t, rfl, ⟨_, ht⟩, fun D hD => lc_tpl ht hD (by simp; omega) (fun _ => true) (fun x => .bl (isSign x)) (fun x _ => rfl) (fun x _ acc Q q => q) (fun x hx _ acc Q q => ?_) ?_⟩
      · obtain ⟨z, hz, rfl⟩ := List.mem_map.mp hx
        exact ⟨_, rfl, _, rfl, .str (hw z hz), q⟩
      · refine ⟨D, (zs.map V.str).map isSign, rfl, .inl (.inl ?_), _, rfl, ?_⟩
        · rw [upd_same, filter_all]; simp [Function.comp_def]
        · have ea : ((zs.map V.str).map isSign).all id = zs.all (fun z => isSign (.str z)) := by simp [List.all_map, Function.comp_def]
          rw [ea]
          have e1 : Same H (upd H D (.lst (((zs.map V.str).filter fun _ => true).map fun x => .bl (isSign x)))) := same_new hD
          have hne' : zs.isEmpty = false := by rw [← hzs]; rfl
          cases hs : zs.all (fun z => isSign (.str z)) with
          | false =>
            refine iteT ?_
            have := hQ _ e1
            rw [areSigns, hne', hs] at this
            exact this
          | true =>
            refine iteF ?_
            refine ⟨_, rfl, _, rfl, _, rfl, t, zs.map V.str, rfl, Same.seqT e1 ht, fun q => ?_, fun p hp => ?_⟩
            · have q1 := q.1
              rw [List.length_map] at q1
              rw [show (some (1 : Int)) = some ((1 : Nat) : Int) from rfl, HT.sIx_nat] at q1
              omega
            · have ec : cutV (zs.map V.str) (some 1) none = zs.tail.map V.str := by
                unfold cutV
                rw [show (some (1 : Int)) = some ((1 : Nat) : Int) from rfl, HT.sIx_nat, HT.sIx_none, List.length_map, Nat.min_eq_left hne, ← List.map_drop, List.drop_one, List.take_of_length_le (by simp)]
              rw [ec]
              have e2 := e1.trans (same_new (o := .tup (zs.tail.map V.str)) hp)
              generalize hH1 : upd (upd H D (.lst (((zs.map V.str).filter fun _ => true).map fun x => .bl (isSign x)))) p (.tup (zs.tail.map V.str)) = H1 at *
              have hp1 : SqT K H1 p (zs.tail.map V.str) := .inl (.inl (by rw [← hH1, upd_same]))
              have ht1 : SqT K H1 t (zs.map V.str) := Same.seqT e2 ht
              refine ⟨t, p, _, _, rfl, .inr ⟨ht1, hp1, fun D2 hD2 => ?_⟩⟩
              have hl2 : (zs.tail.map V.str).length = min (zs.map V.str).length (zs.tail.map V.str).length := by simp
              refine lc_it (walk_zipT hl2) (fun i H' => Same H1 H' ∧ H' D2 = some (.lst (((zs.zip zs.tail).take i).map fun p => .bl (ltS p.1 p.2)))) ⟨same_new hD2, by rw [List.take_zero]; exact upd_same⟩ (fun i H' _ e => ⟨Same.seqT e.1 ht1, Same.seqT e.1 hp1⟩) (fun i x H' H2 hi e y => ?_) (fun H' e => ?_)
              · obtain ⟨T, x1, y1, rfl, hT, rfl, hx, hy⟩ := y
                simp only [List.getElem?_map] at hx hy
                obtain ⟨a, ha, rfl⟩ := Option.map_eq_some_iff.mp hx
                obtain ⟨b, hb, rfl⟩ := Option.map_eq_some_iff.mp hy
                have nD : D2 ≠ T := ne_of_none e.2 hT
                refine ⟨T, _, rfl, .inl (.inl upd_same), rfl, _, _, rfl, _, _, rfl, rfl, ?_⟩
                refine ⟨rfl, yes_q (iteT ⟨_, rfl, _, rfl, _, _, rfl, rfl, _, by rw [upd_ne nD]; exact e.2, ?_, ?_, ?_⟩)⟩
                · rw [List.length_map]
                  refine Nat.lt_of_le_of_lt (List.length_take_le' _ _) ?_
                  rw [List.length_zip]
                  have : 100000 < sizeLine := by decide
                  omega
                · intro b' o' q
                  rw [upd_ne (ne_of_none q hD2), upd_ne (ne_of_none (e.1 _ _ q) hT)]
                  exact e.1 _ _ q
                · rw [upd_same]
                  have ez : (zs.zip zs.tail)[i]? = some (a, b) := by
                    rw [List.getElem?_zip_eq_some]
                    exact ⟨ha, hb⟩
                  rw [List.take_add_one, ez]
                  simp [ltS]
              · refine ⟨D2, (zs.zip zs.tail).map fun p => ltS p.1 p.2, rfl, .inl (.inl ?_), ?_⟩
                · rw [e.2, List.take_of_length_le (by simp)]
                  simp [Function.comp_def]
                · have e9 := hQ _ (e2.trans e.1)
                  rw [areSigns, hne', hs] at e9
                  have e8 : ((zs.zip zs.tail).map fun p => ltS p.1 p.2).all id = asc zs := by
                    rw [List.all_map]; rfl
                  rw [e8]
                  exact e9
def spReqSigns (K : PySem.W.Frag) : Sp := fun vs H Q _ => ∃ t zs, vs = [.ref t] ∧ TextsAt K H t zs ∧ areSigns zs = true ∧ ∀ H', Same H H' → Q .non H'
theorem sc_require_signs : FnScope ["value"] ["value"] (defScope (top 14)) := ⟨rfl, rfl, rfl, by decide +kernel, rfl, by decide +kernel, by decide +kernel⟩
theorem c_require_signs (A : At K mg "require_signs" (top 14)) (c_are_signs : Cal P w K mg base 2 "are_signs" (spAreSigns K)) : Cal P w K mg base 3 "require_signs" (spReqSigns K) := by
  refine cal_of A sc_require_signs (fun _ _ _ _ _ _ us hl => match us, hl with | [_], _ => rfl) (fun vs H Q E h => ?_) (fun f cdv A outer s H vs Q E hr h => ?_)
  · obtain ⟨t, zs, rfl, _⟩ := h; rfl
  · obtain ⟨t, zs, rfl, ht, hs, hQ⟩ := h
    refine ⟨_, (pss_one (ps_if (pt_not (pt_val (pe_c c_are_signs hr (by decide) (by rfl) (pa_cons (pv 0) pa_nil))))
      (pss_one ps_never)
      pss_nil)), ?_⟩
    refine ⟨_, rfl, t, zs, rfl, ht, fun H' e => ⟨_, rfl, ?_⟩⟩
    rw [hs]
    exact iteF (hQ _ e)
end
end MN
/-! dict comprehensions with one and with two clauses, keys of any kind that a tracked dict knows -/
namespace MN
open PySem PySem.Spec PyProof.Rows L2
theorem d_setP {X : Cx} {pins : List (Addr × Obj)} {σ : L2.St} {H H' : Hp} {s : Shared} {E : Value → Shared → Prop} {D : Addr} {y v : V} {u r : Value} {Q : Unit → Shared → Prop} (hu : X.A.units + 1 < cLine) (I : Inv X pins σ H s) (g : DPut H D y v H')
    (ry : RelV y u) (rv : RelV v r) (h : ∀ s', Inv X pins σ H' s' → Q () s') : wpAny (model X.prog X.w) X.A (dictSet D u r) Q E s := by
  rcases g with ⟨kvs, k, e, ey, l, eH⟩ | ⟨kvs, k, b, e, ey, eb, l, eH⟩
  · subst ey eH
    exact d_dictSet I e l ry rv h
  · subst ey eH
    cases (show u = Value.ref b from ry)
    obtain ⟨z, hd, xs, rel, dd⟩ := dt_of I.hok e
    have hz : xs.length ≤ sizeLine := by rw [← Paired.length rel]; exact z
    have hl : (putK kvs k v).length ≤ sizeLine := by have := length_putK kvs k v; omega
    refine wpAny_dictSet_heap (hsz := hz) (show X.A.units < cLine by omega) (key_of I.hok eb) dd fun h' dd' hs => h _ ?_
    obtain ⟨q, es, ep, hq, h2, h3, h4, _, h5⟩ := dd'
    refine d_write I (by rw [e]; exact True.intro) hs ⟨q, hq⟩ ⟨hl, hd, _, (rel.put k eb rv).keeps fun c ys ec => ?_, q, es, ep, hq, h2, h3, h4, h5⟩
    rw [upd_ne (ne_of ec e (fun z => nomatch z))]
    exact ec
theorem turn2_out (kx vx t0 i0 t1 i1 : Expr) (ifs0 ifs1 : List Expr) (scope : Scope) (pos : Pos) (it acc : Value) (env : Env) :
    compTurn (.DictComp kx vx [⟨t0, i0, ifs0, 0⟩, ⟨t1, i1, ifs1, 0⟩] scope pos) 0 it acc env = (do
      standAt i0.pos
      match ← pyNext it with
      | none => pure (.done .next)
      | some v =>
        letOwnedTupleGo t0 it v
        assign t0 env v
        let mut ok := true
        for c in ifs0 do
          if ok then ok ← isTrue c env (eval c env)
        if ok then
          let x ← eval i1 env
          standAt i1.pos
          let x ← foldedSetIterable i1 env x
          let _ ← runOwn (.compStart (.DictComp kx vx [⟨t0, i0, ifs0, 0⟩, ⟨t1, i1, ifs1, 0⟩] scope pos) 1 (← holding [x] (pyIter x)) acc env) env
        again (.compLoop (.DictComp kx vx [⟨t0, i0, ifs0, 0⟩, ⟨t1, i1, ifs1, 0⟩] scope pos) 0 it acc env)) := by rfl
theorem turn2_in (kx vx t0 i0 t1 i1 : Expr) (ifs0 ifs1 : List Expr) (scope : Scope) (pos : Pos) (it : Value) (D : Addr) (env : Env) :
    compTurn (.DictComp kx vx [⟨t0, i0, ifs0, 0⟩, ⟨t1, i1, ifs1, 0⟩] scope pos) 1 it (.ref D) env = (do
      standAt i1.pos
      match ← pyNext it with
      | none => pure (.done .next)
      | some v =>
        letOwnedTupleGo t1 it v
        assign t1 env v
        let mut ok := true
        for c in ifs1 do
          if ok then ok ← isTrue c env (eval c env)
        if ok then
          (do
            let kv ← eval kx env
            let vv ← holding [kv] (eval vx env)
            standAt { kx.pos with endLine := vx.pos.endLine, endCol := vx.pos.endCol }
            holding [kv, vv] (dictSet D kv vv))
        again (.compLoop (.DictComp kx vx [⟨t0, i0, ifs0, 0⟩, ⟨t1, i1, ifs1, 0⟩] scope pos) 1 it (.ref D) env)) := by rfl
section
variable {prog : Program} {w : World} {A : Around} {R : Result → Shared → Prop} {s : Shared} {kx vx t0 i0 t1 i1 : Expr} {ifs0 ifs1 : List Expr} {scope : Scope} {pos : Pos} {it acc : Value} {D : Addr} {env : Env}
theorem loop2_out (hs : ∀ x, foldedSetIterable i1 env x = pure x) (I : Nat → Shared → Prop)
    (turn : ∀ n s, I n s → wpAny (model prog w) A (pyNext it) (fun r s₁ => match r with
      | none => R (.ok .next) s₁
      | some v => wpAny (model prog w) A (letOwnedTupleGo t0 it v) (fun _ s₂ => wpAny (model prog w) A (assign t0 env v) (fun _ s₃ => wpAny (model prog w) A (forIn ifs0 true fun c r => if r = true then do let ok ← isTrue c env (eval c env); pure (ForInStep.yield ok) else pure (ForInStep.yield r)) (fun ok s₄ =>
          if ok = true then wpAny (model prog w) A (eval i1 env) (fun x s₅ => wpAny (model prog w) A (pyIter x) (fun j s₆ =>
            codeAny (model prog w) A (.compStart (.DictComp kx vx [⟨t0, i0, ifs0, 0⟩, ⟨t1, i1, ifs1, 0⟩] scope pos) 1 j acc env) (fun r s' => match r with
              | .ok _ => ∃ m, m < n ∧ I m s'
              | .error _ => False) s₆) (notedBy (model prog w) A env fun e s' => R (.error e) s') s₅) (notedBy (model prog w) A env fun e s' => R (.error e) s') s₄
          else ∃ m, m < n ∧ I m s₄) (notedBy (model prog w) A env fun e s' => R (.error e) s') s₃) (notedBy (model prog w) A env fun e s' => R (.error e) s') s₂) (notedBy (model prog w) A env fun e s' => R (.error e) s') s₁) (notedBy (model prog w) A env fun e s' => R (.error e) s') s)
    (n : Nat) (h : I n s) : codeAny (model prog w) A (.compLoop (.DictComp kx vx [⟨t0, i0, ifs0, 0⟩, ⟨t1, i1, ifs1, 0⟩] scope pos) 0 it acc env) R s := by
  refine codeAny_loop rfl I (fun n s hI => ?_) n h
  show wpAny _ A ((compTurn (.DictComp kx vx [⟨t0, i0, ifs0, 0⟩, ⟨t1, i1, ifs1, 0⟩] scope pos) 0 it acc env).onRaise (fun x => do noteFrame x env; theTreesLotGoes x)) _ _ s
  refine wpAny_noted ?_
  rw [turn2_out]
  refine wpAny_bind (wpAny_standAt (wpAny_bind (wpAny_mono (turn n s hI) (fun r s₁ h₁ => ?_) fun _ _ z => z)))
  match r, h₁ with
  | none, h₁ => exact wpAny_pure h₁
  | some v, h₁ =>
    refine wpAny_bind (wpAny_mono h₁ (fun _ s₂ h₂ => wpAny_bind (wpAny_mono h₂ (fun _ s₃ h₃ => wpAny_bind (wpAny_mono h₃ (fun ok s₄ h₄ => ?_) fun _ _ z => z)) fun _ _ z => z)) fun _ _ z => z)
    cases ok with
    | false => exact wpAny_pure ⟨rfl, h₄⟩
    | true =>
      refine wpAny_bind (wpAny_mono h₄ (fun x s₅ h₅ => ?_) fun _ _ z => z)
      refine wpAny_bind (wpAny_standAt (wpAny_bind (wpAny_of_eq (hs x) (wpAny_bind (wpAny_holding (wpAny_mono h₅ (fun j s₆ h₆ => ?_) fun _ _ z => z))))))
      refine wpAny_bind (wpAny_runOwn ?_)
      rw [Around.mark_none]
      refine codeAny_mono h₆ fun r s' hr => ?_
      match r, hr with
      | .ok f, hr =>
        first
          | exact wpAny_pure ⟨rfl, hr⟩
          | exact wpAny_bind (wpAny_pure (wpAny_pure ⟨rfl, hr⟩))
      | .error e, hr => exact hr.elim
theorem loop2_in (I : Nat → Shared → Prop)
    (turn : ∀ n s, I n s → wpAny (model prog w) A (pyNext it) (fun r s₁ => match r with
      | none => R (.ok .next) s₁
      | some v => wpAny (model prog w) A (letOwnedTupleGo t1 it v) (fun _ s₂ => wpAny (model prog w) A (assign t1 env v) (fun _ s₃ => wpAny (model prog w) A (forIn ifs1 true fun c r => if r = true then do let ok ← isTrue c env (eval c env); pure (ForInStep.yield ok) else pure (ForInStep.yield r)) (fun ok s₄ =>
          if ok = true then wpAny (model prog w) A (eval kx env) (fun kv s₅ => wpAny (model prog w) A (eval vx env) (fun vv s₆ => wpAny (model prog w) A (dictSet D kv vv) (fun _ s₇ => ∃ m, m < n ∧ I m s₇) (notedBy (model prog w) A env fun e s' => R (.error e) s') s₆) (notedBy (model prog w) A env fun e s' => R (.error e) s') s₅) (notedBy (model prog w) A env fun e s' => R (.error e) s') s₄
          else ∃ m, m < n ∧ I m s₄) (notedBy (model prog w) A env fun e s' => R (.error e) s') s₃) (notedBy (model prog w) A env fun e s' => R (.error e) s') s₂) (notedBy (model prog w) A env fun e s' => R (.error e) s') s₁) (notedBy (model prog w) A env fun e s' => R (.error e) s') s)
    (n : Nat) (h : I n s) : codeAny (model prog w) A (.compLoop (.DictComp kx vx [⟨t0, i0, ifs0, 0⟩, ⟨t1, i1, ifs1, 0⟩] scope pos) 1 it (.ref D) env) R s := by
  refine codeAny_loop rfl I (fun n s hI => ?_) n h
  show wpAny _ A ((compTurn (.DictComp kx vx [⟨t0, i0, ifs0, 0⟩, ⟨t1, i1, ifs1, 0⟩] scope pos) 1 it (.ref D) env).onRaise (fun x => do noteFrame x env; theTreesLotGoes x)) _ _ s
  refine wpAny_noted ?_
  rw [turn2_in]
  refine wpAny_bind (wpAny_standAt (wpAny_bind (wpAny_mono (turn n s hI) (fun r s₁ h₁ => ?_) fun _ _ z => z)))
  match r, h₁ with
  | none, h₁ => exact wpAny_pure h₁
  | some v, h₁ =>
    refine wpAny_bind (wpAny_mono h₁ (fun _ s₂ h₂ => wpAny_bind (wpAny_mono h₂ (fun _ s₃ h₃ => wpAny_bind (wpAny_mono h₃ (fun ok s₄ h₄ => ?_) fun _ _ z => z)) fun _ _ z => z)) fun _ _ z => z)
    cases ok with
    | false => exact wpAny_pure ⟨rfl, h₄⟩
    | true =>
      exact wpAny_bind (wpAny_bind (wpAny_mono h₄ (fun kv s₅ h₅ => wpAny_bind (wpAny_holding (wpAny_mono h₅ (fun vv s₆ h₆ => wpAny_bind (wpAny_standAt (wpAny_holding (wpAny_mono h₆ (fun _ s₇ h₇ => wpAny_pure ⟨rfl, h₇⟩) fun _ _ z => z)))) fun _ _ z => z))) fun _ _ z => z))
theorem start2 (h0 : codeAny (model prog w) A (.compLoop (.DictComp kx vx [⟨t0, i0, ifs0, 0⟩, ⟨t1, i1, ifs1, 0⟩] scope pos) 1 it acc env) R s)
    (h : wpAny (model prog w) A (pyIter it) (fun j s' => codeAny (model prog w) A (.compLoop (.DictComp kx vx [⟨t0, i0, ifs0, 0⟩, ⟨t1, i1, ifs1, 0⟩] scope pos) 1 j acc env) R s') (notedBy (model prog w) A env fun x s' => R (.error x) s') s) :
    codeAny (model prog w) A (.compStart (.DictComp kx vx [⟨t0, i0, ifs0, 0⟩, ⟨t1, i1, ifs1, 0⟩] scope pos) 1 it acc env) R s := by
  refine codeAny_of_tree ?_
  show wpAny _ _ ((compStart (.DictComp kx vx [⟨t0, i0, ifs0, 0⟩, ⟨t1, i1, ifs1, 0⟩] scope pos) 1 it acc env).onRaise (fun x => do noteFrame x env; standAt theWindowsPlace)) _ _ s
  refine wpAny_notedAt ?_
  unfold compStart
  show wpAny _ _ (ask >>= _) _ _ s
  refine wpAny_bind (wpAny_askSetting (wpAny_ite ?_))
  split
  · first
      | exact wpAny_bind (wpAny_pure (wpAny_pure (And.intro rfl h0)))
      | exact wpAny_pure (And.intro rfl h0)
  · first
      | exact wpAny_bind (wpAny_rule (wpAny_bind (wpAny_standAt (wpAny_bind (wpAny_mono h (fun j s' z => wpAny_pure (And.intro rfl z)) fun _ _ z => z)))))
      | (refine wpAny_bind (wpAny_rule ?_); show wpAny _ _ (standAt i1.pos >>= _) _ _ s; exact wpAny_bind (wpAny_standAt (wpAny_bind (wpAny_mono h (fun j s' z => wpAny_pure (And.intro rfl z)) fun _ _ z => z))))
end
section
variable {X : Cx}
def tDp1 (o0 : HO) (wi : TI) (g : TG) (tt : TT) (tk tv : TE) (vs : List Nat) : TE := fun σ H Q => wi σ H fun J H1 => ∀ D, H1 D = none → ∃ W : Nat → Nat → Hp → Prop, (∃ m, W 0 m (upd H1 D o0)) ∧ ∀ i m H, W i m H →
  (J.stop i H ∧ Q (.ref D) H) ∨ (J.go i H ∧ ∃ Nx : Hp → Prop, (∀ H', Nx H' → ∃ m', m' < m ∧ W (i + 1) m' H') ∧ ∀ x H', J.yld i H x H' → g x (wipe σ vs) H' fun σ2 H2 => wipe σ2 vs = wipe σ vs ∧ tt σ2 H2 fun b H3 =>
    if b = true then tk σ2 H3 fun y H4 => tv σ2 H4 fun z H5 => ∃ H6, DPut H5 D y z H6 ∧ Nx H6 else Nx H3)
theorem dp1_core {pins : List (Addr × Obj)} {s : Shared} {σ : L2.St} {H : Hp} {Q : VK} {use : Option (Value → Sem Unit)} {Qf : Value → Shared → Prop} {pos' : Pos} {kx vx tg iter : Expr} {ifs : List Expr} {scope : Scope} {own : List (Str × Nat)} {pos : Pos} {o0 : HO} {wi : TI} {g : TG} {tt : TT} {tk tv : TE} (hc : X.calm = true) (hu : X.A.units + 1 < cLine) (hN : X.N.Nodup) (I : Inv X pins σ H s) (hi : PI X tg iter wi) (ok : BlkOk X.N X.env.scope scope own)
    (hg : ∀ (s : Shared) (H : Hp) (C : Addr) (cl : List (Str × Addr)) (fp : List Addr), PG (X.blk s H scope (compEnvC scope cl C X.env) fp) tg g) (ht : ∀ (s : Shared) (H : Hp) (C : Addr) (cl : List (Str × Addr)) (fp : List Addr), PTs (X.blk s H scope (compEnvC scope cl C X.env) fp) ifs tt)
    (hk : ∀ (s : Shared) (H : Hp) (C : Addr) (cl : List (Str × Addr)) (fp : List Addr), PE (X.blk s H scope (compEnvC scope cl C X.env) fp) kx tk) (he : ∀ (s : Shared) (H : Hp) (C : Addr) (cl : List (Str × Addr)) (fp : List Addr), PE (X.blk s H scope (compEnvC scope cl C X.env) fp) vx tv)
    (ho : o0 = .dK [] ∨ o0 = .dT []) (hs : ∀ x, foldedSetIterable iter X.env x = pure x)
    (h : tDp1 o0 wi g tt tk tv (own.map (·.2)) σ H Q)
    (hRR : ∀ D C s' m H', Inv X pins σ H' s' → Q (.ref D) H' → s'.heap.Ns C m → FpOk X pins H' C → compPost (model X.prog X.w) X.A X.xe use Qf (.ref D) C (.ok .next) s') :
    wpAny (model X.prog X.w) X.A (comprehension (.DictComp kx vx [⟨tg, iter, ifs, 0⟩] scope pos) scope X.env pos' newDict false (eval iter X.env) use) Qf X.xe s := by
  have hfree : ∀ y ∈ scope.names, y.2 = .free → ∃ c, X.env.cells.lookup y.1 = some c := fun y hy e => I.ok.has _ (ok.free y hy e)
  refine wpAny_comprehension_free (use := use) rfl hs (closure_ok hfree) ok.kind (fun y hy e => by rw [ok.uniq y hy, e]) (thn (hi.run pins s σ H _ I h) fun xv s1 hx => thn hx fun itv s2 h2 => ?_)
  obtain ⟨it, fp, tn, J, H2, e, I2, T, st2, f2, q⟩ := h2
  subst e
  refine wpAny_newObj_type (newEnv_comp ?_)
  generalize hD : s2.heap.objs.size = D
  obtain ⟨W, ⟨m0, w0⟩, turn⟩ := q D (I2.hok.fresh (Nat.le_of_eq hD))
  generalize hs3 : ({ s2 with heap := s2.heap.push { cls := .type "dict", data := .dict #[] } } : Shared) = s3
  have h3 : s3.heap = s2.heap.push { cls := .type "dict", data := .dict #[] } := by rw [← hs3]
  have I3 : Inv X pins σ (upd H2 D o0) s3 := by
    rw [← hs3]
    refine I2.laid (t' := s2.toks) (fun b o e => Heap.get?_push_of_some _ e) (Nat.le_of_eq hD) ?_
    rw [← hD]
    rcases ho with z | z
    · rw [z]; exact dk_empty s2.heap I2.big
    · rw [z]; exact dt_empty s2.heap I2.big
  have f3 : ∀ b ∈ fp, FpOk X pins (upd H2 D o0) b ∧ b < s3.heap.objs.size := fun b hb => by
    obtain ⟨o, e, _⟩ := T.obj _ _ st2 b hb
    have hlt := Heap.lt_size e
    refine ⟨⟨?_, (f2 b hb).2⟩, by rw [h3, Heap.size_push]; exact Nat.lt_succ_of_lt hlt⟩
    rw [upd_ne (by rw [← hD]; exact Nat.ne_of_lt hlt)]
    exact (f2 b hb).1
  have st3 : tn 0 s3.heap := T.keep _ _ _ st2 fun b _ o e => by rw [h3]; exact Heap.get?_push_of_some _ e
  generalize hH3 : upd H2 D o0 = H3 at I3 f3 w0
  have I4 := block_start I3 ok hN f3
  have pg := hg s3 H3 s3.heap.objs.size (cellsFrom (s3.heap.objs.size + 1) scope.names (cloFrom X.env.cells scope.names [])) fp
  have pt := ht s3 H3 s3.heap.objs.size (cellsFrom (s3.heap.objs.size + 1) scope.names (cloFrom X.env.cells scope.names [])) fp
  have pk := hk s3 H3 s3.heap.objs.size (cellsFrom (s3.heap.objs.size + 1) scope.names (cloFrom X.env.cells scope.names [])) fp
  have pe := he s3 H3 s3.heap.objs.size (cellsFrom (s3.heap.objs.size + 1) scope.names (cloFrom X.env.cells scope.names [])) fp
  have nfp : ∀ b ∈ fp, H3 b = none := fun b hb => (f3 b hb).1.1
  show codeAny _ _ (.compStart (.DictComp kx vx [⟨tg, iter, ifs, 0⟩] scope pos) 0 (.ref it) (.ref D) (compEnvC scope (cellsFrom (s3.heap.objs.size + 1) scope.names (cloFrom X.env.cells scope.names [])) s3.heap.objs.size X.env)) _ { s3 with heap := pushCells (s3.heap.push { cls := .type "dict", data := .dict #[] }) scope.names }
  generalize hce : compEnvC scope (cellsFrom (s3.heap.objs.size + 1) scope.names (cloFrom X.env.cells scope.names [])) s3.heap.objs.size X.env = ce at I4 pg pt pk pe ⊢
  have cL : ce.locals = s3.heap.objs.size := by subst hce; rfl
  generalize hs4 : ({ s3 with heap := pushCells (s3.heap.push { cls := .type "dict", data := .dict #[] }) scope.names } : Shared) = s4 at I4 ⊢
  have st4 : tn 0 s4.heap := T.keep _ _ _ st3 fun b _ o e => by rw [← hs4]; exact pushCells_keeps _ _ _ _ (Heap.get?_push_of_some _ e)
  have stat : ∀ {σ' : L2.St} {H' : Hp} {s' : Shared}, Inv (X.blk s3 H3 scope ce fp) [] σ' H' s' → (∀ b ∈ fp, H' b = none) → ∀ b ∈ fp, FpOk (X.blk s3 H3 scope ce fp) [] H' b := fun {σ' H' s'} I' hn b hb =>
    ⟨hn b hb, (I'.ok.exf b hb).1, I'.ok.exfs b hb, .inl hb, fun x c e => (I'.ok.exf b hb).2 x c e, fun p hp => nomatch (show p ∈ ([] : List (Addr × Obj)) from hp)⟩
  have loop : codeAny (model X.prog X.w) X.A (.compLoop (.DictComp kx vx [⟨tg, iter, ifs, 0⟩] scope pos) 0 (.ref it) (.ref D) ce) (compPost (model X.prog X.w) X.A X.xe use Qf (.ref D) s3.heap.objs.size) s4 := by
    refine compLoop_anyD (fun n s' => ∃ i H', Inv (X.blk s3 H3 scope ce fp) [] (wipe σ (own.map (·.2))) H' s' ∧ tn i s'.heap ∧ (∀ b ∈ fp, H' b = none) ∧ W i n H') ?_ m0 ⟨0, H3, I4, st4, nfp, w0⟩
    rintro n s5 ⟨i, H5, I5, st5, n5, w5⟩
    rcases turn i n H5 w5 with ⟨stop, qq⟩ | ⟨go, Nx, hNx, step⟩
    · refine thnF (T.done (X.blk s3 H3 scope ce fp) rfl rfl rfl hc i [] s5 _ H5 (fun _ _ => False) I5 (stat I5 n5) st5 stop) fun r s6 ⟨hr, I6⟩ => ?_
      subst hr
      have I7 : Inv X pins σ H5 s6 := I3.call' (ch := fp) I6.os I6.base I6.hok I6.bare fun b hb => ⟨(f3 b hb).1.2.2.2.1, (f3 b hb).1.2.1, (f3 b hb).1.2.2.2.2.1, (f3 b hb).1.2.2.2.2.2⟩
      have nC : H5 s3.heap.objs.size = none := by
        have z : H5 ce.locals = none := I6.free
        rw [cL] at z
        exact z
      obtain ⟨m, hn, _⟩ := I6.loc
      have hn : s6.heap.Ns ce.locals m := hn
      rw [cL] at hn
      exact hRR D s3.heap.objs.size s6 m H5 I7 qq hn (I3.fpOk (Nat.le_refl _) nC)
    · refine thnF (T.item (X.blk s3 H3 scope ce fp) rfl rfl rfl hc i [] s5 _ H5 (fun _ _ => False) I5 (stat I5 n5) st5 go) fun r s6 ⟨u, hr, h6⟩ => ?_
      subst hr
      refine thnF h6 fun _ s7 ⟨x, H7, I7, r7, y7, st7, n7⟩ => ?_
      have I7' := I7.pinned (stat I7 n7) (T.obj _ _ st7)
      refine thnF (pg.run _ s7 _ H7 x u _ I7' r7 (step x H7 y7)) fun _ s8 ⟨σ8, H8, I8, hw8, q8⟩ => ?_
      refine thnF (pt.run _ s8 σ8 H8 _ I8 q8) fun b s9 ⟨H9, I9, q9⟩ => ?_
      have fin : ∀ {σ9 : L2.St} {s' : Shared} {H' : Hp}, Inv (X.blk s3 H3 scope ce fp) ([] ++ pinsAt fp s7.heap) σ9 H' s' → (wipe σ (own.map (·.2))).length = σ9.length → (∀ (j : Nat) v, (wipe σ (own.map (·.2)))[j]? = some (some v) → σ9[j]? = some (some v)) → Nx H' →
          ∃ m, m < n ∧ ∃ i H', Inv (X.blk s3 H3 scope ce fp) [] (wipe σ (own.map (·.2))) H' s' ∧ tn i s'.heap ∧ (∀ b ∈ fp, H' b = none) ∧ W i m H' := fun {σ9 s' H'} I' hl hk nx => by
        obtain ⟨m', hm, w'⟩ := hNx H' nx
        have pin' : ∀ b ∈ fp, ∀ o, s7.heap.get? b = some o → s'.heap.get? b = some o ∧ H' b = none := fun b hb o e => by
          have z := I'.pin (b, o) (List.mem_append_right _ (List.mem_append_right _ (mem_pinsAt hb e)))
          exact ⟨z.1, z.2.1⟩
        refine ⟨m', hm, i + 1, H', (I'.unpinned (pins := [])).weak hl hk, T.keep _ _ _ st7 fun b hb o e => (pin' b hb o e).1, fun b hb => ?_, w'⟩
        obtain ⟨o, e, _⟩ := T.obj _ _ st7 b hb
        exact (pin' b hb o e).2
      have hl8 : (wipe σ (own.map (·.2))).length = σ8.length := by rw [← hw8, wipe_length]
      have hk8 : ∀ (j : Nat) v, (wipe σ (own.map (·.2)))[j]? = some (some v) → σ8[j]? = some (some v) := fun j v e => by
        rw [← hw8] at e
        exact (wipe_some e).1
      cases b with
      | false =>
        simp only [Bool.false_eq_true, if_false] at q9 ⊢
        exact fin I9 hl8 hk8 q9
      | true =>
        simp only [if_true] at q9 ⊢
        refine thnF (pk.run _ s9 σ8 H9 _ I9 q9) fun z s10 ⟨yk, H10, I10, r10, q10⟩ => ?_
        refine thnF (pe.run _ s10 σ8 H10 _ I10 q10) fun z2 s11 ⟨yv, H11, I11, r11, H12, put, nx⟩ => ?_
        exact d_setP (X := X.blk s3 H3 scope ce fp) hu I11 put r10 r11 fun s12 I12 => fin I12 hl8 hk8 nx
  exact codeAny_compStart_dict loop (T.self X.A 0 _ _ _ st4 loop)
theorem pe_dp1 {kx vx tg iter : Expr} {ifs : List Expr} {scope : Scope} {own : List (Str × Nat)} {pos : Pos} {o0 : HO} {wi : TI} {g : TG} {tt : TT} {tk tv : TE} (hc : X.calm = true) (hu : X.A.units + 1 < cLine) (hN : X.N.Nodup) (hi : PI X tg iter wi) (ok : BlkOk X.N X.env.scope scope own)
    (hg : ∀ (s : Shared) (H : Hp) (C : Addr) (cl : List (Str × Addr)) (fp : List Addr), PG (X.blk s H scope (compEnvC scope cl C X.env) fp) tg g) (ht : ∀ (s : Shared) (H : Hp) (C : Addr) (cl : List (Str × Addr)) (fp : List Addr), PTs (X.blk s H scope (compEnvC scope cl C X.env) fp) ifs tt)
    (hk : ∀ (s : Shared) (H : Hp) (C : Addr) (cl : List (Str × Addr)) (fp : List Addr), PE (X.blk s H scope (compEnvC scope cl C X.env) fp) kx tk) (he : ∀ (s : Shared) (H : Hp) (C : Addr) (cl : List (Str × Addr)) (fp : List Addr), PE (X.blk s H scope (compEnvC scope cl C X.env) fp) vx tv)
    (ho : o0 = .dK [] ∨ o0 = .dT []) (hs : ∀ x, foldedSetIterable iter X.env x = pure x := by intro _; rfl) :
    PE X (.DictComp kx vx [⟨tg, iter, ifs, 0⟩] scope pos) (tDp1 o0 wi g tt tk tv (own.map (·.2))) := by
  refine ⟨fun pins s σ H Q I h => ?_⟩
  rw [arm_eval_DictComp]
  refine dp1_core hc hu hN I hi ok hg ht hk he ho hs h fun D C s' m H' I' q hn f => ⟨m, hn, fun h'' sb => ?_⟩
  obtain ⟨f0, f1, f2, f3, f4, f5⟩ := f
  exact ⟨.ref D, H', I'.turned (t' := s'.toks) (fun b o hb e => (sb.2 b hb).trans e) f0 f1 f3 f4 f5, rfl, q⟩
theorem ps_setDp1 {i : Nat} {y : Str} {py spos : Pos} {kx vx tg iter : Expr} {ifs : List Expr} {scope : Scope} {own : List (Str × Nat)} {pos : Pos} {o0 : HO} {wi : TI} {g : TG} {tt : TT} {tk tv : TE} (hc : X.calm = true) (hu : X.A.units + 1 < cLine) (hN : X.N.Nodup) (hy : X.N[i]? = some y) (hyl : X.env.scope.names.lookup y = some .local)
    (hsw : swapsWith (.DictComp kx vx [⟨tg, iter, ifs, 0⟩] scope pos) (some (.Name y py)) spos.line X.env = pure true) (hi : PI X tg iter wi) (ok : BlkOk X.N X.env.scope scope own)
    (hg : ∀ (s : Shared) (H : Hp) (C : Addr) (cl : List (Str × Addr)) (fp : List Addr), PG (X.blk s H scope (compEnvC scope cl C X.env) fp) tg g) (ht : ∀ (s : Shared) (H : Hp) (C : Addr) (cl : List (Str × Addr)) (fp : List Addr), PTs (X.blk s H scope (compEnvC scope cl C X.env) fp) ifs tt)
    (hk : ∀ (s : Shared) (H : Hp) (C : Addr) (cl : List (Str × Addr)) (fp : List Addr), PE (X.blk s H scope (compEnvC scope cl C X.env) fp) kx tk) (he : ∀ (s : Shared) (H : Hp) (C : Addr) (cl : List (Str × Addr)) (fp : List Addr), PE (X.blk s H scope (compEnvC scope cl C X.env) fp) vx tv)
    (ho : o0 = .dK [] ∨ o0 = .dT []) (hs : ∀ x, foldedSetIterable iter X.env x = pure x := by intro _; rfl) :
    PS X (.Assign [.Name y py] (.DictComp kx vx [⟨tg, iter, ifs, 0⟩] scope pos) spos) (tAsg (tDp1 o0 wi g tt tk tv (own.map (·.2))) (gName i)) := by
  refine ⟨fun pins s σ H D I h => ?_⟩
  rw [exec_Assign_Name_used _ _ _ _ hsw]
  refine wpAny_bind (wpAny_standAt (wpAny_bind ?_))
  show wpAny _ X.A (do let _ ← comprehension (.DictComp kx vx [⟨tg, iter, ifs, 0⟩] scope pos) scope X.env (firstIterPos [⟨tg, iter, ifs, 0⟩] pos) newDict false (eval iter X.env) (some (assign (.Name y py) X.env))) _ _ s
  have h : tDp1 o0 wi g tt tk tv (own.map (·.2)) σ H (fun x H1 => gName i x σ H1 D.nx) := h
  refine wpAny_bind (thn (dp1_core (Qf := fun _ s' => SP X pins D .next s') hc hu hN I hi ok hg ht hk he ho hs h fun L C s' m H' I' q hn f => ?_) fun _ s' hq => wpAny_pure (wpAny_pure hq))
  show wpAny _ _ (assign (.Name y py) X.env (.ref L)) _ _ _
  refine wpAny_assign_Name (store_ok2 (v := V.ref L) I' hN hy (.inl hyl) rfl (fun s2 I2 ⟨a, sb, ha⟩ => ?_) (.inr hyl))
  obtain ⟨f0, f1, f2, f3, f4, f5⟩ := f
  have haC : C ≠ a := by
    rcases ha with z | z
    · rw [z]; exact f1
    · exact fun e => f4 y a z e.symm
  refine ⟨m, hn.sameBut sb haC, fun h3 sb3 => ?_⟩
  exact ⟨_, H', I2.turned (t' := s2.toks) (fun b o hb e => (sb3.2 b hb).trans e) f0 f1 f3 f4 f5, q⟩
def tDp2 (o0 : HO) (wi : TI) (g : TG) (tt : TT) (wi1 : TI) (g1 : TG) (tt1 : TT) (tk tv : TE) (vs vs1 : List Nat) : TE := fun σ H Q => wi σ H fun J H1 => ∀ D, H1 D = none → ∃ W : Nat → Nat → Hp → Prop, (∃ m, W 0 m (upd H1 D o0)) ∧ ∀ i m H, W i m H →
  (J.stop i H ∧ Q (.ref D) H) ∨ (J.go i H ∧ ∃ Nx : Hp → Prop, (∀ H', Nx H' → ∃ m', m' < m ∧ W (i + 1) m' H') ∧ ∀ x H', J.yld i H x H' → g x (wipe σ vs) H' fun σ2 H2 => wipe σ2 vs = wipe σ vs ∧ tt σ2 H2 fun b H3 =>
    if b = true then wi1 σ2 H3 fun J1 H4 => ∃ W1 : Nat → Nat → Hp → Prop, (∃ m, W1 0 m H4) ∧ ∀ j k H, W1 j k H →
      (J1.stop j H ∧ Nx H) ∨ (J1.go j H ∧ ∃ Nx1 : Hp → Prop, (∀ H', Nx1 H' → ∃ k', k' < k ∧ W1 (j + 1) k' H') ∧ ∀ x H', J1.yld j H x H' → g1 x (wipe σ2 vs1) H' fun σ3 H5 => wipe σ3 vs1 = wipe σ2 vs1 ∧ tt1 σ3 H5 fun b H6 =>
        if b = true then tk σ3 H6 fun y H7 => tv σ3 H7 fun z H8 => ∃ H9, DPut H8 D y z H9 ∧ Nx1 H9 else Nx1 H6)
    else Nx H3)
theorem dp2_core {pins : List (Addr × Obj)} {s : Shared} {σ : L2.St} {H : Hp} {Q : VK} {use : Option (Value → Sem Unit)} {Qf : Value → Shared → Prop} {pos' : Pos} {kx vx tg iter tg1 iter1 : Expr} {ifs ifs1 : List Expr} {scope : Scope} {own : List (Str × Nat)} {vs1 : List Nat} {pos : Pos} {o0 : HO} {wi wi1 : TI} {g g1 : TG} {tt tt1 : TT} {tk tv : TE} (hc : X.calm = true) (hu : X.A.units + 1 < cLine) (hN : X.N.Nodup) (I : Inv X pins σ H s) (hi : PI X tg iter wi) (ok : BlkOk X.N X.env.scope scope own) (hv : ∀ i ∈ vs1, i ∈ own.map (·.2))
    (hg : ∀ (s : Shared) (H : Hp) (C : Addr) (cl : List (Str × Addr)) (fp : List Addr), PG (X.blk s H scope (compEnvC scope cl C X.env) fp) tg g) (ht : ∀ (s : Shared) (H : Hp) (C : Addr) (cl : List (Str × Addr)) (fp : List Addr), PTs (X.blk s H scope (compEnvC scope cl C X.env) fp) ifs tt)
    (hi1 : ∀ (s : Shared) (H : Hp) (C : Addr) (cl : List (Str × Addr)) (fp : List Addr), PI (X.blk s H scope (compEnvC scope cl C X.env) fp) tg1 iter1 wi1) (hg1 : ∀ (s : Shared) (H : Hp) (C : Addr) (cl : List (Str × Addr)) (fp : List Addr), PG (X.blk s H scope (compEnvC scope cl C X.env) fp) tg1 g1) (ht1 : ∀ (s : Shared) (H : Hp) (C : Addr) (cl : List (Str × Addr)) (fp : List Addr), PTs (X.blk s H scope (compEnvC scope cl C X.env) fp) ifs1 tt1)
    (hk : ∀ (s : Shared) (H : Hp) (C : Addr) (cl : List (Str × Addr)) (fp : List Addr), PE (X.blk s H scope (compEnvC scope cl C X.env) fp) kx tk) (he : ∀ (s : Shared) (H : Hp) (C : Addr) (cl : List (Str × Addr)) (fp : List Addr), PE (X.blk s H scope (compEnvC scope cl C X.env) fp) vx tv)
    (ho : o0 = .dK [] ∨ o0 = .dT []) (hs : ∀ x, foldedSetIterable iter X.env x = pure x) (hs1 : ∀ env x, foldedSetIterable iter1 env x = pure x)
    (h : tDp2 o0 wi g tt wi1 g1 tt1 tk tv (own.map (·.2)) vs1 σ H Q)
    (hRR : ∀ D C s' m H', Inv X pins σ H' s' → Q (.ref D) H' → s'.heap.Ns C m → FpOk X pins H' C → compPost (model X.prog X.w) X.A X.xe use Qf (.ref D) C (.ok .next) s') :
    wpAny (model X.prog X.w) X.A (comprehension (.DictComp kx vx [⟨tg, iter, ifs, 0⟩, ⟨tg1, iter1, ifs1, 0⟩] scope pos) scope X.env pos' newDict false (eval iter X.env) use) Qf X.xe s := by
  have hfree : ∀ y ∈ scope.names, y.2 = .free → ∃ c, X.env.cells.lookup y.1 = some c := fun y hy e => I.ok.has _ (ok.free y hy e)
  refine wpAny_comprehension_free (use := use) rfl hs (closure_ok hfree) ok.kind (fun y hy e => by rw [ok.uniq y hy, e]) (thn (hi.run pins s σ H _ I h) fun xv s1 hx => thn hx fun itv s2 h2 => ?_)
  obtain ⟨it, fp, tn, J, H2, e, I2, T, st2, f2, q⟩ := h2
  subst e
  refine wpAny_newObj_type (newEnv_comp ?_)
  generalize hD : s2.heap.objs.size = D
  obtain ⟨W, ⟨m0, w0⟩, turn⟩ := q D (I2.hok.fresh (Nat.le_of_eq hD))
  generalize hs3 : ({ s2 with heap := s2.heap.push { cls := .type "dict", data := .dict #[] } } : Shared) = s3
  have h3 : s3.heap = s2.heap.push { cls := .type "dict", data := .dict #[] } := by rw [← hs3]
  have I3 : Inv X pins σ (upd H2 D o0) s3 := by
    rw [← hs3]
    refine I2.laid (t' := s2.toks) (fun b o e => Heap.get?_push_of_some _ e) (Nat.le_of_eq hD) ?_
    rw [← hD]
    rcases ho with z | z
    · rw [z]; exact dk_empty s2.heap I2.big
    · rw [z]; exact dt_empty s2.heap I2.big
  have f3 : ∀ b ∈ fp, FpOk X pins (upd H2 D o0) b ∧ b < s3.heap.objs.size := fun b hb => by
    obtain ⟨o, e, _⟩ := T.obj _ _ st2 b hb
    have hlt := Heap.lt_size e
    refine ⟨⟨?_, (f2 b hb).2⟩, by rw [h3, Heap.size_push]; exact Nat.lt_succ_of_lt hlt⟩
    rw [upd_ne (by rw [← hD]; exact Nat.ne_of_lt hlt)]
    exact (f2 b hb).1
  have st3 : tn 0 s3.heap := T.keep _ _ _ st2 fun b _ o e => by rw [h3]; exact Heap.get?_push_of_some _ e
  generalize hH3 : upd H2 D o0 = H3 at I3 f3 w0
  have I4 := block_start I3 ok hN f3
  have pg := hg s3 H3 s3.heap.objs.size (cellsFrom (s3.heap.objs.size + 1) scope.names (cloFrom X.env.cells scope.names [])) fp
  have pt := ht s3 H3 s3.heap.objs.size (cellsFrom (s3.heap.objs.size + 1) scope.names (cloFrom X.env.cells scope.names [])) fp
  have pi1 := hi1 s3 H3 s3.heap.objs.size (cellsFrom (s3.heap.objs.size + 1) scope.names (cloFrom X.env.cells scope.names [])) fp
  have pg1 := hg1 s3 H3 s3.heap.objs.size (cellsFrom (s3.heap.objs.size + 1) scope.names (cloFrom X.env.cells scope.names [])) fp
  have pt1 := ht1 s3 H3 s3.heap.objs.size (cellsFrom (s3.heap.objs.size + 1) scope.names (cloFrom X.env.cells scope.names [])) fp
  have pk := hk s3 H3 s3.heap.objs.size (cellsFrom (s3.heap.objs.size + 1) scope.names (cloFrom X.env.cells scope.names [])) fp
  have pe := he s3 H3 s3.heap.objs.size (cellsFrom (s3.heap.objs.size + 1) scope.names (cloFrom X.env.cells scope.names [])) fp
  have nfp : ∀ b ∈ fp, H3 b = none := fun b hb => (f3 b hb).1.1
  show codeAny _ _ (.compStart (.DictComp kx vx [⟨tg, iter, ifs, 0⟩, ⟨tg1, iter1, ifs1, 0⟩] scope pos) 0 (.ref it) (.ref D) (compEnvC scope (cellsFrom (s3.heap.objs.size + 1) scope.names (cloFrom X.env.cells scope.names [])) s3.heap.objs.size X.env)) _ { s3 with heap := pushCells (s3.heap.push { cls := .type "dict", data := .dict #[] }) scope.names }
  generalize hce : compEnvC scope (cellsFrom (s3.heap.objs.size + 1) scope.names (cloFrom X.env.cells scope.names [])) s3.heap.objs.size X.env = ce at I4 pg pt pi1 pg1 pt1 pk pe ⊢
  have cL : ce.locals = s3.heap.objs.size := by subst hce; rfl
  generalize hs4 : ({ s3 with heap := pushCells (s3.heap.push { cls := .type "dict", data := .dict #[] }) scope.names } : Shared) = s4 at I4 ⊢
  have st4 : tn 0 s4.heap := T.keep _ _ _ st3 fun b _ o e => by rw [← hs4]; exact pushCells_keeps _ _ _ _ (Heap.get?_push_of_some _ e)
  have stat : ∀ {σ' : L2.St} {H' : Hp} {s' : Shared}, Inv (X.blk s3 H3 scope ce fp) [] σ' H' s' → (∀ b ∈ fp, H' b = none) → ∀ b ∈ fp, FpOk (X.blk s3 H3 scope ce fp) [] H' b := fun {σ' H' s'} I' hn b hb =>
    ⟨hn b hb, (I'.ok.exf b hb).1, I'.ok.exfs b hb, .inl hb, fun x c e => (I'.ok.exf b hb).2 x c e, fun p hp => nomatch (show p ∈ ([] : List (Addr × Obj)) from hp)⟩
  have loop : codeAny (model X.prog X.w) X.A (.compLoop (.DictComp kx vx [⟨tg, iter, ifs, 0⟩, ⟨tg1, iter1, ifs1, 0⟩] scope pos) 0 (.ref it) (.ref D) ce) (compPost (model X.prog X.w) X.A X.xe use Qf (.ref D) s3.heap.objs.size) s4 := by
    refine loop2_out (hs1 ce) (fun n s' => ∃ i H', Inv (X.blk s3 H3 scope ce fp) [] (wipe σ (own.map (·.2))) H' s' ∧ tn i s'.heap ∧ (∀ b ∈ fp, H' b = none) ∧ W i n H') ?_ m0 ⟨0, H3, I4, st4, nfp, w0⟩
    rintro n s5 ⟨i, H5, I5, st5, n5, w5⟩
    rcases turn i n H5 w5 with ⟨stop, qq⟩ | ⟨go, Nx, hNx, step⟩
    · refine thnF (T.done (X.blk s3 H3 scope ce fp) rfl rfl rfl hc i [] s5 _ H5 (fun _ _ => False) I5 (stat I5 n5) st5 stop) fun r s6 ⟨hr, I6⟩ => ?_
      subst hr
      have I7 : Inv X pins σ H5 s6 := I3.call' (ch := fp) I6.os I6.base I6.hok I6.bare fun b hb => ⟨(f3 b hb).1.2.2.2.1, (f3 b hb).1.2.1, (f3 b hb).1.2.2.2.2.1, (f3 b hb).1.2.2.2.2.2⟩
      have nC : H5 s3.heap.objs.size = none := by
        have z : H5 ce.locals = none := I6.free
        rw [cL] at z
        exact z
      obtain ⟨m, hn, _⟩ := I6.loc
      have hn : s6.heap.Ns ce.locals m := hn
      rw [cL] at hn
      exact hRR D s3.heap.objs.size s6 m H5 I7 qq hn (I3.fpOk (Nat.le_refl _) nC)
    · refine thnF (T.item (X.blk s3 H3 scope ce fp) rfl rfl rfl hc i [] s5 _ H5 (fun _ _ => False) I5 (stat I5 n5) st5 go) fun r s6 ⟨u, hr, h6⟩ => ?_
      subst hr
      refine thnF h6 fun _ s7 ⟨x, H7, I7, r7, y7, st7, n7⟩ => ?_
      have I7' := I7.pinned (stat I7 n7) (T.obj _ _ st7)
      refine thnF (pg.run _ s7 _ H7 x u _ I7' r7 (step x H7 y7)) fun _ s8 ⟨σ8, H8, I8, hw8, q8⟩ => ?_
      refine thnF (pt.run _ s8 σ8 H8 _ I8 q8) fun b s9 ⟨H9, I9, q9⟩ => ?_
      have fin : ∀ {σ9 : L2.St} {s' : Shared} {H' : Hp}, Inv (X.blk s3 H3 scope ce fp) ([] ++ pinsAt fp s7.heap) σ9 H' s' → (wipe σ (own.map (·.2))).length = σ9.length → (∀ (j : Nat) v, (wipe σ (own.map (·.2)))[j]? = some (some v) → σ9[j]? = some (some v)) → Nx H' →
          ∃ m, m < n ∧ ∃ i H', Inv (X.blk s3 H3 scope ce fp) [] (wipe σ (own.map (·.2))) H' s' ∧ tn i s'.heap ∧ (∀ b ∈ fp, H' b = none) ∧ W i m H' := fun {σ9 s' H'} I' hl hk nx => by
        obtain ⟨m', hm, w'⟩ := hNx H' nx
        have pin' : ∀ b ∈ fp, ∀ o, s7.heap.get? b = some o → s'.heap.get? b = some o ∧ H' b = none := fun b hb o e => by
          have z := I'.pin (b, o) (List.mem_append_right _ (List.mem_append_right _ (mem_pinsAt hb e)))
          exact ⟨z.1, z.2.1⟩
        refine ⟨m', hm, i + 1, H', (I'.unpinned (pins := [])).weak hl hk, T.keep _ _ _ st7 fun b hb o e => (pin' b hb o e).1, fun b hb => ?_, w'⟩
        obtain ⟨o, e, _⟩ := T.obj _ _ st7 b hb
        exact (pin' b hb o e).2
      have hl8 : (wipe σ (own.map (·.2))).length = σ8.length := by rw [← hw8, wipe_length]
      have hk8 : ∀ (j : Nat) v, (wipe σ (own.map (·.2)))[j]? = some (some v) → σ8[j]? = some (some v) := fun j v e => by
        rw [← hw8] at e
        exact (wipe_some e).1
      have hk9 : ∀ (j : Nat) v, (wipe σ (own.map (·.2)))[j]? = some (some v) → (wipe σ8 vs1)[j]? = some (some v) := fun j v e => by
        rw [← hw8] at e
        obtain ⟨e1, e2⟩ := wipe_some e
        rw [wipe_out fun z => e2 (hv j z)]
        exact e1
      cases b with
      | false =>
        simp only [Bool.false_eq_true, if_false] at q9 ⊢
        exact fin I9 hl8 hk8 q9
      | true =>
        simp only [if_true] at q9 ⊢
        refine thnF (pi1.run _ s9 σ8 H9 _ I9 q9) fun xv s10 hx => thnF hx fun itv s11 h11 => ?_
        obtain ⟨it1, fp1, tn1, J1, H11, e1, I11, T1, st11, f11, W1, ⟨m1, w1⟩, turn1⟩ := h11
        subst e1
        have stat1 : ∀ {H' : Hp}, (∀ b ∈ fp1, H' b = none) → ∀ b ∈ fp1, FpOk (X.blk s3 H3 scope ce fp) ([] ++ pinsAt fp s7.heap) H' b := fun hn b hb => ⟨hn b hb, (f11 b hb).2⟩
        have loop1 : codeAny (model X.prog X.w) X.A (.compLoop (.DictComp kx vx [⟨tg, iter, ifs, 0⟩, ⟨tg1, iter1, ifs1, 0⟩] scope pos) 1 (.ref it1) (.ref D) ce)
            (fun r s' => match r with
              | .ok _ => ∃ m, m < n ∧ ∃ i H', Inv (X.blk s3 H3 scope ce fp) [] (wipe σ (own.map (·.2))) H' s' ∧ tn i s'.heap ∧ (∀ b ∈ fp, H' b = none) ∧ W i m H'
              | .error _ => False) s11 := by
          refine loop2_in (fun k s' => ∃ j H', Inv (X.blk s3 H3 scope ce fp) ([] ++ pinsAt fp s7.heap) (wipe σ8 vs1) H' s' ∧ tn1 j s'.heap ∧ (∀ b ∈ fp1, H' b = none) ∧ W1 j k H') ?_ m1 ⟨0, H11, I11.weak (wipe_length _ _) (fun j v e => (wipe_some e).1), st11, fun b hb => (f11 b hb).1, w1⟩
          rintro k s12 ⟨j, H12, I12, st12, n12, w12⟩
          rcases turn1 j k H12 w12 with ⟨stop1, nx1⟩ | ⟨go1, Nx1, hNx1, step1⟩
          · refine thnF (T1.done (X.blk s3 H3 scope ce fp) rfl rfl rfl hc j _ s12 (wipe σ8 vs1) H12 (fun _ _ => False) I12 (stat1 n12) st12 stop1) fun r s13 ⟨hr, I13⟩ => ?_
            subst hr
            exact fin I13 (hl8.trans (wipe_length σ8 vs1).symm) hk9 nx1
          · refine thnF (T1.item (X.blk s3 H3 scope ce fp) rfl rfl rfl hc j _ s12 (wipe σ8 vs1) H12 (fun _ _ => False) I12 (stat1 n12) st12 go1) fun r s13 ⟨u1, hr, h13⟩ => ?_
            subst hr
            refine thnF h13 fun _ s14 ⟨x1, H14, I14, r14, y14, st14, n14⟩ => ?_
            have I14' := I14.pinned (stat1 n14) (T1.obj _ _ st14)
            refine thnF (pg1.run _ s14 (wipe σ8 vs1) H14 x1 u1 _ I14' r14 (step1 x1 H14 y14)) fun _ s15 ⟨σ15, H15, I15, hw15, q15⟩ => ?_
            refine thnF (pt1.run _ s15 σ15 H15 _ I15 q15) fun b1 s16 ⟨H16, I16, q16⟩ => ?_
            have fin1 : ∀ {s' : Shared} {H' : Hp}, Inv (X.blk s3 H3 scope ce fp) (([] ++ pinsAt fp s7.heap) ++ pinsAt fp1 s14.heap) σ15 H' s' → Nx1 H' →
                ∃ m, m < k ∧ ∃ j H', Inv (X.blk s3 H3 scope ce fp) ([] ++ pinsAt fp s7.heap) (wipe σ8 vs1) H' s' ∧ tn1 j s'.heap ∧ (∀ b ∈ fp1, H' b = none) ∧ W1 j m H' := fun {s' H'} I' nx => by
              obtain ⟨m', hm, w'⟩ := hNx1 H' nx
              have pin' : ∀ b ∈ fp1, ∀ o, s14.heap.get? b = some o → s'.heap.get? b = some o ∧ H' b = none := fun b hb o e => by
                have z := I'.pin (b, o) (List.mem_append_right _ (List.mem_append_right _ (mem_pinsAt hb e)))
                exact ⟨z.1, z.2.1⟩
              refine ⟨m', hm, j + 1, H', I'.unpinned.weak (by rw [← hw15, wipe_length]) (fun j v e => by rw [← hw15] at e; exact (wipe_some e).1), T1.keep _ _ _ st14 fun b hb o e => (pin' b hb o e).1, fun b hb => ?_, w'⟩
              obtain ⟨o, e, _⟩ := T1.obj _ _ st14 b hb
              exact (pin' b hb o e).2
            cases b1 with
            | false =>
              simp only [Bool.false_eq_true, if_false] at q16 ⊢
              exact fin1 I16 q16
            | true =>
              simp only [if_true] at q16 ⊢
              refine thnF (pk.run _ s16 σ15 H16 _ I16 q16) fun z s17 ⟨yk, H17, I17, r17, q17⟩ => ?_
              refine thnF (pe.run _ s17 σ15 H17 _ I17 q17) fun z2 s18 ⟨yv, H18, I18, r18, H19, put, nx⟩ => ?_
              exact d_setP (X := X.blk s3 H3 scope ce fp) hu I18 put r17 r18 fun s19 I19 => fin1 I19 nx
        exact start2 loop1 (T1.self X.A 0 _ _ _ st11 loop1)
  exact codeAny_compStart_dict loop (T.self X.A 0 _ _ _ st4 loop)
theorem pe_dp2 {kx vx tg iter tg1 iter1 : Expr} {ifs ifs1 : List Expr} {scope : Scope} {own : List (Str × Nat)} {vs1 : List Nat} {pos : Pos} {o0 : HO} {wi wi1 : TI} {g g1 : TG} {tt tt1 : TT} {tk tv : TE} (hc : X.calm = true) (hu : X.A.units + 1 < cLine) (hN : X.N.Nodup) (hi : PI X tg iter wi) (ok : BlkOk X.N X.env.scope scope own) (hv : ∀ i ∈ vs1, i ∈ own.map (·.2))
    (hg : ∀ (s : Shared) (H : Hp) (C : Addr) (cl : List (Str × Addr)) (fp : List Addr), PG (X.blk s H scope (compEnvC scope cl C X.env) fp) tg g) (ht : ∀ (s : Shared) (H : Hp) (C : Addr) (cl : List (Str × Addr)) (fp : List Addr), PTs (X.blk s H scope (compEnvC scope cl C X.env) fp) ifs tt)
    (hi1 : ∀ (s : Shared) (H : Hp) (C : Addr) (cl : List (Str × Addr)) (fp : List Addr), PI (X.blk s H scope (compEnvC scope cl C X.env) fp) tg1 iter1 wi1) (hg1 : ∀ (s : Shared) (H : Hp) (C : Addr) (cl : List (Str × Addr)) (fp : List Addr), PG (X.blk s H scope (compEnvC scope cl C X.env) fp) tg1 g1) (ht1 : ∀ (s : Shared) (H : Hp) (C : Addr) (cl : List (Str × Addr)) (fp : List Addr), PTs (X.blk s H scope (compEnvC scope cl C X.env) fp) ifs1 tt1)
    (hk : ∀ (s : Shared) (H : Hp) (C : Addr) (cl : List (Str × Addr)) (fp : List Addr), PE (X.blk s H scope (compEnvC scope cl C X.env) fp) kx tk) (he : ∀ (s : Shared) (H : Hp) (C : Addr) (cl : List (Str × Addr)) (fp : List Addr), PE (X.blk s H scope (compEnvC scope cl C X.env) fp) vx tv)
    (ho : o0 = .dK [] ∨ o0 = .dT []) (hs : ∀ x, foldedSetIterable iter X.env x = pure x := by intro _; rfl) (hs1 : ∀ env x, foldedSetIterable iter1 env x = pure x := by intro _ _; rfl) :
    PE X (.DictComp kx vx [⟨tg, iter, ifs, 0⟩, ⟨tg1, iter1, ifs1, 0⟩] scope pos) (tDp2 o0 wi g tt wi1 g1 tt1 tk tv (own.map (·.2)) vs1) := by
  refine ⟨fun pins s σ H Q I h => ?_⟩
  rw [arm_eval_DictComp]
  refine dp2_core hc hu hN I hi ok hv hg ht hi1 hg1 ht1 hk he ho hs hs1 h fun D C s' m H' I' q hn f => ⟨m, hn, fun h'' sb => ?_⟩
  obtain ⟨f0, f1, f2, f3, f4, f5⟩ := f
  exact ⟨.ref D, H', I'.turned (t' := s'.toks) (fun b o hb e => (sb.2 b hb).trans e) f0 f1 f3 f4 f5, rfl, q⟩
theorem ps_setDp2 {i : Nat} {y : Str} {py spos : Pos} {kx vx tg iter tg1 iter1 : Expr} {ifs ifs1 : List Expr} {scope : Scope} {own : List (Str × Nat)} {vs1 : List Nat} {pos : Pos} {o0 : HO} {wi wi1 : TI} {g g1 : TG} {tt tt1 : TT} {tk tv : TE} (hc : X.calm = true) (hu : X.A.units + 1 < cLine) (hN : X.N.Nodup) (hy : X.N[i]? = some y) (hyl : X.env.scope.names.lookup y = some .local)
    (hsw : swapsWith (.DictComp kx vx [⟨tg, iter, ifs, 0⟩, ⟨tg1, iter1, ifs1, 0⟩] scope pos) (some (.Name y py)) spos.line X.env = pure true) (hi : PI X tg iter wi) (ok : BlkOk X.N X.env.scope scope own) (hv : ∀ i ∈ vs1, i ∈ own.map (·.2))
    (hg : ∀ (s : Shared) (H : Hp) (C : Addr) (cl : List (Str × Addr)) (fp : List Addr), PG (X.blk s H scope (compEnvC scope cl C X.env) fp) tg g) (ht : ∀ (s : Shared) (H : Hp) (C : Addr) (cl : List (Str × Addr)) (fp : List Addr), PTs (X.blk s H scope (compEnvC scope cl C X.env) fp) ifs tt)
    (hi1 : ∀ (s : Shared) (H : Hp) (C : Addr) (cl : List (Str × Addr)) (fp : List Addr), PI (X.blk s H scope (compEnvC scope cl C X.env) fp) tg1 iter1 wi1) (hg1 : ∀ (s : Shared) (H : Hp) (C : Addr) (cl : List (Str × Addr)) (fp : List Addr), PG (X.blk s H scope (compEnvC scope cl C X.env) fp) tg1 g1) (ht1 : ∀ (s : Shared) (H : Hp) (C : Addr) (cl : List (Str × Addr)) (fp : List Addr), PTs (X.blk s H scope (compEnvC scope cl C X.env) fp) ifs1 tt1)
    (hk : ∀ (s : Shared) (H : Hp) (C : Addr) (cl : List (Str × Addr)) (fp : List Addr), PE (X.blk s H scope (compEnvC scope cl C X.env) fp) kx tk) (he : ∀ (s : Shared) (H : Hp) (C : Addr) (cl : List (Str × Addr)) (fp : List Addr), PE (X.blk s H scope (compEnvC scope cl C X.env) fp) vx tv)
    (ho : o0 = .dK [] ∨ o0 = .dT []) (hs : ∀ x, foldedSetIterable iter X.env x = pure x := by intro _; rfl) (hs1 : ∀ env x, foldedSetIterable iter1 env x = pure x := by intro _ _; rfl) :
    PS X (.Assign [.Name y py] (.DictComp kx vx [⟨tg, iter, ifs, 0⟩, ⟨tg1, iter1, ifs1, 0⟩] scope pos) spos) (tAsg (tDp2 o0 wi g tt wi1 g1 tt1 tk tv (own.map (·.2)) vs1) (gName i)) := by
  refine ⟨fun pins s σ H D I h => ?_⟩
  rw [exec_Assign_Name_used _ _ _ _ hsw]
  refine wpAny_bind (wpAny_standAt (wpAny_bind ?_))
  show wpAny _ X.A (do let _ ← comprehension (.DictComp kx vx [⟨tg, iter, ifs, 0⟩, ⟨tg1, iter1, ifs1, 0⟩] scope pos) scope X.env (firstIterPos [⟨tg, iter, ifs, 0⟩, ⟨tg1, iter1, ifs1, 0⟩] pos) newDict false (eval iter X.env) (some (assign (.Name y py) X.env))) _ _ s
  have h : tDp2 o0 wi g tt wi1 g1 tt1 tk tv (own.map (·.2)) vs1 σ H (fun x H1 => gName i x σ H1 D.nx) := h
  refine wpAny_bind (thn (dp2_core (Qf := fun _ s' => SP X pins D .next s') hc hu hN I hi ok hv hg ht hi1 hg1 ht1 hk he ho hs hs1 h fun L C s' m H' I' q hn f => ?_) fun _ s' hq => wpAny_pure (wpAny_pure hq))
  show wpAny _ _ (assign (.Name y py) X.env (.ref L)) _ _ _
  refine wpAny_assign_Name (store_ok2 (v := V.ref L) I' hN hy (.inl hyl) rfl (fun s2 I2 ⟨a, sb, ha⟩ => ?_) (.inr hyl))
  obtain ⟨f0, f1, f2, f3, f4, f5⟩ := f
  have haC : C ≠ a := by
    rcases ha with z | z
    · rw [z]; exact f1
    · exact fun e => f4 y a z e.symm
  refine ⟨m, hn.sameBut sb haC, fun h3 sb3 => ?_⟩
  exact ⟨_, H', I2.turned (t' := s2.toks) (fun b o hb e => (sb3.2 b hb).trans e) f0 f1 f3 f4 f5, q⟩
theorem swD_true {kx vx : Expr} {gs : List Comprehension} {scope : Scope} {pos py : Pos} {y : Str} {l : Nat} {env : Env} (hk : env.scope.kind = .function) (hy : env.scope.names.lookup y = some .local) (hl : (py.line == pos.line) = true)
    (ha : (scope.names.any fun (n, k) => n == y && (k == .local || k == .cell)) = false) : swapsWith (.DictComp kx vx gs scope pos) (some (.Name y py)) l env = pure true := by
  have ky : env.kindOf y = some .local := hy
  have hb : env.blockKind = .function := by unfold Env.blockKind; rw [hk]; rfl
  unfold swapsWith
  simp only [hb, ky, ha, Expr.pos, hl]
  rfl
end
end MN
/-! dict displays whose keys may be tuples -/
namespace MN
open PySem PySem.Spec PyProof.Rows L2
def rStores (D : Addr) : List (V × V) → Hp → (Hp → Prop) → Prop
  | [], H, Q => Q H
  | (y, v) :: r, H, Q => ∃ H', DPut H D y v H' ∧ rStores D r H' Q
def tDispP (o0 : HO) (trs : List (TE × TE)) : TE := fun σ H Q => ∀ p, H p = none → tPairs trs σ (upd H p o0) fun ps H2 => rStores p ps H2 fun H3 => Q (.ref p) H3
theorem stores_run {X : Cx} {pins : List (Addr × Obj)} {σ : L2.St} {D : Addr} {E : Value → Shared → Prop} (hu : X.A.units + 1 < cLine) : ∀ (ps : List (V × V)) (vs : List (Value × Value)) (H : Hp) (s : Shared) (Q : PUnit → Shared → Prop), VV ps vs → Inv X pins σ H s → rStores D ps H (fun H3 => ∀ s', Inv X pins σ H3 s' → Q PUnit.unit s') →
    wpAny (model X.prog X.w) X.A (forIn vs PUnit.unit fun (x : Value × Value) (_ : PUnit) => (do dictSet D x.1 x.2; pure (ForInStep.yield PUnit.unit) : Sem (ForInStep PUnit))) Q E s
  | [], _, H, s, Q, r, I, h => by cases r; rw [List.forIn_nil]; exact wpAny_pure (h s I)
  | (y, v) :: ps, _, H, s, Q, r, I, h => by
    cases r with
    | cons a t =>
      obtain ⟨H', g, h⟩ := h
      rw [List.forIn_cons]
      exact wpAny_bind (wpAny_bind (d_setP hu I g a.1 a.2 fun s' I' => wpAny_pure (stores_run hu ps _ H' s' Q t I' h)))
theorem rStores.mono {D : Addr} {Q Q' : Hp → Prop} (h : ∀ H, Q H → Q' H) : ∀ {ps : List (V × V)} {H : Hp}, rStores D ps H Q → rStores D ps H Q'
  | [], _, q => h _ q
  | (_, _) :: _, _, ⟨H', g, q⟩ => ⟨H', g, q.mono h⟩
theorem pe_dispP {X : Cx} {pos : Pos} {keys : List (Option Expr)} {values : List Expr} {trs : List (TE × TE)} (o0 : HO) (ho : o0 = .dK [] ∨ o0 = .dT []) (hu : X.A.units + 1 < cLine) (h : PPs X pos keys values trs) (hall : keys.all (·.isSome) = true) (hl : keys.length = values.length) (h0 : keys ≠ [])
    (h15 : keys.length ≤ 15) : PE X (.Dict keys values pos) (tDispP o0 trs) := by
  refine ⟨fun pins s σ H Q I q => ?_⟩
  have hn := I.hok.fresh (Nat.le_refl s.heap.objs.size)
  have I1 := I.laid (a := s.heap.objs.size) (o := o0) (h' := s.heap.push { cls := .type "dict", data := .dict #[] }) (t' := s.toks) (fun _ _ q => Heap.get?_push_of_some _ q) (Nat.le_refl _) (by
    rcases ho with rfl | rfl
    · exact dk_empty s.heap I.big
    · exact dt_empty s.heap I.big)
  have hn2 := pairTrees_length keys values X.env pos hall hl
  have h02 : pairTrees keys values X.env pos ≠ [] := fun he => by
    rw [he] at hn2
    exact h0 (List.length_eq_zero_iff.mp hn2.symm)
  rw [arm_eval_Dict, zip_pairTrees keys values X.env pos hall hl, dictDisplay_pairs _ h02 (by omega)]
  refine wpAny_bind (wpAny_standAt (wpAny_bind ?_))
  unfold subDict
  refine wpAny_bind (wpAny_alloc ?_)
  refine wpAny_bind (wpAny_holding ?_)
  rw [if_pos (by omega)]
  refine wpAny_bind (thn (h.run pins _ σ _ _ I1 (q _ hn)) fun vs s2 ⟨ps, H2, I2, rel, q2⟩ => ?_)
  refine wpAny_holding ?_
  refine wpAny_bind (stores_run hu ps vs H2 s2 _ rel I2 (q2.mono fun H3 q3 s3 I3 => ?_))
  exact wpAny_pure (wpAny_pure (wpAny_pure ⟨.ref s.heap.objs.size, H3, I3, rfl, q3⟩))
end MN
/-! lists and tuples of texts and truths as data -/
namespace MN
open PySem PySem.Spec PyProof.Rows L2
section
variable {K : PySem.W.Frag} {H : Hp}
theorem dp_strs : ∀ zs : List Str, DpAll K H (zs.map V.str) (zs.map PyData.str)
  | [] => .nil
  | z :: zs => .cons (.str z) (dp_strs zs)
theorem dp_bls : ∀ bs : List Bool, DpAll K H (bs.map V.bl) (bs.map PyData.bool)
  | [] => .nil
  | b :: bs => .cons (.bl b) (dp_bls bs)
theorem dpT {t : Addr} {zs : List Str} (h : SqT K H t (zs.map V.str)) : Dp K H (.ref t) (.tuple (zs.map PyData.str)) := .tup h (dp_strs zs)
theorem dpL {t : Addr} {zs : List Str} (h : SqL K H t (zs.map V.str)) : Dp K H (.ref t) (.list (zs.map PyData.str)) := .lst h (dp_strs zs)
theorem dpB {t : Addr} {bs : List Bool} (h : SqL K H t (bs.map V.bl)) : Dp K H (.ref t) (.list (bs.map PyData.bool)) := .lst h (dp_bls bs)
theorem layAll (zs : List PyData) (h : ∀ d ∈ zs, d.canLay0 = true) : PyData.canLayAll0 zs = true := by
  induction zs with
  | nil => rfl
  | cons z zs ih =>
    rw [PyData.canLayAll0, h z List.mem_cons_self, ih fun d hd => h d (List.mem_cons_of_mem _ hd)]
    rfl
theorem depthAll0 (zs : List PyData) {n : Nat} (h : ∀ d ∈ zs, d.depth ≤ n) : PyData.depthAll zs ≤ n := by
  induction zs with
  | nil => simp [PyData.depthAll]
  | cons z zs ih =>
    rw [PyData.depthAll]
    have h1 := h z List.mem_cons_self
    have h2 := ih fun d hd => h d (List.mem_cons_of_mem _ hd)
    omega
theorem shapedT {zs : List PyData} (h : ∀ d ∈ zs, d.canLay0 = true ∧ d.depth ≤ 60) : SeqAt.shaped (.tuple zs) = true := by
  unfold SeqAt.shaped
  rw [PyData.canLay0, layAll zs fun d hd => (h d hd).1, PyData.depth]
  have := depthAll0 zs (n := 60) fun d hd => (h d hd).2
  simp only [Bool.true_and, decide_eq_true_eq]
  omega
theorem shapedL {zs : List PyData} (h : ∀ d ∈ zs, d.canLay0 = true ∧ d.depth ≤ 60) : SeqAt.shaped (.list zs) = true := by
  unfold SeqAt.shaped
  rw [PyData.canLay0, layAll zs fun d hd => (h d hd).1, PyData.depth]
  have := depthAll0 zs (n := 60) fun d hd => (h d hd).2
  simp only [Bool.true_and, decide_eq_true_eq]
  omega
theorem eqv_self {d : PyData} (h : SeqAt.shaped d = true) : PyData.eqv d d = true := SeqAt.eqv_refl d (SeqAt.canLay_of_shaped h)
end
end MN
/-! the head's facts: defs at any address, one more Bool -/
namespace MN
open PySem PySem.Spec PyProof.Rows L2
def obsX (ex : PySem.W.Frag → Bool) (fn : List He5.DefA) (K : PySem.W.Frag) : He.AlD := (ex K && fn.all fun d => d.ok K, fn.map fun d => He5.fnA K (d.at_ K))
def SaysX (ex : PySem.W.Frag → Bool) (fn : List He5.DefA) (K : PySem.W.Frag) : Prop := obsX ex fn K = He5.valA fn
def obsXG (n : Nat) (ex : PySem.W.Frag → Bool) (fn : List He5.DefA) (g : Addr → Option Obj) : He.AlD := obsX ex fn (He.frG g (He5.asA g n))
def hookX (n : Nat) (ex : PySem.W.Frag → Bool) (fn : List He5.DefA) : PySem.W.Hook where
  α := He.AlD
  obs := fun s => obsXG n ex fn s.heap.get?
  val := fun _ => He5.valA fn
  says := fun _ h => ∃ K : PySem.W.Frag, K.In h ∧ SaysX ex fn K
  of := fun _ _ e => ⟨_, He.frG_in, e⟩
  keeps := fun _ _ _ ⟨K, hK, c⟩ k => ⟨K, PySem.W.Frag.In.keeps hK k, c⟩
theorem obsXG_eq {n : Nat} {ex : PySem.W.Frag → Bool} {fn : List He5.DefA} {g : Addr → Option Obj} {s : Shared} (h : ∀ a, g a = s.heap.get? a) : obsXG n ex fn g = (hookX n ex fn).obs s := by
  have e : g = s.heap.get? := funext h
  rw [e] <;> rfl
section
variable {ex : PySem.W.Frag → Bool} {fn : List He5.DefA} {K : PySem.W.Frag}
theorem SaysX.all (c : SaysX ex fn K) : ex K = true := (He.ba (show (ex K && fn.all fun d => d.ok K) = true from congrArg (fun z : He.AlD => z.1) c)).1
theorem SaysX.def_ (c : SaysX ex fn K) (i : Nat) {d : He5.DefA} (h : fn[i]? = some d := by rfl) : ∃ fd, L2.FunD K d.name d.qual d.params d.body d.scope (d.dvs K) (d.kws K) (d.at_ K) fd := by
  have c2 := (He.ba (show (ex K && fn.all fun d => d.ok K) = true from congrArg (fun z : He.AlD => z.1) c)).2
  have e : fn.map (fun d => He5.fnA K (d.at_ K)) = fn.map He5.DefA.val := congrArg (fun z : He.AlD => z.2) c
  have e2 : (fn.map fun d => He5.fnA K (d.at_ K))[i]? = (fn.map He5.DefA.val)[i]? := by rw [e]
  rw [List.getElem?_map, List.getElem?_map, h] at e2
  exact He5.DefA.funD (Option.some.inj e2) (List.all_eq_true.mp c2 d (List.mem_of_getElem? h))
end
/-- a def of the top -/
def gDef (x : Str) (st : Stmt) : He5.DefA := { at_ := fun K => He.ga K x, name := x, qual := x, params := defArgs st, body := defBody st, scope := defScope st }
/-! ### a class with slots -/
def scB (K : PySem.W.Frag) (C : Addr) : Bool := PySem.W.plainGet K C Str.empty && (PySem.W.isClsIn K C && (PySem.W.plainOver K C && He.eqO (PySem.W.findIn K (.ref C) "__setattr__") (some (some (.builtin "object.__setattr__")))))
theorem scB_ok {K : PySem.W.Frag} {C : Addr} (h : scB K C = true) : SlX.SCls K C := by
  obtain ⟨h1, h⟩ := He.ba h
  obtain ⟨h2, h⟩ := He.ba h
  obtain ⟨h3, h4⟩ := He.ba h
  exact ⟨h1, h2, h3, He.eqO_ok h4⟩
def siB (K : PySem.W.Frag) (C : Addr) : Bool := He.eqO (PySem.W.findIn K (.ref C) "__class__") (some (some (.builtin "object.__class__"))) && (He.eqO (PySem.W.specialIn K (.builtin "object.__class__") "__get__") (some (some (.builtin "getset_descriptor.__get__"))) &&
  (decide (PySem.W.takesIn K (.builtin "object.__class__") = some true) && decide (PySem.W.mroIn K C (.type "object") = some true)))
theorem siB_ok {K : PySem.W.Frag} {C : Addr} (h : siB K C = true) : SlX.SIsi K C := by
  obtain ⟨h1, h⟩ := He.ba h
  obtain ⟨h2, h⟩ := He.ba h
  obtain ⟨h3, h4⟩ := He.ba h
  exact ⟨He.eqO_ok h1, He.eqO_ok h2, of_decide_eq_true h3, of_decide_eq_true h4⟩
def slB (K : PySem.W.Frag) (C : Addr) (f : Str) : Bool := He.eqO (PySem.W.findIn K (.ref C) f) (some (some (.ref (He.ma K C f)))) && (He.eqO (PySem.W.specialIn K (.ref (He.ma K C f)) "__get__") (some (some (.builtin "member_descriptor.__get__"))) &&
  (decide (PySem.W.takesIn K (.ref (He.ma K C f)) = some true) && (decide (PySem.W.typeIn K (.ref (He.ma K C f)) = some (.type "member_descriptor")) && (match PySem.W.slotIn K (He.ma K C f) C with
    | some i => decide (i < 1000)
    | none => false))))
theorem slB_ok {K : PySem.W.Frag} {C : Addr} {f : Str} (h : slB K C f = true) : ∃ p i, SlX.Slot1 K C f p i := by
  obtain ⟨h1, h⟩ := He.ba h
  obtain ⟨h2, h⟩ := He.ba h
  obtain ⟨h3, h⟩ := He.ba h
  obtain ⟨h4, h5⟩ := He.ba h
  cases e : PySem.W.slotIn K (He.ma K C f) C with
  | none =>
    rw [e] at h5
    cases h5
  | some i =>
    rw [e] at h5
    exact ⟨_, i, He.eqO_ok h1, He.eqO_ok h2, of_decide_eq_true h3, of_decide_eq_true h4, e, of_decide_eq_true h5⟩
/-- attributes and classmethods read off the class -/
def rdB (K : PySem.W.Frag) (C : Addr) : Bool := PySem.W.readsIn K C (.type "type") && He.eqO (PySem.W.specialIn K (.ref C) "__getattribute__") (some (some (.builtin "type.__getattribute__")))
theorem rdB_ok {K : PySem.W.Frag} {C : Addr} (h : rdB K C = true) : ClX.CRead K C (.type "type") := by
  obtain ⟨h1, h2⟩ := He.ba h
  exact ⟨h1, He.eqO_ok h2⟩
def cmB (K : PySem.W.Frag) (C : Addr) (m : Str) : Bool := He5.wrapB K C "classmethod" "classmethod.__get__" m && PySem.W.fnIn K (He5.wf K C "classmethod" m)
theorem cmB_ok {K : PySem.W.Frag} {C : Addr} {m : Str} (h : cmB K C m = true) : ClX.CMet K C (.type "type") m (He.ma K C m) (He5.wf K C "classmethod" m) := by
  obtain ⟨h1, h2⟩ := He.ba h
  exact He5.cmet_of h1 h2
/-! ### names -/
def freeAll (K : PySem.W.Frag) (xs : List Str) : Bool := xs.all fun x => (He.Fa.free x).ok K
def gloAll (K : PySem.W.Frag) (xs : List Str) : Bool := xs.all fun x => (He.Fa.glo x).ok K
section
variable {K : PySem.W.Frag} {h : Heap} {mg : Str → Option Value}
theorem freeAll_ok (X : K.In h) (G : h.Ns mainGlobals mg) {xs : List Str} (c : freeAll K xs = true) : ∀ x ∈ xs, mg x = none := fun x hx => He.free_ok X G (List.all_eq_true.mp c x hx)
theorem gloAll_ok (X : K.In h) (G : h.Ns mainGlobals mg) {xs : List Str} (c : gloAll K xs = true) {x : Str} (hx : x ∈ xs) : mg x = some (.ref (He.ga K x)) := He.glo_ok X G (List.all_eq_true.mp c x hx)
theorem intC_ok (X : K.In h) (G : h.Ns mainGlobals mg) {x : Str} {i : Int} (c : (He.Fa.int x i).ok K = true) : ∃ u, mg x = some u ∧ RelV (.int i) u := by
  obtain ⟨t, e⟩ := He.int_ok X G c
  exact ⟨_, e, t, rfl⟩
theorem strC_ok (X : K.In h) (G : h.Ns mainGlobals mg) {x z : Str} (c : (He.Fa.str x z).ok K = true) : ∃ u, mg x = some u ∧ RelV (.str z) u := by
  obtain ⟨t, e⟩ := He.str_ok X G c
  exact ⟨_, e, t, rfl⟩
end
end MN
/-! the head's facts in several runs (each a kernel run of its own: the memory of one alone would not do) -/
namespace MN
open PySem PySem.Spec PyProof.Rows L2
/-- one look: a Bool of the fragment, and defs -/
abbrev Look : Type := (PySem.W.Frag → Bool) × List He5.DefA
/-- the fragment is all of the heap below n: to gather what the names reach costs far more memory -/
def obsXR (n : Nat) (ex : PySem.W.Frag → Bool) (fn : List He5.DefA) (g : Addr → Option Obj) : He.AlD := obsX ex fn (He.frG g (List.range n))
def obsL (n : Nat) (ps : List Look) (g : Addr → Option Obj) : List He.AlD := ps.map fun p => obsXR n p.1 p.2 g
def hookL (n : Nat) (ps : List Look) : PySem.W.Hook where
  α := List He.AlD
  obs := fun s => obsL n ps s.heap.get?
  val := fun _ => ps.map fun p => He5.valA p.2
  says := fun _ h => ∃ K : PySem.W.Frag, K.In h ∧ ∀ p ∈ ps, SaysX p.1 p.2 K
  of := fun w s e => ⟨_, He.frG_in, fun p hp => by
    have e' : ps.map (fun p => obsXR n p.1 p.2 s.heap.get?) = ps.map fun p => He5.valA p.2 := e
    exact List.map_inj_left.mp e' p hp⟩
  keeps := fun _ _ _ ⟨K, hK, c⟩ k => ⟨K, PySem.W.Frag.In.keeps hK k, c⟩
def obL (n : Nat) (ps : List Look) (s : PySem.W.SharedT) : List He.AlD := obsL n ps (HandSHeadRun.getT s)
theorem obL_eq (n : Nat) (ps : List Look) (s : PySem.W.SharedT) : obL n ps s = (hookL n ps).obs s.abs := by
  have e : HandSHeadRun.getT s = s.abs.heap.get? := funext (HandSHeadRun.getT_eq s)
  show obsL n ps (HandSHeadRun.getT s) = obsL n ps s.abs.heap.get?
  rw [e]
section
variable (r : PySem.W.OpenRow) (M : Nat)
/-- the top's end -/
noncomputable abbrev endQ (w : World) (os : OsState) : Option PySem.W.SharedT := HandSHeadRun.endF (HandSHeadRun.stepQ (HandSHeadRun.denQ HandSHeadRun.tabQ) r.prog w) M r.prog w os
def RunL : Prop := ∀ w os, (endQ r M w os).map (fun s => HandSHeadRun.looksF r.prog (PySem.W.boot_heap w.params) s.abs) = some true
def RunN (q : Program) (loose : List Str) : Prop := ∀ w os, (endQ r M w os).map (fun s => HandSHeadRun.seenQ q loose (importedModules r.prog.main.body) (fun s => PySem.W.xlAt q [] s && PySem.W.recOk r.toRowW.records s) s.abs) = some (PySem.W.openGood q loose)
def RunP (n : Nat) (p : Look) : Prop := ∀ w os, (endQ r M w os).map (fun s => obsXR n p.1 p.2 (HandSHeadRun.getT s)) = some (He5.valA p.2)
theorem run_of {q : Program} {loose : List Str} {n : Nat} {ps : List Look} (h1 : RunL r M) (h2 : RunN r M q loose) (h3 : ∀ p ∈ ps, RunP r M n p) (w : World) : HandSHeadRun.RunEq r q (hookL n ps) (obL n ps) M loose w := by
  intro os
  obtain ⟨s, hs, l1⟩ := Option.map_eq_some_iff.mp (h1 w os)
  have l2 := h2 w os
  rw [hs] at l2
  have l3 : obL n ps s = ps.map fun p => He5.valA p.2 := by
    refine List.map_congr_left fun p hp => ?_
    have l := h3 p hp w os
    rw [hs] at l
    exact Option.some.inj l
  have l2' := Option.some.inj l2
  show (endQ r M w os).map _ = _
  rw [hs]
  exact congrArg some (Prod.ext l1 (Prod.ext l2' l3))
end
end MN
/-! the law's draws: whatever is drawn lies in its bounds -/
namespace MN
open PySem PySem.Spec PyProof.Rows L2
abbrev potO (a b c : Int) : HO := .lst [.int a, .int b, .int c]
def Pot (H : Hp) (p : Addr) : Prop := ∃ a b c, H p = some (potO a b c)
/-- all but the pot is as it was; the pot is one still -/
structure Ex (p : Addr) (H H' : Hp) : Prop where
  keep : ∀ b o, b ≠ p → H b = some o → H' b = some o
  pot : Pot H' p
theorem Pot.upd {H : Hp} {p : Addr} {a b c : Int} : Pot (L2.upd H p (potO a b c)) p := ⟨a, b, c, upd_same⟩
theorem Ex.turn {H : Hp} {p : Addr} {a b c : Int} : Ex p H (L2.upd H p (potO a b c)) := ⟨fun b o hb e => by rw [upd_ne hb]; exact e, .upd⟩
theorem Ex.trans {p : Addr} {H H1 H2 : Hp} (a : Ex p H H1) (b : Ex p H1 H2) : Ex p H H2 := ⟨fun x o hx e => b.keep x o hx (a.keep x o hx e), b.pot⟩
theorem Ex.new {p q : Addr} {H H1 : Hp} {o : HO} (a : Ex p H H1) (hq : H1 q = none) : Ex p H (L2.upd H1 q o) := by
  obtain ⟨x, y, z, hp⟩ := a.pot
  exact ⟨fun b u hb e => by rw [upd_ne (ne_of_none (a.keep b u hb e) hq)]; exact a.keep b u hb e, x, y, z, by rw [upd_ne (ne_of_none hp hq)]; exact hp⟩
theorem Ex.same {p : Addr} {H H1 H2 : Hp} (a : Ex p H H1) (s : Same H1 H2) : Ex p H H2 := by
  obtain ⟨x, y, z, hp⟩ := a.pot
  exact ⟨fun b u hb e => s _ _ (a.keep b u hb e), x, y, z, s _ _ hp⟩
theorem Ex.refl {p : Addr} {H : Hp} (h : Pot H p) : Ex p H H := ⟨fun _ _ _ e => e, h⟩
theorem Ex.free {p q : Addr} {H H1 : Hp} (a : Ex p H H1) (hp : Pot H p) (hq : H1 q = none) : H q = none := by
  cases e : H q with
  | none => rfl
  | some o =>
    by_cases z : q = p
    · subst z
      obtain ⟨x, y, w, h⟩ := a.pot
      rw [h] at hq; cases hq
    · rw [a.keep q o z e] at hq; cases hq
/-- an object that stands, or a new one, may be changed -/
theorem Ex.put {p q : Addr} {H H1 : Hp} {o : HO} (a : Ex p H H1) (hq : H q = none) (hne : q ≠ p) : Ex p H (L2.upd H1 q o) := by
  obtain ⟨x, y, z, hp⟩ := a.pot
  exact ⟨fun b u hb e => by rw [upd_ne (ne_of_none e hq)]; exact a.keep b u hb e, x, y, z, by rw [upd_ne (Ne.symm hne)]; exact hp⟩
theorem Ex.seqL {K : PySem.W.Frag} {p : Addr} {H H' : Hp} {a : Addr} {xs : List V} (e : Ex p H H') (h : SqL K H a xs) (hne : a ≠ p) : SqL K H' a xs := by
  rcases h with (h | ⟨o, h⟩) | h
  · exact .inl (.inl (e.keep _ _ hne h))
  · exact .inl (.inr ⟨o, e.keep _ _ hne h⟩)
  · exact .inr h
theorem Ex.seqT {K : PySem.W.Frag} {p : Addr} {H H' : Hp} {a : Addr} {xs : List V} (e : Ex p H H') (h : SqT K H a xs) (hne : a ≠ p) : SqT K H' a xs := by
  rcases h with (h | ⟨o, h⟩) | h
  · exact .inl (.inl (e.keep _ _ hne h))
  · exact .inl (.inr ⟨o, e.keep _ _ hne h⟩)
  · exact .inr h
theorem atI_int {ns : List Int} {i : Int} (h0 : 0 ≤ i) (h : i < (ns.map V.int).length) : ∃ x : Int, atI (ns.map V.int) i = some (.int x) := by
  obtain ⟨j, rfl⟩ : ∃ j : Nat, i = j := ⟨i.toNat, by omega⟩
  rw [List.length_map] at h
  have hj : j < ns.length := by omega
  exact ⟨ns[j], atI_nat (by rw [List.getElem?_map, List.getElem?_eq_getElem hj]; rfl)⟩
theorem atI_some {α : Type} {xs : List α} {r : Int} (h0 : 0 ≤ r) (h1 : r < (xs.length : Int)) : ∃ v, v ∈ xs ∧ xs[r.toNat]? = some v ∧ atI xs r = some v := by
  obtain ⟨j, rfl⟩ : ∃ j : Nat, r = j := ⟨r.toNat, by omega⟩
  have hj : j < xs.length := by omega
  exact ⟨xs[j], List.getElem_mem hj, by simp [hj], atI_nat (List.getElem?_eq_getElem hj)⟩
theorem perm_erase {α : Type} : ∀ {xs : List α} {k : Nat} {y : α}, xs[k]? = some y → (y :: xs.eraseIdx k).Perm xs
  | x :: xs, 0, y, h => by
    cases (show some x = some y from h)
    exact List.Perm.refl _
  | x :: xs, k + 1, y, h => by
    have ih := perm_erase (xs := xs) (k := k) (y := y) (by simpa using h)
    exact (List.Perm.swap x y _).trans (ih.cons x)
theorem seqIx {r : Int} {n : Nat} (h0 : 0 ≤ r) (h1 : r < n) : seqIndex? r n = some r.toNat := by
  unfold seqIndex?
  simp [show ¬ r < 0 by omega, h0, h1]
theorem join_signs (cs : List Nat) : (Txt.join "" (cs.map fun c => (⟨#[c]⟩ : Str))).cps.toList = cs := by
  rw [TL.join_eq]
  show TL.tl (Str.join "" (cs.map fun c => (⟨#[c]⟩ : Str))) = cs
  rw [TL.tl_join, List.map_map]
  have h : ∀ cs : List Nat, TL.joinL [] (cs.map (TL.tl ∘ fun c => (⟨#[c]⟩ : Str))) = cs := by
    intro cs
    induction cs with
    | nil => rfl
    | cons c cs ih =>
      cases cs with
      | nil => rfl
      | cons d r =>
        show [c] ++ ([] ++ TL.joinL [] ((d :: r).map (TL.tl ∘ fun c => (⟨#[c]⟩ : Str)))) = c :: d :: r
        rw [ih]; rfl
  exact h cs
/-! ### _law_word -/
def spDip : Sp := fun vs H Q _ => ∃ p n a b c, vs = [.ref p, .int n] ∧ H p = some (potO a b c) ∧ 0 < n ∧ n < 1000000 ∧ ∀ r a' b' c', 0 ≤ r → r < n → Q (.int r) (upd H p (potO a' b' c'))
def spFilled (K : PySem.W.Frag) : Sp := fun vs H Q _ => ∃ (a : Addr) (i : Int) (ns : List Int), vs = [.ref a, .int i] ∧ SqL K H a (ns.map V.int) ∧ 0 ≤ i ∧ i < 1000 ∧ ∀ q H', H q = none → Same H H' → Pot H' q → Q (.ref q) H'
def spChoose (K : PySem.W.Frag) : Sp := fun vs H Q _ => ∃ p x, vs = [.ref p, x] ∧ Pot H p ∧ ((∃ z : Str, x = .str z ∧ 0 < z.length ∧ z.length < 100000 ∧ ∀ c a' b' c', c ∈ z.cps.toList → Q (.str ⟨#[c]⟩) (upd H p (potO a' b' c'))) ∨
  (∃ l xs, x = .ref l ∧ l ≠ p ∧ SqL K H l xs ∧ 0 < xs.length ∧ xs.length < 100000 ∧ ∀ v a' b' c', v ∈ xs → Q v (upd H p (potO a' b' c'))))
end MN
/-! the draws of the laws k00 .. k04 -/
namespace MN
open PySem PySem.Spec PyProof.Rows L2
section
variable {P : Program} {w : World} {K : PySem.W.Frag} {mg : Str → Option Value} {base : Heap}
/-! ### _law_dip -/
abbrev N_law_dip : List Str := ["_law_pot", "_law_total", "_law_found", "_law_one", "_law_two"]
theorem sc_law_dip : FnScope N_law_dip ["_law_pot", "_law_total"] (defScope (top 29)) := ⟨rfl, rfl, rfl, by decide +kernel, rfl, by decide +kernel, by decide +kernel⟩
theorem c_law_dip (A : At K mg "_law_dip" (top 29)) (B : Blt mg) : Cal P w K mg base 1 "_law_dip" spDip := by
  refine cal_of A sc_law_dip (fun _ _ _ _ _ _ us hl => match us, hl with | [_, _], _ => rfl) (fun vs H Q E h => ?_) (fun _ cdv A outer s H vs Q E hr h => ?_)
  · obtain ⟨_, _, _, _, _, rfl, _⟩ := h; rfl
  · obtain ⟨p, n, a, b, c, rfl, hp, h0, h1, hQ⟩ := h
    refine ⟨_, (pss_cons (ps_if (pt_cmpR op_gt (pe_ix ix_list (pv 0) pe_int (fun _ _ => rfl)) pe_int (nomark _))
      (pss_cons (ps_set (i := 2) sc_law_dip.nd rfl (Or.inl rfl) (pe_op op_mod (pe_callTy call_int1 (by rfl) B.int (by decide +kernel) (pa_cons (pe_ix ix_list (pv 0) pe_int (fun _ _ => rfl)) pa_nil)) (pv 1)))
      (pss_cons (ps_asg (pe_op op_fdiv (pe_ix ix_list (pv 0) pe_int (fun _ _ => rfl)) (pv 1)) (pg_sub (pv 0) pe_int set_list))
      (pss_one (ps_ret (pv 2)))))
      pss_nil)
      (pss_cons (ps_asg (pe_op op_add (pe_ix ix_list (pv 0) pe_int (fun _ _ => rfl)) pe_int) (pg_sub (pv 0) pe_int set_list))
      (pss_cons (ps_set (i := 3) sc_law_dip.nd rfl (Or.inl rfl) (pe_op op_mod (pe_callTy call_int1 (by rfl) B.int (by decide +kernel) (pa_cons (pe_op op_add (pe_op op_mul (pe_ix ix_list (pv 0) pe_int (fun _ _ => rfl)) pe_int) (pe_op op_mul (pe_ix ix_list (pv 0) pe_int (fun _ _ => rfl)) pe_int)) pa_nil)) pe_int))
      (pss_cons (ps_set (i := 4) sc_law_dip.nd rfl (Or.inl rfl) (pe_op op_mod (pe_callTy call_int1 (by rfl) B.int (by decide +kernel) (pa_cons (pe_op op_add (pe_op op_mul (pv 3) (pv 3)) (pe_op op_mul pe_int (pe_ix ix_list (pv 0) pe_int (fun _ _ => rfl)))) pa_nil)) pe_int))
      (pss_one (ps_ret (pe_op op_mod (pe_callTy call_int1 (by rfl) B.int (by decide +kernel) (pa_cons (pe_op op_fdiv (pe_op op_mod (pe_callTy call_int1 (by rfl) B.int (by decide +kernel) (pa_cons (pe_op op_add (pe_op op_mul (pv 4) pe_int) (pv 3)) pa_nil)) pe_int) pe_int) pa_nil)) (pv 1)))))))), ?_⟩
    refine ⟨_, rfl, p, _, _, _, rfl, rfl, SqL.of hp, rfl, _, _, rfl, rfl, _, rfl, ?_⟩
    refine ite2 (fun _ => ?_) (fun _ => ?_)
    · refine ⟨_, rfl, p, _, _, _, rfl, rfl, SqL.of hp, rfl, .inl ⟨_, rfl, _, rfl, _, _, rfl, rfl, h0, ?_⟩⟩
      refine ⟨_, rfl, p, _, _, _, rfl, rfl, SqL.of hp, rfl, _, rfl, _, _, rfl, rfl, ⟨h0, by omega⟩, _, rfl, p, _, _, 0, rfl, rfl, hp, rfl, ?_⟩
      exact ⟨_, rfl, hQ _ _ _ _ (Int.emod_nonneg _ (by omega)) (Int.emod_lt_of_pos _ h0)⟩
    · refine ⟨_, rfl, p, _, _, _, rfl, rfl, SqL.of hp, rfl, _, _, rfl, rfl, _, rfl, p, _, _, 2, rfl, rfl, hp, rfl, ?_⟩
      have hp1 : upd H p (.lst (List.set [V.int a, V.int b, V.int c] 2 (.int (c + 1)))) p = some (potO a b (c + 1)) := upd_same
      refine ⟨_, rfl, p, _, _, _, rfl, rfl, SqL.of hp1, rfl, _, _, rfl, rfl, .inr ⟨by decide, by decide⟩, _, rfl, p, _, _, _, rfl, rfl, SqL.of hp1, rfl, _, _, rfl, rfl, .inr ⟨by decide, by decide⟩, _, _, rfl, rfl, .inl ⟨_, rfl, _, _, rfl, rfl, (show (0 : Int) < 2305843009213693951 by decide), ?_⟩⟩
      have hb : ∀ x : Int, -(2 ^ 64) < x % 2305843009213693951 ∧ x % 2305843009213693951 < 2 ^ 64 := fun x => by omega
      refine ⟨_, rfl, _, rfl, _, _, rfl, rfl, .inl (hb _), _, rfl, _, _, _, _, rfl, rfl, SqL.of hp1, rfl, _, _, rfl, rfl, .inl ⟨by decide, by decide⟩, _, _, rfl, rfl, .inl ⟨_, rfl, _, _, rfl, rfl, (show (0 : Int) < 1152921504606846883 by decide), ?_⟩⟩
      refine ⟨_, rfl, _, _, rfl, rfl, .inr ⟨by decide, by decide⟩, _, rfl, _, _, rfl, rfl, .inl ⟨_, rfl, _, _, rfl, rfl, (show (0 : Int) < 4611686018427387847 by decide), _, _, rfl, rfl, ⟨by decide, by decide⟩, .inl ⟨_, rfl, _, rfl, _, _, rfl, rfl, h0, ?_⟩⟩⟩
      exact hQ _ a b (c + 1) (Int.emod_nonneg _ (by omega)) (Int.emod_lt_of_pos _ h0)
/-! ### _law_filled -/
abbrev N_law_filled : List Str := ["_law_script", "_law_at", "_law_cell", "_law_whole", "_law_mixed"]
theorem sc_law_filled : FnScope N_law_filled ["_law_script", "_law_at"] (defScope (top 28)) := ⟨rfl, rfl, rfl, by decide +kernel, rfl, by decide +kernel, by decide +kernel⟩
theorem c_law_filled (A : At K mg "_law_filled" (top 28)) (B : Blt mg) : Cal P w K mg base 1 "_law_filled" (spFilled K) := by
  refine cal_of A sc_law_filled (fun _ _ _ _ _ _ us hl => match us, hl with | [_, _], _ => rfl) (fun vs H Q E h => ?_) (fun _ cdv A outer s H vs Q E hr h => ?_)
  · obtain ⟨_, _, _, rfl, _⟩ := h; rfl
  · obtain ⟨a, i, ns, rfl, ha, h0, h1, hQ⟩ := h
    refine ⟨_, (pss_cons (ps_set (i := 2) sc_law_filled.nd rfl (Or.inl rfl) (pe_ifExp (pt_cmpR op_lt (pv 1) (pe_callB call_len_seq (by rfl) B.len (by decide +kernel) (pa_cons (pv 0) pa_nil)) (nomark _)) (pe_ix ix_list (pv 0) (pv 1) (fun _ _ => rfl)) (pe_op op_add (pe_op op_mul pe_int (pv 1)) pe_int)))
      (pss_cons (ps_set (i := 3) sc_law_filled.nd rfl (Or.inl rfl) (pe_op op_mod (pe_callTy call_int1 (by rfl) B.int (by decide +kernel) (pa_cons (pe_callB call_abs (by rfl) B.abs (by decide +kernel) (pa_cons (pv 2) pa_nil)) pa_nil)) (pe_op op_powB (pe_op op_powB pe_int pe_int) pe_int)))
      (pss_cons (ps_set (i := 4) sc_law_filled.nd rfl (Or.inl rfl) (pe_op op_mod (pe_callTy call_int1 (by rfl) B.int (by decide +kernel) (pa_cons (pe_op op_add (pe_op op_add (pe_op op_add (pv 3) (pe_op op_mul pe_int (pv 1))) (pe_op op_mul pe_int (pe_callTy call_int1 (by rfl) B.int (by decide +kernel) (pa_cons (pe_cmpR op_lt (pv 2) pe_int (nomark _)) pa_nil)))) pe_int) pa_nil)) pe_int))
      (pss_one (ps_ret (pe_lst (pa_cons (pe_callB (call_max2 rfl) (by rfl) B.max (by decide +kernel) (pa_cons pe_int (pa_cons (pe_op op_sub (pv 3) (pe_op op_powB pe_int pe_int)) pa_nil))) (pa_cons (pv 4) (pa_cons pe_int pa_nil))))))))), ?_⟩
    refine ⟨_, rfl, _, rfl, a, _, rfl, .inl ha, _, _, rfl, rfl, _, rfl, ?_⟩
    refine ite2 (fun hc => ?_) (fun hc => ?_)
    · obtain ⟨x, hx⟩ := atI_int h0 (of_decide_eq_true hc)
      refine ⟨_, rfl, _, rfl, a, _, _, _, rfl, rfl, ha, hx, ?_⟩
      refine ⟨_, rfl, _, rfl, .inl ⟨_, rfl, _, _, rfl, rfl, ⟨by decide, by decide +kernel⟩, _, _, rfl, rfl, ⟨by decide, by decide +kernel⟩, _, _, rfl, rfl, ?_, ?_⟩⟩
      · show (0 : Int) < (10 ^ 60) ^ 10
        decide
      refine ⟨_, rfl, _, rfl, _, _, rfl, rfl, .inl ⟨by decide, by decide⟩, _, _, rfl, rfl, _, rfl, _, _, rfl, rfl, .inr ⟨_, rfl, _, _, rfl, rfl, .inl ⟨by decide, by decide⟩, _, _, rfl, rfl, _, _, rfl, rfl, .inl ⟨_, rfl, _, _, rfl, rfl, (show (0 : Int) < 2305843009213693921 by decide), ?_⟩⟩⟩
      refine ⟨_, rfl, _, _, rfl, rfl, ⟨by decide, by decide +kernel⟩, _, _, rfl, rfl, _, _, rfl, _, rfl, (by show 3 ≤ sizeLine; decide), fun q hq => ?_⟩
      exact hQ q _ hq (same_new hq) ⟨_, _, _, upd_same⟩
    · refine ⟨_, rfl, _, _, rfl, rfl, .inl ⟨by decide, by decide⟩, _, _, rfl, rfl, ?_⟩
      refine ⟨_, rfl, _, rfl, .inl ⟨_, rfl, _, _, rfl, rfl, ⟨by decide, by decide +kernel⟩, _, _, rfl, rfl, ⟨by decide, by decide +kernel⟩, _, _, rfl, rfl, ?_, ?_⟩⟩
      · show (0 : Int) < (10 ^ 60) ^ 10
        decide
      refine ⟨_, rfl, _, rfl, _, _, rfl, rfl, .inl ⟨by decide, by decide⟩, _, _, rfl, rfl, _, rfl, _, _, rfl, rfl, .inr ⟨_, rfl, _, _, rfl, rfl, .inl ⟨by decide, by decide⟩, _, _, rfl, rfl, _, _, rfl, rfl, .inl ⟨_, rfl, _, _, rfl, rfl, (show (0 : Int) < 2305843009213693921 by decide), ?_⟩⟩⟩
      refine ⟨_, rfl, _, _, rfl, rfl, ⟨by decide, by decide +kernel⟩, _, _, rfl, rfl, _, _, rfl, _, rfl, (by show 3 ≤ sizeLine; decide), fun q hq => ?_⟩
      exact hQ q _ hq (same_new hq) ⟨_, _, _, upd_same⟩
end
end MN
/-! _law_choose of the laws k00 .. k04 -/
namespace MN
open PySem PySem.Spec PyProof.Rows L2
section
variable {P : Program} {w : World} {K : PySem.W.Frag} {mg : Str → Option Value} {base : Heap}
/-! ### _law_choose -/
abbrev N_law_choose : List Str := ["_law_pot", "_law_items"]
theorem sc_law_choose : FnScope N_law_choose ["_law_pot", "_law_items"] (defScope (top 30)) := ⟨rfl, rfl, rfl, by decide +kernel, rfl, by decide +kernel, by decide +kernel⟩
theorem c_law_choose (A : At K mg "_law_choose" (top 30)) (B : Blt mg) (c_law_dip : Cal P w K mg base 1 "_law_dip" spDip) : Cal P w K mg base 2 "_law_choose" (spChoose K) := by
  refine cal_of A sc_law_choose (fun _ _ _ _ _ _ us hl => match us, hl with | [_, _], _ => rfl) (fun vs H Q E h => ?_) (fun _ cdv A outer s H vs Q E hr h => ?_)
  · obtain ⟨_, _, rfl, _⟩ := h; rfl
  · obtain ⟨p, x, rfl, ⟨a, b, c, hp⟩, hx⟩ := h
    refine ⟨_, (pss_one (ps_ret (pe_ix ix_seq (pv 1) (pe_c c_law_dip hr (by decide) (by rfl) (pa_cons (pv 0) (pa_cons (pe_callB call_len (by rfl) B.len (by decide +kernel) (pa_cons (pv 1) pa_nil)) pa_nil))) (fun _ _ => rfl)))), ?_⟩
    rcases hx with ⟨z, rfl, h0, h1, hQ⟩ | ⟨l, xs, rfl, hne, hl, h0, h1, hQ⟩
    · refine ⟨_, rfl, _, rfl, _, rfl, _, z.length, rfl, ⟨Nat.le_trans (Nat.le_of_lt h1) (by decide), rfl⟩, p, _, a, b, c, rfl, hp, by omega, by omega, fun r a' b' c' r0 r1 => ?_⟩
      have hz : (z.cps.toList.length : Int) = z.length := by simp [Str.length]
      obtain ⟨v, hv, _, hat⟩ := atI_some (xs := z.cps.toList) r0 (by omega)
      exact .inr (.inr ⟨z, r, v, rfl, rfl, Nat.le_trans (Nat.le_of_lt h1) (by decide), hat, hQ v a' b' c' hv⟩)
    · refine ⟨_, rfl, _, rfl, _, rfl, _, xs.length, rfl, .inl ⟨xs, hl, rfl⟩, p, _, a, b, c, rfl, hp, by omega, by omega, fun r a' b' c' r0 r1 => ?_⟩
      obtain ⟨v, hv, _, hat⟩ := atI_some (xs := xs) r0 r1
      refine .inl ⟨l, xs, r, v, rfl, rfl, ?_, hat, hQ v a' b' c' hv⟩
      exact (Ex.turn (H := H) (p := p)).seqL hl hne
end
end MN
/-! sorted(set(xs)), sum of truths, len of an instance with slots -/
namespace MN
open PySem PySem.Spec PyProof.Rows L2
section
variable {P : Program} {w : World} {A : Around} {E : Value → Shared → Prop} {s : Shared}
set_option maxRecDepth 100000 in
set_option maxHeartbeats 3200000 in
theorem set_of_list {l : Addr} {items : Array Value} (ns : List Int) {Q : Value → Shared → Prop} (hh : A.handled = none) (hl : s.heap.IsList l items) (hit : IntsAre items.toList ns) (hb : ns.length + 1 < scanBound)
    (h : ∀ (h' : Heap) (tk c : Nat), SetR w h' s.heap.objs.size (fun j => decide (j ∈ ns)) c → c ≤ ns.length → (∀ b o, s.heap.get? b = some o → h'.get? b = some o) → Q (.ref s.heap.objs.size) { s with heap := h', toks := tk }) :
    wpAny (model P w) A (call (.type "set") [.ref l]) Q E s := by
  have hisz : items.size = ns.length := by
    have q := IntsAre.length hit
    rw [Array.length_toList] at q
    exact q
  obtain ⟨c, tl, hmro⟩ := F.called_set.mro
  have hmade := F.called_set.made
  have hsub := F.called_set.sub
  refine wpAny_call (codeAny_of_tree ?_)
  show wpAny _ _ (callAny (.type "set") _) _ _ _
  refine wpAny_pure ⟨Code.quiet_builtin _ (by decide +kernel), codeAny_builtin F.entry_type_call ?_⟩
  rw [Around.under_plain (weight_type_call_type "set" [.ref l] []) rfl]
  have h1 := F.called_set.notType
  have h2 := F.called_set.canCreate
  have hct := F.typeCall_set_1 (.ref l)
  repeat (any_goals (first | assumption | wp_step))

  refine codeAny_mono (code_set_led1 (.ref l) (E := E) (Q₁ := fun obj s₁ => obj = .ref s.heap.objs.size ∧ s₁ = { s with heap := s.heap.push { cls := .type "set", dict := none, data := .set #[] 0 (.fresh 0 0 (!w.params.followText "set-order")) } }) ⟨rfl, rfl⟩) fun r s₁ hr => ?_
  cases r with
  | error e => exact hr
  | ok fl =>
    cases fl with
    | ret obj =>
      obtain ⟨rfl, rfl⟩ := hr
      have hS : (s.heap.push { cls := .type "set", dict := none, data := .set #[] 0 (.fresh 0 0 (!w.params.followText "set-order")) }).get? s.heap.objs.size = some { cls := .type "set", dict := none, data := .set #[] 0 (.fresh 0 0 (!w.params.followText "set-order")) } := Heap.get?_push_size _ rfl
      have hT : Shared.TypeIs { s with heap := s.heap.push { cls := .type "set", dict := none, data := .set #[] 0 (.fresh 0 0 (!w.params.followText "set-order")) } } (.ref s.heap.objs.size) "set" := ⟨_, hS, rfl⟩
      have hli := F.called_set.init.lookup
      have hbi := F.called_set.init.bind (.ref s.heap.objs.size)
      repeat (any_goals (first | assumption | wp_step))

      refine codeAny_mono (codeAny_call_builtin (R := wants (fun r s₂ => r = .none ∧ ∃ h' tk c, s₂ = { s with heap := h', toks := tk } ∧ SetR w h' s.heap.objs.size (fun j => decide (j ∈ ns)) c ∧ c ≤ ns.length ∧
          (∀ b o, s.heap.get? b = some o → h'.get? b = some o)) E) F.called_set.init.plain F.entry_set_init (check_set_init_1 hT ?_)) fun r₂ s₂ hr₂ => ?_
      · obtain ⟨ol, hol, hcl, nl, hdl⟩ := hl
        obtain ⟨ocls, odict, odata, oslots⟩ := ol
        simp only at hcl hdl
        subst hcl; subst hdl
        have hol' : (s.heap.push { cls := .type "set", dict := none, data := .set #[] 0 (.fresh 0 0 (!w.params.followText "set-order")) }).get? l = some { cls := .type "list", dict := odict, data := .seq items nl, slots := oslots } := Heap.get?_push_of_some _ hol
        have hsls := F.sub_list_set
        have hslf := F.sub_list_frozenset
        have hne : (Value.type "list" == Value.type "dict") = false := by decide
        have hl1 : (s.heap.push { cls := .type "set", dict := none, data := .set #[] 0 (.fresh 0 0 (!w.params.followText "set-order")) }).IsList l items := ⟨_, hol', rfl, nl, rfl⟩
        unfold Builtin.«set.__init__» noKeywords Builtin.Frozenset.updateFrom
        generalize hPI : pyIter = PI
        wp_walk
        subst hPI

        refine wpAny_pyIter_list hl1 ?_
        refine wpAny_bind (wpAny_runValue ?_)
        have hlS : l < s.heap.objs.size := Heap.lt_size hol
        have hh3 : A.in1.in1.in1.handled = none := by simp [hh]
        have hz1 : (s.heap.push { cls := .type "set", dict := none, data := .set #[] 0 (.fresh 0 0 (!w.params.followText "set-order")) }).objs.size = s.heap.objs.size + 1 := Heap.size_push ..
        have hneI : l ≠ (s.heap.push { cls := .type "set", dict := none, data := .set #[] 0 (.fresh 0 0 (!w.params.followText "set-order")) }).objs.size := by
          rw [Heap.size_push]; exact Nat.ne_of_lt (Nat.lt_succ_of_lt hlS)
        have hSf : s.heap.objs.size ∉ [(s.heap.push { cls := .type "set", dict := none, data := .set #[] 0 (.fresh 0 0 (!w.params.followText "set-order")) }).objs.size, l] := by
          rw [Heap.size_push]; simp only [List.mem_cons, List.mem_singleton, List.not_mem_nil, or_false, not_or]
          exact ⟨Nat.ne_of_lt (Nat.lt_succ_self _), Nat.ne_of_gt hlS⟩
        have hval : ∀ (i : Nat) (v : Value), items[i]? = some v → ∃ k t, ns[i]? = some k ∧ v = .int k t := fun i v hv => by
          have hi : i < ns.length := by rw [← hisz]; exact (Array.getElem?_eq_some_iff.mp hv).1
          obtain ⟨t, e⟩ := PyProof.Rows.IntsAre.int_at hit i v (by rw [Array.getElem?_toList]; exact hv)
          refine ⟨ns[i], t, List.getElem?_eq_getElem hi, ?_⟩
          rw [e, List.getD_eq_getElem?_getD, List.getElem?_eq_getElem hi] <;> rfl
        refine set_update_ints ((Walks.list hh3 _ l hneI items).toS) s.heap.objs.size
          hSf ns hisz hb hval (items.size - 0) 0 _ (by omega) (Nat.zero_le _)
          ⟨⟨_, Heap.get?_push_size _ rfl, rfl, rfl⟩, (hl1.push _)⟩ ?hS0 ?hR
        case hS0 =>
          have hget : ((s.heap.push { cls := .type "set", dict := none, data := .set #[] 0 (.fresh 0 0 (!w.params.followText "set-order")) }).push { cls := .type "list_iterator", data := .fields #[.ref l, .int 0 0] }).get? s.heap.objs.size
              = some { cls := .type "set", dict := none, data := .set #[] 0 (.fresh 0 0 (!w.params.followText "set-order")) } := Heap.get?_push_of_some _ hS
          exact ⟨0, Nat.le_refl 0, setR_new_at hget⟩
        case hR =>
          intro s' c' hm hc' hS'
          obtain ⟨h', g2, d', tk', os'⟩ := s'
          have eg : g2 = s.gens := hm.gens
          have ed : d' = s.drawn := hm.drawn
          have eo : os' = s.os := hm.os
          subst eg; subst ed; subst eo
          show wpAny _ _ _ _ _ _
          refine wpAny_pure ?_
          show wpAny _ _ (ret Value.none) _ _ _
          rw [hisz] at hc'
          refine wpAny_pure ⟨rfl, h', tk', c', rfl, hS', hc', fun b o e => ?_⟩
          have hb0 : b < s.heap.objs.size := Heap.lt_size e
          have hb1 : b ≠ s.heap.objs.size := Nat.ne_of_lt hb0
          have hb2 : b ≠ (s.heap.push { cls := .type "set", dict := none, data := .set #[] 0 (.fresh 0 0 (!w.params.followText "set-order")) }).objs.size := by
            rw [Heap.size_push]; exact Nat.ne_of_lt (Nat.lt_succ_of_lt hb0)
          exact hm.heap b o (by simp only [List.mem_cons, List.mem_singleton, List.not_mem_nil, or_false, not_or]; exact ⟨hb1, hb2⟩) (Heap.get?_push_of_some _ (Heap.get?_push_of_some _ e))

      · cases r₂ with
        | error e => exact hr₂
        | ok fl₂ =>
          cases fl₂ with
          | ret r =>
            obtain ⟨rfl, h', tk, c', rfl, hS', hc', hk'⟩ := hr₂
            repeat (any_goals (first | assumption | wp_step))
            exact h _ _ _ hS' hc' hk'
          | _ => exact hr₂.elim
    | _ => exact hr.elim

end
section
variable {prog : Program} {w : World} {A : Around} {R : Result → Shared → Prop} {I : Addr} {fp wr : List Addr} {n : Nat} {P : Nat → Value → Prop} {St : Nat → Heap → Prop}
theorem preSum_le (val : Nat → Int) (hb : ∀ i, 0 ≤ val i ∧ val i ≤ 1) : ∀ i, 0 ≤ preSum val i ∧ preSum val i ≤ i
  | 0 => ⟨Int.le_refl _, Int.le_refl _⟩
  | i + 1 => by
    have h1 := preSum_le val hb i
    have h2 := hb i
    have e : preSum val (i + 1) = preSum val i + val i := rfl
    rw [e]
    omega
theorem sum_loopB (W : Walks prog w A.in1 I fp wr n P St) (val : Nat → Int) (hn : n ≤ 1000000) (hval : ∀ i v, P i v → ∃ b : Bool, v = .bool b ∧ val i = if b = true then 1 else 0) (hb : ∀ i, 0 ≤ val i ∧ val i ≤ 1) (S : Addr) (hSf : S ∉ fp) :
    ∀ (k i : Nat) (s : Shared) (tA : Tok) (c : Nat), n - i = k → i ≤ n → St i s.heap → s.heap.get? S = some { cls := .type "list", dict := none, data := .seq #[.int (preSum val i) tA] c, slots := #[] } →
    (∀ h' tk t', (∀ b o, b ∉ wr → b ≠ S → s.heap.get? b = some o → h'.get? b = some o) → R (.ok (.ret (.int (preSum val n) t'))) { s with heap := h', toks := tk }) →
    codeAny (model prog w) A (.builtin "sum.loop" ⟨[.ref I, .ref S, rawInt 0, rawInt 0], []⟩) R s := by
  have hSw : S ∉ wr := fun h => hSf (W.sub _ h)
  intro k
  induction k with
  | zero =>
    intro i s tA c hk hi hst hS hR
    have hin : i = n := by omega
    subst hin
    refine codeAny_builtin F.entry_sum_loop ?_
    rw [Around.under_plainId F.plain_sum_loop _]
    show wpAny _ A.in1 (seqItems? (.ref S) >>= _) _ _ s
    refine wpAny_bind (wpAny_seqItems hS rfl ?_)
    show wpAny _ A.in1 (tryCatch (pyNext (.ref I)) _ >>= _) _ _ s
    refine wpAny_bind (wpAny_tryCatch (W.done s _ _ hst fun h' tk hk' => ?_))
    exact wpAny_pure (hR h' tk tA fun b o hbw _ e => hk' b o hbw e)
  | succ k ih =>
    intro i s tA c hk hi hst hS hR
    have hlt : i < n := by omega
    refine codeAny_builtin F.entry_sum_loop ?_
    rw [Around.under_plainId F.plain_sum_loop _]
    show wpAny _ A.in1 (seqItems? (.ref S) >>= _) _ _ s
    refine wpAny_bind (wpAny_seqItems hS rfl ?_)
    show wpAny _ A.in1 (tryCatch (pyNext (.ref I)) _ >>= _) _ _ s
    refine wpAny_bind (wpAny_tryCatch (W.item i s _ _ hlt hst fun v h' tk hP hst' hk' => ?_))
    obtain ⟨b, rfl, hvb⟩ := hval i v hP
    have hS' := hk' S _ hSw hS
    have p1 := preSum_le val hb i
    have p2 := hb i
    show wpAny _ A.in1 (if (_ : Bool) = true then (mkInt (preSum val i + (if b = true then 1 else 0)) >>= _) else _) _ _ _
    rw [← hvb]
    split
    case isFalse hf =>
      refine absurd ?_ hf
      show ((decide (-(2 ^ 63) ≤ val i) && decide (val i < 2 ^ 63)) && (decide (-(2 ^ 63) ≤ preSum val i + val i) && decide (preSum val i + val i < 2 ^ 63))) = true
      simp only [Bool.and_eq_true, decide_eq_true_eq]
      omega
    refine wpAny_bind (wpAny_mkInt ?_)
    show wpAny _ A.in1 (updateSeq S (fun _ => #[.int (preSum val i + val i) tk]) >>= _) _ _ _
    refine wpAny_bind ?_
    refine wpAny_updateSeq hS' rfl (wpAny_pure ⟨plainId_quiet F.plain_sum_loop _, ih (i + 1) _ tk _ (by omega) hlt (W.frame _ _ _ hst' fun b hb o e => ?_) (Heap.get?_update_self _ hS' rfl) fun h'' tk'' t'' hk'' => ?_⟩)
    · exact (Heap.get?_update_other _ _ (fun h : S = b => hSf (by rw [h]; exact hb))).trans e
    · exact hR h'' tk'' t'' fun b o hbw hbS e => hk'' b o hbw hbS ((Heap.get?_update_other _ _ (Ne.symm hbS)).trans (hk' b o hbw e))
end
section
variable {prog : Program} {w : World} {A : Around} {E : Value → Shared → Prop} {s : Shared}
theorem call_sum_truths {x : Value} {Q : Value → Shared → Prop}
    (h : wpAny (model prog w) A.in1 (pyIter x) (fun it s₂ => ∃ I fp wr n P St val, it = .ref I ∧ Walks prog w A.in1 I fp wr n P St ∧ St 0 s₂.heap ∧ (∀ b ∈ fp, b < s₂.heap.objs.size) ∧
      n ≤ 1000000 ∧ (∀ i v, P i v → ∃ b : Bool, v = .bool b ∧ val i = if b = true then 1 else 0) ∧ (∀ i, 0 ≤ val i ∧ val i ≤ 1) ∧
      ∀ h' tk t', (∀ b o, b ∉ wr → s₂.heap.get? b = some o → h'.get? b = some o) → Q (.int (preSum val n) t') { s₂ with heap := h', toks := tk }) E s) :
    wpAny (model prog w) A (call (.builtin "sum") [x]) Q E s := by
  refine call_function_tree F.kind_sum F.plain_sum F.entry_sum (F.args_sum1 _) ?_
  unfold Builtin.«sum»
  simp only [List.length_cons, List.length_nil]
  rw [if_neg (by decide)]
  refine wpAny_bind (wpAny_of_eq (show Builtin.Builtins.bindParams "sum" ["start"] 0 { } = pure [none] from rfl) ?_)
  refine wpAny_bind (wpAny_mono h (fun it s₂ h₂ => ?_) fun _ _ e => e)
  obtain ⟨I, fp, wr, n, P, St, val, rfl, W, hst, hfp, hn, hval, hb, hQ⟩ := h₂
  refine wpAny_bind (wpAny_mkInt ?_)
  refine wpAny_bind (wpAny_pure ?_)
  simp only [List.forIn_cons, List.forIn_nil]
  refine wpAny_bind (wpAny_bind (wpAny_bind (wpAny_isInstance (T := "int") (b := false) (typeIs_int _ _ _) PySem.sub_int_str ?_)))
  simp only [Bool.false_eq_true, if_false]
  refine wpAny_pure (wpAny_bind (wpAny_bind (wpAny_isInstance (T := "int") (b := false) (typeIs_int _ _ _) PySem.sub_int_bytes ?_)))
  simp only [Bool.false_eq_true, if_false]
  refine wpAny_pure (wpAny_bind (wpAny_bind (wpAny_isInstance (T := "int") (b := false) (typeIs_int _ _ _) PySem.sub_int_bytearray ?_)))
  simp only [Bool.false_eq_true, if_false]
  refine wpAny_pure (wpAny_pure ?_)
  refine wpAny_bind (wpAny_newObj_type ?_)
  have hSf : s₂.heap.objs.size ∉ fp := fun hm => Nat.lt_irrefl _ (hfp _ hm)
  refine wpAny_pure ⟨plainId_quiet F.plain_sum_loop _, sum_loopB W val hn hval hb s₂.heap.objs.size hSf n 0 _ s₂.toks 0 rfl (Nat.zero_le _)
    (W.frame _ _ _ hst fun b _ o e => Heap.get?_push_of_some _ e) (Heap.get?_push_size _ rfl) fun h' tk t' hk => ?_⟩
  exact hQ h' tk t' fun b o hbw e => hk b o hbw (Nat.ne_of_lt (Heap.lt_size e)) (Heap.get?_push_of_some _ e)
end
section
variable {X : Cx}
theorem nodup_sub {α : Type} [DecidableEq α] : ∀ {l l' : List α}, l.Nodup → (∀ x ∈ l, x ∈ l') → l.length ≤ l'.length
  | [], _, _, _ => Nat.zero_le _
  | a :: l, l', h, hs => by
    have h' := List.nodup_cons.mp h
    have ha := hs a List.mem_cons_self
    have ih := nodup_sub (l := l) (l' := l'.erase a) h'.2 fun x hx => by
      have n : x ≠ a := fun z => h'.1 (z ▸ hx)
      exact (List.mem_erase_of_ne n).mpr (hs x (List.mem_cons_of_mem _ hx))
    have hp := List.length_pos_of_mem ha
    rw [List.length_erase_of_mem ha] at ih
    rw [List.length_cons]
    omega
/-- set(xs) of a list of ints -/
def rSetL (K : PySem.W.Frag) (w : World) : List V → Hp → VK → Prop := fun xs H Q => ∃ (l : Addr) (ns : List Int), xs = [V.ref l] ∧ SqL K H l (ns.map V.int) ∧ ns.length ≤ 1000 ∧ ∀ p c, H p = none → c ≤ ns.length → (∀ B : Nat, (∀ n ∈ ns, 0 ≤ n ∧ n < B) → c ≤ B) → Q (.ref p) (upd H p (SetO w p (fun j => decide (j ∈ ns)) c))
theorem setR_le {w : World} {h : Heap} {a : Addr} {ns : List Int} {c : Nat} (R : SetR w h a (fun j => decide (j ∈ ns)) c) {B : Nat} (hb : ∀ n ∈ ns, 0 ≤ n ∧ n < B) : c ≤ B := by
  obtain ⟨o, es, ep, t, ho, hx, hd, g, nd, hm, _, hf, hn, _⟩ := R
  have q := nodup_sub (l' := (List.range B).map fun (i : Nat) => (i : Int)) nd fun x hx => by
    have hx' : x ∈ ns := of_decide_eq_true ((hm x).mpr hx)
    have := hb x hx'
    exact List.mem_map.mpr ⟨x.toNat, List.mem_range.mpr (by omega), by omega⟩
  rw [List.length_map, List.length_map, List.length_range, Array.length_toList, hn] at q
  exact q
theorem cr_setL (hc : X.calm = true) : CallR X (.type "set") (rSetL X.K X.w) := by
  intro pins s σ H xs us Q I r h
  obtain ⟨l, ns, rfl, hs, hl, q⟩ := h
  obtain ⟨its, rv, pl, _⟩ := I.list hs
  rw [Vals.ref1 r]
  refine set_of_list ns (I.ok.hd hc) pl.isList (by simpa using rv.ints) (by unfold scanBound; omega) fun h' tk c R hcl hk => ?_
  exact ⟨.ref _, _, I.laid hk (Nat.le_refl _) (setO_new R), rfl, q _ c (I.hok.fresh (Nat.le_refl _)) hcl fun B hb => setR_le R hb⟩
/-- len(x) of an instance with slots whose class has an own __len__ -/
def rLenOwn (C : Addr) (sp : Sp) (E : XK) : List V → Hp → VK → Prop := fun xs H Q => ∃ a dx vs, xs = [V.ref a] ∧ SlX.Slt H a C dx vs ∧ sp [.ref a] H (fun z H' => ∃ n : Int, z = .int n ∧ 0 ≤ n ∧ n < 2 ^ 63 ∧ Q (.int n) H') E
end
section
variable {prog : Program} {w : World} {A : Around} {E : Value → Shared → Prop} {s : Shared} {K : PySem.W.Frag} {x C f : Addr} {ox : Obj} {od : Option Obj}
theorem len_own1 {Q : Value → Shared → Prop} (X : K.In s.heap) (I : PySem.W.InstAt s.heap x ox C od) (hs : PySem.W.findIn K (.ref C) "__len__" = some (some (.ref f))) (hf : PySem.W.isFn K (.ref f) = true)
    (h : wpAny (model prog w) A.in1 (call (.ref f) [.ref x]) (PySem.W.LenBack Q) E s) : wpAny (model prog w) A (call (.builtin "len") [.ref x]) Q E s := by
  refine Calls.call_function_entry kind_len plain_len entry_len (args_len1 _) ?_
  unfold Builtin.«len»
  refine wpAny_bind (m := oneArg "len" _) (wpAny_pure ?_)
  refine wpAny_bind (m := callSpecial? (.ref x) (Str.ofString "__len__")) (PySem.W.special_fn X I hs (beq_iff_eq.mp hf) (wpAny_mono h (fun r s' hr => ?_) fun _ _ y => y))
  cases r <;> first | exact hr.elim | skip
  rename_i n u
  obtain ⟨⟨h0, h1⟩, hq⟩ := hr
  refine wpAny_bind (wpAny_holding (wpAny_pure ?_))
  refine wpAny_bind (wpAny_letGo ?_)
  show wpAny _ _ (if n < 0 then _ else _) _ _ _
  rw [if_neg (by omega)]
  show wpAny _ _ (if n ≥ 2 ^ 63 then _ else _) _ _ _
  rw [if_neg (by omega)]
  exact wpAny_bind (wpAny_mkInt (wpAny_pure ⟨_, rfl, hq⟩))
end
section
variable {X : Cx}
def countT (bs : List Bool) : Int := (bs.map fun b => if b = true then (1 : Int) else 0).sum
theorem preSum_list (vs : List Int) : ∀ n, n ≤ vs.length → preSum (fun i => vs.getD i 0) n = (vs.take n).sum
  | 0, _ => by rw [List.take_zero]; rfl
  | n + 1, h => by
    have e : preSum (fun i => vs.getD i 0) (n + 1) = preSum (fun i => vs.getD i 0) n + vs.getD n 0 := rfl
    rw [e, preSum_list vs n (by omega), List.take_add_one, List.sum_append]
    have hn : n < vs.length := by omega
    simp [List.getD_eq_getElem?_getD, hn]
/-- sum(xs) of truths -/
def rSumB (K : PySem.W.Frag) : List V → Hp → VK → Prop := fun vs H Q => ∃ (a : Addr) (bs : List Bool), vs = [V.ref a] ∧ SqL K H a (bs.map V.bl) ∧ bs.length ≤ 1000000 ∧ Q (.int (countT bs)) H
theorem vals_bl : ∀ {bs : List Bool} {us : List Value}, Vals (bs.map V.bl) us → us = bs.map Value.bool
  | [], _, h => by cases h; rfl
  | b :: bs, _, h => by
    cases h with
    | cons r t =>
      cases (show _ = Value.bool b from r)
      rw [vals_bl t]
      rfl
theorem cr_sumB (hc : X.calm = true) : CallR X (.builtin "sum") (rSumB X.K) := by
  intro pins s σ H vs us Q I r h
  obtain ⟨a, bs, rfl, hs, hz, q⟩ := h
  obtain ⟨its, rv, hl, _⟩ := I.list hs
  rw [Vals.ref1 r]
  have hb := vals_bl rv
  have hlt : a < s.heap.objs.size := by obtain ⟨_, e, _⟩ := hl.isList; exact Heap.lt_size e
  refine call_sum_truths (wpAny_pyIter_list hl.isList ?_)
  refine ⟨_, _, _, _, _, _, fun i => (bs.map fun b => if b = true then (1 : Int) else 0).getD i 0, rfl, Walks.list (A := X.A.in1) (I.ok.hd hc) _ a (Nat.ne_of_lt hlt) its.toArray, ⟨⟨_, Heap.get?_push_size _ rfl, rfl, rfl⟩, hl.isList.push _⟩, fun b hb' => ?_, ?_, fun i v hv => ?_, fun i => ?_, fun h' tk t' hk => ?_⟩
  · rw [Heap.size_push]
    rcases List.mem_cons.mp hb' with rfl | hb'
    · exact Nat.lt_succ_self _
    · rcases List.mem_cons.mp hb' with rfl | hb'
      · exact Nat.lt_succ_of_lt hlt
      · cases hb'
  · rw [hb]; simpa using hz
  · have hv' : its[i]? = some v := by simpa using hv
    rw [hb, List.getElem?_map] at hv'
    obtain ⟨b, h1, rfl⟩ := Option.map_eq_some_iff.mp hv'
    exact ⟨b, rfl, by simp [List.getD_eq_getElem?_getD, h1]⟩
  · show 0 ≤ (bs.map fun b => if b = true then (1 : Int) else 0).getD i 0 ∧ (bs.map fun b => if b = true then (1 : Int) else 0).getD i 0 ≤ 1
    rw [List.getD_eq_getElem?_getD, List.getElem?_map]
    cases bs[i]? with
    | none => exact ⟨by decide, by decide⟩
    | some b => cases b <;> exact ⟨by decide, by decide⟩
  · have e : preSum (fun i => (bs.map fun b => if b = true then (1 : Int) else 0).getD i 0) its.toArray.size = countT bs := by
      have hsz : its.toArray.size = (bs.map fun b => if b = true then (1 : Int) else 0).length := by rw [hb]; simp
      rw [hsz, preSum_list _ _ (Nat.le_refl _), List.take_length]
      rfl
    rw [e]
    refine ⟨.int _, H, I.kept fun b o eo => hk b o (fun hmem => ?_) (Heap.get?_push_of_some _ eo), ⟨_, rfl⟩, q⟩
    rcases List.mem_cons.mp hmem with e1 | hmem
    · exact absurd (e1 ▸ Heap.lt_size eo) (Nat.lt_irrefl _)
    · cases hmem
theorem call_lenOwn {CX : CXT} {n : Nat} {C g : Addr} {sp : Sp} {E : XK} (hs : PySem.W.findIn X.K (.ref C) "__len__" = some (some (.ref g))) (hf : PySem.W.isFn X.K (.ref g) = true) (F : FnR X.prog X.w X.K X.mg X.base CX n g sp) (hr : Room (n + 1) X.A) (hx : Passes CX X E) : CallR X (.builtin "len") (rLenOwn C sp E) := by
  intro pins s σ H xs us Q I r h
  obtain ⟨a, dx, vs, rfl, hsl, q⟩ := h
  obtain ⟨u, rfl, ru⟩ := r.one
  cases (show u = Value.ref a from ru)
  obtain ⟨sl, od, _, J, _⟩ := SlX.slt_inst I hsl
  refine len_own1 I.kIn J hs hf (wpAny_mono (wpAny_call (SlX.run_at (us := [.ref a]) (ws := [.ref a]) F (Room.in1 hr) I.env0.in1 hx I (.cons rfl .nil) q)) (fun w s' z => ?_) fun _ _ x => x)
  obtain ⟨z', H', I', rz, i, ei, h0, h1, qz⟩ := z
  subst ei
  obtain ⟨t, e⟩ := (show ∃ t, w = Value.int i t from rz)
  cases e
  exact ⟨⟨h0, h1⟩, .int i, H', I'.tok _, ⟨_, rfl⟩, qz⟩
end
end MN
/-! all words in order: plain -/
namespace MN
open PySem
def e0 : Str := Str.ofString ""
def kids (zs : List Str) (w : Str) : List Str := zs.map fun z => w ++ z
def lvl (zs : List Str) : Nat → List Str
  | 0 => [e0]
  | n + 1 => (lvl zs n).flatMap (kids zs)
def allW (zs : List Str) : Nat → List Str
  | 0 => [e0]
  | n + 1 => allW zs n ++ lvl zs (n + 1)
def tot (m : Nat) : Nat → Nat
  | 0 => 1
  | n + 1 => tot m n + m ^ (n + 1)
theorem allW_succ (zs : List Str) (n : Nat) : allW zs (n + 1) = e0 :: (allW zs n).flatMap (kids zs) := by
  induction n with
  | zero => rfl
  | succ n ih =>
    show allW zs (n + 1) ++ lvl zs (n + 2) = _
    rw [show lvl zs (n + 2) = (lvl zs (n + 1)).flatMap (kids zs) from rfl]
    conv => lhs; rw [ih]
    rw [List.cons_append, ← List.flatMap_append]
    rfl
theorem lvl_length (zs : List Str) (n : Nat) : (lvl zs n).length = zs.length ^ n := by
  induction n with
  | zero => rfl
  | succ n ih =>
    show ((lvl zs n).flatMap (kids zs)).length = _
    rw [List.length_flatMap]
    have : ((lvl zs n).map fun a => (kids zs a).length) = (lvl zs n).map fun _ => zs.length := by
      apply List.map_congr_left
      intro a _
      simp [kids]
    have s : ∀ l : List Str, (l.map fun _ => zs.length).sum = l.length * zs.length := by
      intro l
      induction l with
      | nil => simp
      | cons a l ih2 => rw [List.map_cons, List.sum_cons, ih2, List.length_cons, Nat.succ_mul]; omega
    rw [this, s, ih, Nat.pow_succ]
theorem allW_length (zs : List Str) (n : Nat) : (allW zs n).length = tot zs.length n := by
  induction n with
  | zero => rfl
  | succ n ih =>
    show (allW zs n ++ lvl zs (n + 1)).length = tot zs.length n + zs.length ^ (n + 1)
    rw [List.length_append, ih, lvl_length]
theorem flat_get {α β : Type} (f : α → Str → β) (zs : List Str) (hm : 0 < zs.length) : ∀ (l : List α) (i : Nat), (l.flatMap fun w => zs.map (f w))[i]? = (l[i / zs.length]?).bind fun w => (zs[i % zs.length]?).map (f w) := by
  intro l
  induction l with
  | nil => intro i; simp
  | cons a l ih =>
    intro i
    rw [List.flatMap_cons]
    by_cases h : i < zs.length
    · rw [List.getElem?_append_left (by simpa using h), Nat.div_eq_of_lt h, Nat.mod_eq_of_lt h]
      simp
    · have h' : zs.length ≤ i := Nat.le_of_not_lt h
      rw [List.getElem?_append_right (by simpa using h'), List.length_map, ih]
      have e1 : i / zs.length = (i - zs.length) / zs.length + 1 := by
        rw [Nat.div_eq i zs.length, if_pos ⟨hm, h'⟩]
      have e2 : (i - zs.length) % zs.length = i % zs.length := (Nat.mod_eq_sub_mod h').symm
      rw [e1, e2, List.getElem?_cons_succ]
theorem allW_next {zs : List Str} (hm : 0 < zs.length) {n i : Nat} : (allW zs (n + 1))[i + 1]? = ((allW zs n)[i / zs.length]?).bind fun w => (zs[i % zs.length]?).map fun z => w ++ z := by
  rw [allW_succ, List.getElem?_cons_succ]
  exact flat_get (fun w z => w ++ z) zs hm _ _
theorem allW_zero (zs : List Str) (n : Nat) : (allW zs n)[0]? = some e0 := by
  cases n with
  | zero => rfl
  | succ n => rw [allW_succ]; rfl
/-- the law's own number: k rounds -/
def numW (zs : List Str) : Nat → Nat → Str → Str
  | 0, _, acc => acc
  | k + 1, i, acc => if 0 < i then numW zs k ((i - 1) / zs.length) ((zs[(i - 1) % zs.length]?).getD e0 ++ acc) else numW zs k i acc
theorem numW_zero (zs : List Str) (k : Nat) (acc : Str) : numW zs k 0 acc = acc := by
  induction k with
  | zero => rfl
  | succ k ih => show (if 0 < 0 then _ else _) = _; rw [if_neg (Nat.lt_irrefl 0)]; exact ih
theorem numW_ok {zs : List Str} (hm : 0 < zs.length) : ∀ (n k i : Nat) (w acc : Str), n ≤ k → (allW zs n)[i]? = some w → numW zs k i acc = w ++ acc := by
  intro n
  induction n with
  | zero =>
    intro k i w acc _ h
    match i, h with
    | 0, h =>
      have : w = e0 := (Option.some.inj h).symm
      rw [numW_zero, this]
      exact (Str.empty_append acc).symm
  | succ n ih =>
    intro k i w acc hk h
    match k, hk with
    | k + 1, hk =>
      match i, h with
      | 0, h =>
        rw [allW_zero] at h
        have : w = e0 := (Option.some.inj h).symm
        rw [numW_zero, this]
        exact (Str.empty_append acc).symm
      | i + 1, h =>
        rw [allW_next hm] at h
        obtain ⟨v, h1, h2⟩ := Option.bind_eq_some_iff.mp h
        obtain ⟨z, h3, h4⟩ := Option.map_eq_some_iff.mp h2
        show (if 0 < i + 1 then numW zs k ((i + 1 - 1) / zs.length) ((zs[(i + 1 - 1) % zs.length]?).getD e0 ++ acc) else _) = _
        rw [if_pos (Nat.succ_pos i), Nat.add_sub_cancel, h3, ih k _ v _ (by omega) h1, ← h4]
        exact (Str.append_assoc v z acc).symm
theorem allW_take (zs : List Str) (n : Nat) : (allW zs (n + 1)).take (tot zs.length n) = allW zs n := by
  show (allW zs n ++ lvl zs (n + 1)).take _ = _
  rw [← allW_length zs n]
  exact List.take_left' rfl
/-- ascending signs -/
structure SgnOk (zs : List Str) : Prop where
  asc : zs.Pairwise fun a b => a.cps.toList < b.cps.toList
  one : ∀ z ∈ zs, ∃ c ∈ ("abcde" : Str).cps.toList, z = ⟨#[c]⟩
  pos : 0 < zs.length
  le : zs.length ≤ 5
theorem cpsL_append (a b : Str) : (a ++ b).cps.toList = a.cps.toList ++ b.cps.toList := by
  show (a.cps ++ b.cps).toList = _
  simp
theorem strLen_app (a b : Str) : (a ++ b).length = a.length + b.length := Str.length_append a b
theorem lex_same (a : List Nat) {s t : List Nat} (h : s < t) : a ++ s < a ++ t := by
  induction a with
  | nil => exact h
  | cons x a ih => exact List.cons_lt_cons_iff.mpr (.inr ⟨rfl, ih⟩)
theorem lex_app : ∀ {a b : List Nat} {s t : List Nat}, a.length = b.length → a < b → a ++ s < b ++ t
  | [], [], _, _, _, h => absurd h (List.lt_irrefl _)
  | x :: a, y :: b, s, t, hl, h => by
    rcases List.cons_lt_cons_iff.mp h with h | ⟨h1, h2⟩
    · exact List.cons_lt_cons_iff.mpr (.inl h)
    · exact List.cons_lt_cons_iff.mpr (.inr ⟨h1, lex_app (by simpa using hl) h2⟩)
theorem one_len {zs : List Str} (h : SgnOk zs) {z : Str} (hz : z ∈ zs) : z.length = 1 := by
  obtain ⟨c, _, rfl⟩ := h.one z hz
  rfl
theorem lvl_len {zs : List Str} (h : SgnOk zs) : ∀ (n : Nat) (w : Str), w ∈ lvl zs n → w.length = n := by
  intro n
  induction n with
  | zero => intro w hw; rw [List.mem_singleton.mp hw]; rfl
  | succ n ih =>
    intro w hw
    obtain ⟨v, hv, hw⟩ := List.mem_flatMap.mp hw
    obtain ⟨z, hz, rfl⟩ := List.mem_map.mp hw
    rw [strLen_app, ih v hv, one_len h hz]
theorem lvl_asc {zs : List Str} (h : SgnOk zs) (n : Nat) : (lvl zs n).Pairwise fun a b => a.cps.toList < b.cps.toList := by
  induction n with
  | zero => exact List.pairwise_singleton _ _
  | succ n ih =>
    show ((lvl zs n).flatMap (kids zs)).Pairwise _
    refine List.pairwise_flatMap.mpr ⟨fun a ha => ?_, ?_⟩
    · refine List.pairwise_map.mpr (h.asc.imp fun {s t} hst => ?_)
      rw [cpsL_append, cpsL_append]
      exact lex_same _ hst
    · refine ih.imp_of_mem fun {a b} ha hb hab x hx y hy => ?_
      obtain ⟨s, hs, rfl⟩ := List.mem_map.mp hx
      obtain ⟨t, ht, rfl⟩ := List.mem_map.mp hy
      rw [cpsL_append, cpsL_append]
      refine lex_app ?_ hab
      have h1 := lvl_len h n a ha
      have h2 := lvl_len h n b hb
      have e1 : a.cps.toList.length = a.length := by simp [Str.length]
      have e2 : b.cps.toList.length = b.length := by simp [Str.length]
      omega
theorem allW_len {zs : List Str} (h : SgnOk zs) : ∀ (n : Nat) (w : Str), w ∈ allW zs n → w.length ≤ n := by
  intro n
  induction n with
  | zero => intro w hw; rw [List.mem_singleton.mp hw]; exact Nat.le_refl _
  | succ n ih =>
    intro w hw
    rcases List.mem_append.mp hw with hw | hw
    · have := ih w hw; omega
    · have := lvl_len h _ w hw; omega
theorem allW_asc {zs : List Str} (h : SgnOk zs) (n : Nat) : (allW zs n).Pairwise ahead := by
  induction n with
  | zero => exact List.pairwise_singleton _ _
  | succ n ih =>
    refine List.pairwise_append.mpr ⟨ih, (lvl_asc h (n + 1)).imp_of_mem fun {a b} ha hb hab => .inr ⟨?_, hab⟩, fun a ha b hb => .inl ?_⟩
    · rw [lvl_len h _ a ha, lvl_len h _ b hb]
    · have h1 := allW_len h n a ha
      have h2 := lvl_len h _ b hb
      omega
theorem lvl_word {zs : List Str} (h : SgnOk zs) : ∀ (n : Nat) (w : Str), w ∈ lvl zs n → isWordS w = true := by
  intro n
  induction n with
  | zero => intro w hw; rw [List.mem_singleton.mp hw]; rfl
  | succ n ih =>
    intro w hw
    obtain ⟨v, hv, hw⟩ := List.mem_flatMap.mp hw
    obtain ⟨z, hz, rfl⟩ := List.mem_map.mp hw
    obtain ⟨c, hc, rfl⟩ := h.one z hz
    unfold isWordS
    rw [cpsL_append, List.all_append, Bool.and_eq_true]
    refine ⟨ih v hv, ?_⟩
    simp [sgn, hc]
theorem allW_word {zs : List Str} (h : SgnOk zs) : ∀ (n : Nat) (w : Str), w ∈ allW zs n → isWordS w = true := by
  intro n
  induction n with
  | zero => intro w hw; rw [List.mem_singleton.mp hw]; rfl
  | succ n ih =>
    intro w hw
    rcases List.mem_append.mp hw with hw | hw
    · exact ih w hw
    · exact lvl_word h _ w hw
theorem ord_allW {zs ws : List Str} (h : SgnOk zs) {n : Nat} (hp : ws.Perm (allW zs n)) : ord ws = allW zs n :=
  sorted_one (ord_sorted ws) (allW_asc h n) fun x => mem_ord.trans hp.mem_iff
theorem tot_le {m n : Nat} (hm : m ≤ 5) (hn : n ≤ 8) : tot m n ≤ 488281 := by
  have mono : ∀ n, tot m n ≤ tot 5 n := by
    intro n
    induction n with
    | zero => exact Nat.le_refl _
    | succ n ih => exact Nat.add_le_add ih (Nat.pow_le_pow_left hm _)
  have up : ∀ k, tot 5 n ≤ tot 5 (n + k) := by
    intro k
    induction k with
    | zero => exact Nat.le_refl _
    | succ k ih => exact Nat.le_trans ih (Nat.le_add_right _ _)
  have := up (8 - n)
  rw [show n + (8 - n) = 8 by omega] at this
  exact Nat.le_trans (mono n) (Nat.le_trans this (by decide))
abbrev strsV (zs : List Str) : List L2.V := zs.map L2.V.str
end MN
/-! the drawn signs; slices: plain -/
namespace MN
open PySem PySem.Spec PyProof.Rows L2
def one (c : Nat) : Str := ⟨#[c]⟩
theorem signsOf_one (z : Str) : signsOf z = (z.cps.toList.map one).map V.str := by
  unfold signsOf
  rw [List.map_map]; rfl
def strOf : V → Str
  | .str z => z
  | _ => e0
theorem perm_strsP {ys : List V} {zs : List Str} (h : ys.Perm (strsV zs)) : ∃ ws : List Str, ys = strsV ws ∧ ws.Perm zs := by
  refine ⟨ys.map strOf, ?_, ?_⟩
  · show ys = (ys.map strOf).map V.str
    rw [List.map_map]
    have : ys.map (V.str ∘ strOf) = ys.map id := by
      apply List.map_congr_left
      intro y hy
      obtain ⟨z, _, rfl⟩ := List.mem_map.mp (h.mem_iff.mp hy)
      rfl
    rw [this, List.map_id]
  · have := h.map strOf
    rw [List.map_map] at this
    have e : zs.map (strOf ∘ V.str) = zs.map id := List.map_congr_left fun _ _ => rfl
    rw [e, List.map_id] at this
    exact this
theorem ltCps_one (c d : Nat) : ltCps (one c).cps.toList (one d).cps.toList = decide (c < d) := by
  show (decide (c < d) || (c == d && false)) = _
  simp
theorem rising1 : ∀ (cs : List Nat) (p : Nat), risingS (one p) (cs.map one) = true → (∀ c ∈ cs, p ≤ c) ∧ cs.Pairwise (· ≤ ·)
  | [], _, _ => ⟨fun _ h => (by cases h), List.Pairwise.nil⟩
  | c :: cs, p, h => by
    have h' : (!ltCps (one c).cps.toList (one p).cps.toList && risingS (one c) (cs.map one)) = true := h
    rw [Bool.and_eq_true, ltCps_one] at h'
    obtain ⟨h1, h2⟩ := h'
    have hpc : p ≤ c := by simpa using h1
    obtain ⟨h3, h4⟩ := rising1 cs c h2
    refine ⟨fun d hd => ?_, .cons h3 h4⟩
    rcases List.mem_cons.mp hd with rfl | hd
    · exact hpc
    · exact Nat.le_trans hpc (h3 d hd)
theorem sorted1 : ∀ (cs : List Nat), sortedS (cs.map one) = true → cs.Pairwise (· ≤ ·)
  | [], _ => .nil
  | c :: cs, h => by
    obtain ⟨h1, h2⟩ := rising1 cs c h
    exact .cons h1 h2
/-- some of the five signs, sorted -/
theorem sgn_drawn {ws zs : List Str} {k : Nat} (hw : ws.Perm (("abcde" : Str).cps.toList.map one)) (hk : 0 < k) (hz : zs.Perm (ws.take k)) (hs : sortedS zs = true) : SgnOk zs := by
  have hnd : (("abcde" : Str).cps.toList.map one).Nodup := by decide +kernel
  have hws : ws.Nodup := hw.nodup_iff.mpr hnd
  have hzs : zs.Nodup := hz.nodup_iff.mpr (hws.sublist (List.take_sublist _ _))
  have hmem : ∀ z ∈ zs, ∃ c ∈ ("abcde" : Str).cps.toList, z = one c := fun z hz' => by
    have h1 := List.mem_of_mem_take (hz.mem_iff.mp hz')
    obtain ⟨c, hc, rfl⟩ := List.mem_map.mp (hw.mem_iff.mp h1)
    exact ⟨c, hc, rfl⟩
  have hl5 : ws.length = 5 := hw.length_eq
  have hzl : zs.length = min k 5 := by rw [hz.length_eq, List.length_take, hl5]
  obtain ⟨cs, rfl⟩ : ∃ cs : List Nat, zs = cs.map one := by
    refine ⟨zs.map fun z => z.cps.toList.headD 0, ?_⟩
    rw [List.map_map]
    have : zs.map (one ∘ fun z => z.cps.toList.headD 0) = zs.map id := by
      apply List.map_congr_left
      intro z hz'
      obtain ⟨c, _, rfl⟩ := hmem z hz'
      rfl
    rw [this, List.map_id]
  refine ⟨?_, hmem, by omega, by omega⟩
  have h1 := sorted1 cs hs
  have h2 : cs.Pairwise (· ≠ ·) := by
    have h3 : (cs.map one).Pairwise (· ≠ ·) := hzs
    rw [List.pairwise_map] at h3
    exact h3.imp fun {a b} h e => h (by rw [e])
  rw [List.pairwise_map]
  refine List.Pairwise.imp₂ (fun a b h h' => ?_) h1 h2
  show [a] < [b]
  exact List.cons_lt_cons_iff.mpr (.inl (Nat.lt_of_le_of_ne h h'))
theorem sgn_casesP {c : Nat} (h : sgn c = true) : c = 97 ∨ c = 98 ∨ c = 99 ∨ c = 100 ∨ c = 101 := by
  have h1 : c ∈ ("abcde" : Str).cps.toList := of_decide_eq_true h
  have h2 : ("abcde" : Str).cps.toList = [97, 98, 99, 100, 101] := by decide +kernel
  rw [h2] at h1
  simpa using h1
theorem word_okP {z : Str} (h : isWordS z = true) : PyData.strOk z = true := by
  unfold PyData.strOk
  rw [Array.all_eq_true_iff_forall_mem]
  intro c hc
  have := List.all_eq_true.mp h c (by simpa using hc)
  rcases sgn_casesP this with q | q | q | q | q <;> subst q <;> decide
theorem words_shapeP {zs : List Str} (h : ∀ z ∈ zs, isWordS z = true) : ∀ d ∈ zs.map PyData.str, d.canLay0 = true ∧ d.depth ≤ 60 := fun d hd => by
  obtain ⟨z, hz, rfl⟩ := List.mem_map.mp hd
  exact ⟨by rw [PyData.canLay0]; exact word_okP (h z hz), by rw [PyData.depth]; omega⟩
theorem cut_to (zs : List Str) {k : Int} (hk : 0 ≤ k) : cutV (strsV zs) none (some k) = strsV (zs.take k.toNat) := by
  have e : HT.sIx (strsV zs).length (strsV zs).length (some k) = min k.toNat zs.length := by
    show (if k < 0 then (k + ((strsV zs).length : Int)).toNat else min k.toNat (strsV zs).length) = _
    rw [if_neg (by omega), List.length_map]
  unfold cutV
  rw [e]
  show ((strsV zs).drop 0).take (min k.toNat zs.length - 0) = _
  rw [List.drop_zero, Nat.sub_zero, ← List.map_take]
  congr 1
  by_cases h : k.toNat ≤ zs.length
  · rw [Nat.min_eq_left h]
  · rw [Nat.min_eq_right (by omega), List.take_length, List.take_of_length_le (by omega)]
theorem cut_parts (zs : List Str) : ∃ m, cutV (strsV zs) (some (-30)) none = strsV (zs.drop m) ∧ cutV (strsV zs) none (some (-30)) = strsV (zs.take m) := by
  have e : ∀ d, HT.sIx (strsV zs).length d (some (-30)) = zs.length - 30 := fun d => by
    show (if (-30 : Int) < 0 then ((-30) + ((strsV zs).length : Int)).toNat else min (-30 : Int).toNat (strsV zs).length) = _
    rw [if_pos (by decide), List.length_map]
    omega
  refine ⟨zs.length - 30, ?_, ?_⟩
  · unfold cutV
    rw [e]
    show ((strsV zs).drop (zs.length - 30)).take ((strsV zs).length - (zs.length - 30)) = _
    rw [← List.map_drop, List.take_of_length_le]
    rw [List.length_map, List.length_drop, List.length_map]
    omega
  · unfold cutV
    rw [e]
    show ((strsV zs).drop 0).take (zs.length - 30 - 0) = _
    rw [List.drop_zero, Nat.sub_zero, ← List.map_take]
theorem shW {zs : List Str} (h : ∀ z ∈ zs, isWordS z = true) : SeqAt.shaped (.list (zs.map PyData.str)) = true := shapedL (words_shapeP h)
theorem shWT {zs : List Str} (h : ∀ z ∈ zs, isWordS z = true) : SeqAt.shaped (.tuple (zs.map PyData.str)) = true := shapedT (words_shapeP h)
theorem greatest_at {m : Nat} (h1 : 0 < m) (h5 : m ≤ 5) : ∃ g : Nat, atI [V.int 9, .int 9, .int 6, .int 5, .int 5] ((m : Int) - 1) = some (.int (g : Nat)) ∧ 0 < g ∧ g ≤ 9 ∧ ∀ n, n < g → tot m n ≤ 1000 := by
  have hm : m = 1 ∨ m = 2 ∨ m = 3 ∨ m = 4 ∨ m = 5 := by omega
  rcases hm with rfl | rfl | rfl | rfl | rfl
  · exact ⟨9, rfl, by decide, by decide, by decide⟩
  · exact ⟨9, rfl, by decide, by decide, by decide⟩
  · exact ⟨6, rfl, by decide, by decide, by decide⟩
  · exact ⟨5, rfl, by decide, by decide, by decide⟩
  · exact ⟨5, rfl, by decide, by decide, by decide⟩
end MN
/-! list(text) -/
namespace MN
open PySem PySem.Spec PyProof.Rows L2
section
variable {X : Cx}
/-- list(text) -/
theorem call_listS (hc : X.calm = true) : CallR X (.type "list") (fun xs H Q => ∃ z : Str, xs = [.str z] ∧ z.length ≤ 1000000 ∧ ∀ l, H l = none → Q (.ref l) (upd H l (.lst (signsOf z)))) := by
  intro pins s σ H xs us Q I r h
  obtain ⟨z, rfl, hz, q⟩ := h
  obtain ⟨u, rfl, t, rfl⟩ := vals1 r
  have hz1 : z.cps.size ≤ sizeLine := Nat.le_trans hz (by decide)
  refine PySem.call_list_str (hn := hz1) (I.ok.hd hc) z t fun h' tk acc' c' hk hS hacc => ?_
  have rv : Vals (signsOf z) acc'.toList := by
    have e := vals_of_get acc'.toList (fun j => V.str ⟨#[(z.cps[j]?).getD 0]⟩) fun j u hj => by
      obtain ⟨c, uu, h1, h2⟩ := hacc.2 j u (by simpa using hj)
      rw [h1, h2]
      exact ⟨_, rfl⟩
    have e2 : (List.range acc'.toList.length).map (fun j => V.str ⟨#[(z.cps[j]?).getD 0]⟩) = signsOf z := by
      apply List.ext_getElem?
      intro i
      unfold signsOf
      rw [List.getElem?_map, List.getElem?_map]
      have hl : acc'.toList.length = z.cps.size := by simpa using hacc.1
      by_cases hi : i < z.cps.size
      · rw [List.getElem?_range (by omega)]
        simp [hi]
      · rw [List.getElem?_eq_none (by simpa [hl] using Nat.le_of_not_lt hi), List.getElem?_eq_none (by simpa using Nat.le_of_not_lt hi)]
        rfl
    rw [e2] at e
    exact e
  refine ⟨.ref s.heap.objs.size, _, I.laid (t' := tk) hk (Nat.le_refl _) (show ObjOk X.prog X.w _ h' _ (.lst (signsOf z)) from ⟨?_, acc'.toList, c', rv, hS⟩), rfl, q _ (I.hok.fresh (Nat.le_refl _))⟩
  have : (signsOf z).length = z.cps.size := by simp [signsOf]
  omega
def ItemsL (K : PySem.W.Frag) (H : Hp) (x : V) (xs : List V) : Prop := (∃ l, x = .ref l ∧ SqL K H l xs) ∨ ∃ z : Str, x = .str z ∧ z.length ≤ 1000000 ∧ xs = signsOf z
theorem call_listI (hc : X.calm = true) : CallR X (.type "list") (fun vs H Q => ∃ x xs, vs = [x] ∧ ItemsL X.K H x xs ∧ ∀ l, H l = none → Q (.ref l) (upd H l (.lst xs))) := by
  intro pins s σ H vs us Q I r h
  obtain ⟨x, xs, rfl, hx, q⟩ := h
  rcases hx with ⟨l, rfl, hl⟩ | ⟨z, rfl, hz, rfl⟩
  · exact call_list_of pins s σ H _ us Q I r ⟨l, xs, rfl, .inl hl, q⟩
  · exact call_listS hc pins s σ H _ us Q I r ⟨z, rfl, hz, q⟩
end
section
/-- what is shuffled: a list, or a text's signs -/
def Items (K : PySem.W.Frag) (H : Hp) (p : Addr) (x : V) (xs : List V) : Prop := (∃ l, x = .ref l ∧ l ≠ p ∧ SqL K H l xs) ∨ (∃ z : Str, x = .str z ∧ xs = signsOf z)
theorem signs_len (z : Str) : (signsOf z).length = z.length := by simp [signsOf, Str.length]
end
end MN
/-! _law_shuffled of a list or a text -/
namespace MN
open PySem PySem.Spec PyProof.Rows L2
section
variable {P : Program} {w : World} {K : PySem.W.Frag} {mg : Str → Option Value} {base : Heap}
def spShufI (K : PySem.W.Frag) : Sp := fun vs H Q _ => ∃ p x xs, vs = [.ref p, x] ∧ Pot H p ∧ Items K H p x xs ∧ xs.length < 100000 ∧ ∀ ys q H', ys.Perm xs → H q = none → Ex p H H' → H' q = some (.lst ys) → Q (.ref q) H'
abbrev N_law_shuffled : List Str := ["_law_pot", "_law_items", "_law_left", "_law_turn"]
theorem sc_law_shuffled : FnScope N_law_shuffled ["_law_pot", "_law_items"] (defScope (top 31)) := ⟨rfl, rfl, rfl, by decide +kernel, rfl, by decide +kernel, by decide +kernel⟩
theorem c_law_shuffled (A : At K mg "_law_shuffled" (top 31)) (B : Blt mg) (c_law_dip : Cal P w K mg base 1 "_law_dip" spDip) : Cal P w K mg base 2 "_law_shuffled" (spShufI K) := by
  refine cal_of A sc_law_shuffled (fun _ _ _ _ _ _ us hl => match us, hl with | [_, _], _ => rfl) (fun vs H Q E h => ?_) (fun _ cdv A outer s H vs Q E hr h => ?_)
  · obtain ⟨_, _, _, rfl, _⟩ := h; rfl
  · obtain ⟨p, x, xs, rfl, hp, hl, hlen, hQ⟩ := h
    refine ⟨_, (pss_cons (ps_set (i := 2) sc_law_shuffled.nd rfl (Or.inr rfl) (pe_callTy (call_listI rfl) (by rfl) B.list (by decide +kernel) (pa_cons (pv 1) pa_nil)))
      (pss_one (ps_ret (pe_lc (own := [("_law_turn", 3)]) (g := gName 3) (tt := tYes) (by rfl) sc_law_shuffled.nd (pi_range1 (by rfl) B.range (pa_cons (pe_callB call_len (by rfl) B.len (by decide +kernel) (pa_cons (pv 1) pa_nil)) pa_nil))
        (blkOk_by (own := [("_law_turn", 3)]) (N := N_law_shuffled) (sc := defScope (top 31)) (by decide +kernel)) (fun _ _ _ _ _ => (pg_name (i := 3) sc_law_shuffled.nd rfl (Or.inl rfl))) (fun _ _ _ _ _ => pts_nil)
        (fun _ _ _ _ _ => (pe_popAt K rfl (pv 2) (pe_c c_law_dip hr (by decide) (by rfl) (pa_cons (pv 0) (pa_cons (pe_callB (lenK (K := K) rfl) (by rfl) B.len (by decide +kernel) (pa_cons (pv 2) pa_nil)) pa_nil))))))))), ?_⟩
    have lenx : ∀ m, H m = none → LenV K x (upd H m (.lst xs)) xs.length := fun m hm => by
      rcases hl with ⟨l, rfl, hne, hl⟩ | ⟨z, rfl, rfl⟩
      · exact .inl ⟨xs, seqL_upd hl hm, rfl⟩
      · refine ⟨?_, signs_len z⟩
        rw [signs_len] at hlen
        exact Nat.le_trans (Nat.le_of_lt hlen) (by decide)
    have hl' : ItemsL K H x xs := by
      rcases hl with ⟨l, rfl, hne, hl⟩ | ⟨z, rfl, rfl⟩
      · exact .inl ⟨l, rfl, hl⟩
      · refine .inr ⟨z, rfl, ?_, rfl⟩
        rw [signs_len] at hlen
        omega
    refine ⟨_, rfl, x, xs, rfl, hl', fun m hm => ?_⟩
    refine ⟨_, rfl, _, xs.length, rfl, lenx m hm, _, rfl, by omega, by omega, fun D hD => ?_⟩
    have hmp : m ≠ p := by
      obtain ⟨a, b, c, e⟩ := hp
      exact (ne_of_none e hm).symm
    have hDm : D ≠ m := fun z => by rw [z, upd_same] at hD; cases hD
    have hD0 : H D = none := by rw [upd_ne hDm] at hD; exact hD
    have hDp : D ≠ p := by
      obtain ⟨a, b, c, e⟩ := hp
      exact (ne_of_none e hD0).symm
    refine lc_it (walk_range (lo := 0)) (fun i H' => Ex p H H' ∧ ∃ made left : List V, (made ++ left).Perm xs ∧ left.length + i = xs.length ∧ H' D = some (.lst made) ∧ H' m = some (.lst left)) ?_ (fun _ _ _ _ => trivial) (fun i x H1 H2 hi e y => ?_) (fun H1 e => ?_)
    · refine ⟨((Ex.refl hp).put hm hmp).put hD0 hDp, [], xs, List.Perm.refl _, by simp, upd_same, ?_⟩
      rw [upd_ne hDm.symm, upd_same]
    · obtain ⟨rfl, rfl⟩ := y
      obtain ⟨ex, made, left, hperm, hll, hD1, hm1⟩ := e
      have hi' : i < xs.length := by simpa using hi
      obtain ⟨a, b, c, hp1⟩ := ex.pot
      have hlen2 : made.length ≤ xs.length := by
        have := hperm.length_eq
        rw [List.length_append] at this
        omega
      refine ⟨rfl, yes_q (iteT ?_)⟩
      refine ⟨_, rfl, .inl ⟨rfl, _, SqL.of hm1⟩, _, rfl, _, rfl, m, left, rfl, .inl (SqL.of hm1), p, _, a, b, c, rfl, hp1, by omega, by omega, fun r a' b' c' r0 r1 => ?_⟩
      obtain ⟨y, hy, hy2, _⟩ := atI_some (xs := left) r0 r1
      have ex2 : Ex p H (upd _ p (potO a' b' c')) := ex.trans Ex.turn
      refine ⟨m, left, r, r.toNat, y, rfl, rfl, by rw [upd_ne hmp]; exact hm1, by omega, by omega, seqIx r0 r1, hy2, made, ?_, ?_, ?_⟩
      · rw [upd_ne hDm, upd_ne hDp]; exact hD1
      · have : 100000 < sizeLine := by decide
        omega
      · refine ⟨(ex2.put hm hmp).put hD0 hDp, made ++ [y], left.eraseIdx r.toNat, ?_, ?_, upd_same, ?_⟩
        · rw [List.append_assoc]
          exact (List.Perm.append_left made (perm_erase hy2)).trans hperm
        · rw [List.length_eraseIdx, if_pos (by omega)]
          omega
        · rw [upd_ne hDm.symm, upd_same]
    · obtain ⟨ex, made, left, hperm, hll, hD1, hm1⟩ := e
      have : left = [] := List.eq_nil_of_length_eq_zero (by omega)
      subst this
      rw [List.append_nil] at hperm
      exact hQ made D H1 hperm hD0 ex hD1
end
end MN
/-! dicts whose keys are tuples: list(d.items()), dict(pairs), the walk over d.items() -/
namespace MN
open PySem PySem.Spec PyProof.Rows L2
/-- things laid over a tracked heap -/
def overH (H : Hp) (l : List (Addr × HO)) : Hp := fun b => match l.lookup b with | some o => some o | none => H b
theorem over_in {H : Hp} {l : List (Addr × HO)} {b : Addr} {o : HO} (h : l.lookup b = some o) : overH H l b = some o := by unfold overH; rw [h]
theorem over_out {H : Hp} {l : List (Addr × HO)} {b : Addr} (h : l.lookup b = none) : overH H l b = H b := by unfold overH; rw [h]
theorem lookup_zip {as : List Addr} {os : List HO} (nd : as.Nodup) {i : Nat} {a : Addr} {o : HO} (h1 : as[i]? = some a) (h2 : os[i]? = some o) : (as.zip os).lookup a = some o := by
  induction as generalizing os i with
  | nil => cases h1
  | cons x as ih =>
    obtain ⟨hx, nd'⟩ := List.nodup_cons.mp nd
    cases os with
    | nil => cases h2
    | cons y os =>
      cases i with
      | zero =>
        have e1 : x = a := Option.some.inj h1
        have e2 : y = o := Option.some.inj h2
        subst e1 e2
        rw [List.zip_cons_cons, List.lookup_cons_self]
      | succ i =>
        have h1' : as[i]? = some a := h1
        have hne : (a == x) = false := beq_eq_false_iff_ne.mpr fun e => hx (by rw [← e]; exact List.mem_of_getElem? h1')
        rw [List.zip_cons_cons, List.lookup_cons, hne]
        exact ih nd' h1' h2
theorem lookup_mem {α β : Type} [BEq α] [LawfulBEq α] : ∀ {l : List (α × β)} {a : α} {b : β}, l.lookup a = some b → (a, b) ∈ l
  | (x, y) :: l, a, b, h => by
    rw [List.lookup_cons] at h
    by_cases e : a = x
    · subst e
      rw [beq_self_eq_true] at h
      cases h
      exact List.mem_cons_self
    · rw [beq_eq_false_iff_ne.mpr e] at h
      exact List.mem_cons_of_mem _ (lookup_mem h)
theorem zip_of {as : List Addr} {os : List HO} {a : Addr} {o : HO} (h : (as.zip os).lookup a = some o) : ∃ i : Nat, as[i]? = some a ∧ os[i]? = some o := by
  have hm := lookup_mem h
  obtain ⟨i, hi⟩ := List.mem_iff_getElem?.mp hm
  obtain ⟨h1, h2⟩ := List.getElem?_zip_eq_some.mp hi
  exact ⟨i, h1, h2⟩
section
variable {X : Cx} {pins : List (Addr × Obj)} {σ : L2.St} {H : Hp} {s : Shared}
theorem Inv_over {l : List (Addr × HO)} {h' : Heap} {tk : Nat} (I : L2.Inv X pins σ H s) (hk : ∀ b o, s.heap.get? b = some o → h'.get? b = some o) (fresh : ∀ b o, l.lookup b = some o → s.heap.objs.size ≤ b)
    (ok : ∀ b o, l.lookup b = some o → ObjOk X.prog X.w (overH H l) h' b o) : L2.Inv X pins σ (overH H l) { s with heap := h', toks := tk } := by
  have up : ∀ b u, H b = some u → overH H l b = some u := fun b u e => by
    cases q : l.lookup b with
    | none => rw [over_out q]; exact e
    | some o => rw [I.hok.fresh (fresh b o q)] at e; cases e
  refine I.call' (ch := []) rfl ⟨fun b o q _ _ _ => hk b o q, fun b o q _ _ _ => ⟨o.slots, hk b o q⟩, fun b o q n _ => ?_, fun b o q _ => ⟨o, hk b o q⟩, fun b xs q => up b _ q, fun b o u q => up b _ q, fun b ps q => ⟨#[], by rw [up b _ q]; simp⟩⟩ (fun b u q => ?_) I.bare fun b z => by simp at z
  · cases z : l.lookup b with
    | none => rw [over_out z]; exact n
    | some u => exact absurd (Nat.lt_of_lt_of_le (Heap.lt_size q) (fresh b u z)) (Nat.lt_irrefl _)
  · cases z : l.lookup b with
    | none =>
      rw [over_out z] at q
      exact (I.hok b u q).stay (fun d v _ y => hk d v y) (fun d y => up d _ y) fun d xs y => up d _ y
    | some o =>
      rw [over_in z] at q
      cases q
      exact ok b _ z
end
/-- each t is the tuple of a key and its value -/
def PairsT (H : Hp) : List Addr → List (List Key × V) → Prop := Paired fun t kv => ∃ q, H t = some (.tup [.ref q, kv.2]) ∧ H q = some (.tup (kv.1.map kV))
/-! ### list(d.items()) -/
section
variable {prog : Program} {w : World} {A : Around} {E : Value → Shared → Prop} {s : Shared} {r d : Addr} {es : Array DictEntry} {ep : Nat}
theorem list_items_raw {Q : Value → Shared → Prop} (hh : A.handled = none) (hv : s.heap.IsItemsView r d) (hm : DT.Raw s.heap d es ep) (hn : es.size ≤ sizeLine)
    (hQ : ∀ h' tk acc c as, (∀ b o, s.heap.get? b = some o → h'.get? b = some o) → h'.get? s.heap.objs.size = some { cls := .type "list", dict := none, data := .seq acc c, slots := #[] } → as.length = es.size → DT.Made es s.heap.objs.size h' as →
      acc.toList = as.map Value.ref → Q (.ref s.heap.objs.size) { s with heap := h', toks := tk }) :
    wpAny (model prog w) A (call (.type "list") [.ref r]) Q E s := by
  refine callType_codes (Q₁ := fun obj s₁ => obj = .ref s.heap.objs.size ∧ s₁ = { s with heap := s.heap.push { cls := .type "list", data := .seq #[] } }) PySem.F.called_list (PySem.F.typeCall_list_1 _) PySem.F.entry_list_init
    (code_list_new _ ⟨rfl, rfl⟩) fun obj s₁ h₁ => ?_
  obtain ⟨rfl, rfl⟩ := h₁
  have hS : (s.heap.push { cls := .type "list", data := .seq #[] }).get? s.heap.objs.size = some { cls := .type "list", data := .seq #[] } := Heap.get?_push_size _ rfl
  have hr : r < s.heap.objs.size := let ⟨_, ho, _⟩ := hv; Heap.lt_size ho
  have hd : d < s.heap.objs.size := hm.lt
  refine ⟨⟨_, hS, rfl⟩, PySem.F.args_list_init_2 _ _, ?_⟩
  show wpAny _ A.in1.in1 (do let old ← Builtin.List.listItems (.ref s.heap.objs.size); Builtin.List.listUpdate (.ref s.heap.objs.size) (fun _ => #[]); letGo old.toList.reverse; Builtin.List.listExtendWith (.ref s.heap.objs.size) (.ref r) .none) _ _ _
  refine wpAny_bind ?_
  unfold Builtin.List.listItems
  refine wpAny_bind (wpAny_seqItems hS rfl (wpAny_pure ?_))
  show wpAny _ _ (updateSeq s.heap.objs.size (fun _ => #[]) >>= fun _ => letGo (#[] : Array Value).toList.reverse >>= fun _ => Builtin.List.listExtendWith (.ref s.heap.objs.size) (.ref r) .none) _ _ _
  refine wpAny_bind (wpAny_updateSeq hS rfl ?_)
  have hS₂ := Heap.get?_update_self (Obj.mapSeq (fun _ => (#[] : Array Value))) hS rfl
  have oth : ∀ b o, b ≠ s.heap.objs.size → (s.heap.push { cls := .type "list", data := .seq #[] }).get? b = some o → ((s.heap.push { cls := .type "list", data := .seq #[] }).update s.heap.objs.size (Obj.mapSeq (fun _ => (#[] : Array Value)))).get? b = some o :=
    fun b o hb e => (Heap.get?_update_other _ _ (Ne.symm hb)).trans e
  have up : ∀ b o, s.heap.get? b = some o → ((s.heap.push { cls := .type "list", data := .seq #[] }).update s.heap.objs.size (Obj.mapSeq (fun _ => (#[] : Array Value)))).get? b = some o := fun b o e => oth b o (Nat.ne_of_lt (Heap.lt_size e)) (Heap.get?_push_of_some _ e)
  refine wpAny_bind (wpAny_letGo ?_)
  refine DT.extI (A := A.in1) (es := es) (ep := ep) hh (let ⟨o, ho, x⟩ := hv; ⟨o, up r o ho, x⟩) (hm.at' fun o e => up d o e) _ (Nat.ne_of_gt hr) (Nat.ne_of_lt hd) .none _ hS₂ (fun h' tk acc c as hk hS' hl hG hacc => ?_) hn
  exact ⟨rfl, hQ h' tk acc c as (fun b o e => hk b o (Nat.ne_of_lt (Heap.lt_size e)) (up b o e)) hS' hl (hG.low (Nat.le_of_lt (Heap.lt_size hS₂))) hacc⟩
end
def rItemsLT : V → Hp → VK → Prop := fun x H Q => ∃ (d : Addr) (kvs : List (List Key × V)), x = .ref d ∧ H d = some (.dT kvs) ∧
  ∀ (H' : Hp) (p : Addr) (ts : List Addr), Same H H' → H p = none → H' p = some (.lst (ts.map V.ref)) → PairsT H' ts kvs → Q (.ref p) H'
def tListItemsT (te : TE) : TE := fun σ H Q => te σ H fun x H1 => rItemsLT x H1 Q
theorem paired_of {α β : Type} {F : α → β → Prop} : ∀ {xs : List α} {ys : List β}, xs.length = ys.length → (∀ (i : Nat) (x : α) (y : β), xs[i]? = some x → ys[i]? = some y → F x y) → Paired F xs ys
  | [], [], _, _ => .nil
  | [], _ :: _, h, _ => by cases h
  | _ :: _, [], h, _ => by cases h
  | x :: xs, y :: ys, h, hF => .cons (hF 0 x y rfl rfl) (paired_of (Nat.succ.inj h) fun i a b h1 h2 => hF (i + 1) a b h1 h2)
section
variable {X : Cx} {e : Expr} {te : TE} {p apos cpos pos : Pos}
theorem pe_listItemsT (hc : X.calm = true) (he : PE X e te) (hg : Gl X "list") (hm : X.mg "list" = none) (hv : bootBuiltins "list" = some (.type "list")) (hbase : attributeBase e "items" X.env (eval e X.env) = eval e X.env := by rfl) (hline : (apos.endLine == cpos.line) = true := by rfl)
    (hs : starEach [.Call (.Attribute e "items" apos) [] [] cpos] X.env = (false, eval (.Call (.Attribute e "items" apos) [] [] cpos) X.env) :: starEach [] X.env := by rfl) :
    PE X (.Call (.Name "list" p) [.Call (.Attribute e "items" apos) [] [] cpos] [] pos) (tListItemsT te) := by
  refine ⟨fun pins s σ H Q I hq => ?_⟩
  refine wpAny_Call_Name_kw (ld_blt I hg hm hv ?_)
  refine PyProof.Rows.callWith_type1 ?_ hs rfl
  rw [hs]
  show wpAny _ _ (spliced ((false, eval (.Call (.Attribute e "items" apos) [] [] cpos) X.env) :: backTo pos (starEach [] X.env))) _ _ s
  refine Calls.spliced_cons ?_
  refine wpAny_Call_method (T := "dict") (id := "dict.items") hbase rfl hline F.plainAttrs_dict F.slot_dict_items F.type_dict_items (thn (he.run pins s σ H _ I hq) fun u s1 ⟨x, H1, I1, rx, d, kvs, ex, hd, q⟩ => ?_)
  subst ex
  obtain rfl : u = Value.ref d := rx
  obtain ⟨z, hs0, xs, rel, o, es, ep, ho, hx, hdat, hes, his, hnd⟩ := dt_of I1.hok hd
  have raw : DT.Raw s1.heap d es ep := ⟨o, ho, hx, hdat⟩
  have lx : kvs.length = xs.length := Paired.length rel
  have le : es.size = xs.length := size_of_entries hes
  have I2 : L2.Inv X pins σ H1 { s1 with heap := s1.heap.push { cls := .type "dict_items", data := .fields #[.ref d] } } := I1.kept (t' := s1.toks) fun b ob q => Heap.get?_push_of_some _ q
  refine ⟨raw.typeIs, dictOfH_noDict (knd := tupleKind (mixKind X.prog X.w)) ⟨o, es, ep, ho, hx, hdat, hes, his, hnd⟩, ?_⟩
  show wpAny _ _ (callWith cpos (.builtin "dict.items") [.ref d] [] []) _ X.xe s1
  refine Calls.callWith_builtin rfl (PySem.evalArgs_none (DT.callItems hs0 raw ?_))
  refine Calls.spliced_nil ?_
  refine list_items_raw (I1.ok.hd hc) (r := s1.heap.objs.size) ⟨_, Heap.get?_push_size _ rfl, rfl, rfl⟩ (raw.push _) (by omega) fun h' tk acc c as hk hS hl hG hacc => ?_
  have la : as.length = kvs.length := by omega
  have nd : as.Nodup := List.Pairwise.imp (fun {a b} (h : a < b) => Nat.ne_of_lt h) hG.rise
  let S := (s1.heap.push { cls := .type "dict_items", data := .fields #[.ref d] }).objs.size
  let os : List HO := (kvs.zip xs).map fun z => HO.tup [.ref z.2.2.1, z.1.2]
  let l : List (Addr × HO) := (S, .lst (as.map V.ref)) :: as.zip os
  have hSn : S ∉ as := fun z => Nat.lt_irrefl _ (hG.above _ z)
  have osAt : ∀ (i : Nat) (kv : List Key × V) (x : List Key × Addr × Value), kvs[i]? = some kv → xs[i]? = some x → os[i]? = some (HO.tup [.ref x.2.1, kv.2]) := fun i kv x h1 h2 => by
    show ((kvs.zip xs).map _)[i]? = _
    rw [List.getElem?_map, show (kvs.zip xs)[i]? = some (kv, x) from List.getElem?_zip_eq_some.mpr ⟨h1, h2⟩]; rfl
  have lS : l.lookup S = some (.lst (as.map V.ref)) := List.lookup_cons_self
  have lT : ∀ (i : Nat) (a : Addr) (kv : List Key × V) (x : List Key × Addr × Value), as[i]? = some a → kvs[i]? = some kv → xs[i]? = some x → l.lookup a = some (.tup [.ref x.2.1, kv.2]) := fun i a kv x h0 h1 h2 => by
    have hne : (a == S) = false := beq_eq_false_iff_ne.mpr fun e => hSn (by rw [← e]; exact List.mem_of_getElem? h0)
    show List.lookup a ((S, _) :: as.zip os) = _
    rw [List.lookup_cons, hne]
    exact lookup_zip nd h0 (osAt i kv x h1 h2)
  have lOf : ∀ b o, l.lookup b = some o → (b = S ∧ o = .lst (as.map V.ref)) ∨ ∃ (i : Nat) (kv : List Key × V) (x : List Key × Addr × Value), as[i]? = some b ∧ kvs[i]? = some kv ∧ xs[i]? = some x ∧ o = .tup [.ref x.2.1, kv.2] := fun b o h => by
    by_cases hb : b = S
    · subst hb
      rw [lS] at h
      exact .inl ⟨rfl, (Option.some.inj h).symm⟩
    · have hne : (b == S) = false := beq_eq_false_iff_ne.mpr hb
      have h' : (as.zip os).lookup b = some o := by
        have h2 : List.lookup b ((S, HO.lst (as.map V.ref)) :: as.zip os) = some o := h
        rw [List.lookup_cons, hne] at h2
        exact h2
      obtain ⟨i, h1, h2⟩ := zip_of h'
      obtain ⟨z, h3, h4⟩ := Option.map_eq_some_iff.mp ((List.getElem?_map ..).symm.trans h2)
      obtain ⟨h5, h6⟩ := List.getElem?_zip_eq_some.mp h3
      exact .inr ⟨i, z.1, z.2, h1, h5, h6, h4.symm⟩
  have fresh : ∀ b o, l.lookup b = some o → S ≤ b := fun b o h => by
    rcases lOf b o h with ⟨rfl, _⟩ | ⟨i, kv, x, h1, _⟩
    · exact Nat.le_refl _
    · exact Nat.le_of_lt (hG.above b (List.mem_of_getElem? h1))
  have J : L2.Inv X pins σ (overH H1 l) { s1 with heap := h', toks := tk } := by
    refine Inv_over (s := { s1 with heap := s1.heap.push { cls := .type "dict_items", data := .fields #[.ref d] } }) I2 hk fresh fun b o h => ?_
    rcases lOf b o h with ⟨rfl, rfl⟩ | ⟨i, kv, x, h1, h2, h3, rfl⟩
    · refine ⟨by rw [List.length_map]; omega, acc.toList, c, by rw [hacc]; exact LiI.vals_refs as, ?_⟩
      rw [Array.toArray_toList]; exact hS
    · obtain ⟨en, e1, e2⟩ := hG.pairs i b h1
      have e3 := entry_at hes i
      rw [e1, h3] at e3
      have e4 : en = entryOfKey (tupleKind (mixKind X.prog X.w)) x := Option.some.inj e3
      obtain ⟨y, hy, r1, r2, r3⟩ := L2.DX.pget rel h3
      rw [h2] at hy
      cases hy
      rw [e4] at e2
      exact ⟨by show 2 ≤ sizeLine; decide, [Value.ref x.2.1, x.2.2], .cons rfl (.cons r3 .nil), ⟨_, e2, rfl, _, rfl⟩⟩
  have up : Same H1 (overH H1 l) := fun b u e => by
    cases q : l.lookup b with
    | none => rw [over_out q]; exact e
    | some o => rw [I2.hok.fresh (fresh b o q)] at e; cases e
  refine ⟨.ref S, overH H1 l, J, rfl, q _ S as up (I2.hok.fresh (Nat.le_refl _)) (over_in lS) (paired_of la fun i t kv h1 h2 => ?_)⟩
  obtain ⟨x, hx1, r1, r2, r3⟩ := LiI.paired_get rel h2
  exact ⟨x.2.1, over_in (lT i t kv x h1 h2 hx1), up _ _ r2⟩
end
/-! ### dict(pairs) -/
theorem stored_all {ps : List (List Key × Addr × Value)} : ∀ (acc : List (List Key × Addr × Value)), ((acc ++ ps).map (·.1)).Nodup → storedAllH acc ps = acc ++ ps := by
  induction ps with
  | nil => intro acc _; rw [List.append_nil]; rfl
  | cons p ps ih =>
    intro acc hn
    have hnew : atKey acc p.1 = none := by
      cases q : atKey acc p.1 with
      | none => rfl
      | some z =>
        exfalso
        unfold atKey at q
        obtain ⟨x, hx, _⟩ := Option.map_eq_some_iff.mp q
        have h1 := List.mem_of_find?_eq_some hx
        have h2 : x.1 = p.1 := by simpa using List.find?_some hx
        rw [List.map_append, List.map_cons] at hn
        have h3 := (List.nodup_append.mp hn).2.2 x.1 (List.mem_map.mpr ⟨x, h1, rfl⟩) p.1 List.mem_cons_self
        exact h3 h2
    show storedAllH (storedH acc p.1 p.2.1 p.2.2) ps = _
    rw [storedH_new hnew]
    have e : acc ++ p :: ps = (acc ++ [(p.1, p.2.1, p.2.2)]) ++ ps := by simp
    rw [ih _ (by rw [← e]; exact hn), e]
def rDictPT : List V → Hp → VK → Prop := fun vs H Q => ∃ (a : Addr) (ts : List Addr) (kvs : List (List Key × V)), vs = [.ref a] ∧ H a = some (.lst (ts.map V.ref)) ∧ PairsT H ts kvs ∧ (kvs.map (·.1)).Nodup ∧ ∀ p, H p = none → Q (.ref p) (upd H p (.dT kvs))
theorem call_dictPT {X : Cx} (hcalm : X.calm = true) (hu : X.A.units + 64 < cLine) : CallR X (.type "dict") rDictPT := by
  intro pins s σ H xs us Q I r q
  obtain ⟨a, ts, kvs, rfl, ha, hp, hnd, q⟩ := q
  obtain ⟨u, rfl, rx⟩ := vals1 r
  cases rx
  obtain ⟨hz, its, n, rv, ho⟩ := I.hok a _ ha
  have ei := refs_at rv
  subst ei
  rw [List.length_map] at hz
  have lk : ts.length = kvs.length := Paired.length hp
  -- what stands at each pair
  have at_ : ∀ (i : Nat) (t : Addr) (kv : List Key × V), ts[i]? = some t → kvs[i]? = some kv → ∃ (b : Addr) (v : Value), H b = some (.tup (kv.1.map kV)) ∧ RelV kv.2 v ∧ IsTup s.heap t #[.ref b, v] := fun i t kv h1 h2 => by
    obtain ⟨kv', e, qa, h3, h4⟩ := LiI.paired_get hp h1
    rw [h2] at e
    cases e
    obtain ⟨_, its2, r2, ht⟩ := I.hok t _ h3
    cases r2 with
    | cons ra rb =>
      cases rb with
      | cons rc rd =>
        cases rd
        cases ra
        exact ⟨qa, _, h4, rc, ht⟩
  have ch : ∀ i : Fin ts.length, ∃ x : Addr × Value, H x.1 = some (.tup ((kvs[i.1]'(by omega)).1.map kV)) ∧ RelV (kvs[i.1]'(by omega)).2 x.2 ∧ IsTup s.heap ts[i.1] #[.ref x.1, x.2] := fun i => by
    obtain ⟨b, v, h1, h2, h3⟩ := at_ i.1 ts[i.1] (kvs[i.1]'(by omega)) (List.getElem?_eq_getElem _) (List.getElem?_eq_getElem _)
    exact ⟨(b, v), h1, h2, h3⟩
  let f : Fin ts.length → Addr × Value := fun i => Classical.choose (ch i)
  have hf : ∀ i : Fin ts.length, H (f i).1 = some (.tup ((kvs[i.1]'(by omega)).1.map kV)) ∧ RelV (kvs[i.1]'(by omega)).2 (f i).2 ∧ IsTup s.heap ts[i.1] #[.ref (f i).1, (f i).2] := fun i => Classical.choose_spec (ch i)
  let ps : List (List Key × Addr × Value) := List.ofFn fun i : Fin ts.length => ((kvs[i.1]'(by omega)).1, (f i).1, (f i).2)
  have psl : ps.length = ts.length := List.length_ofFn
  have psAt : ∀ (i : Nat) (hi : i < ts.length), ps[i]? = some ((kvs[i]'(by omega)).1, (f ⟨i, hi⟩).1, (f ⟨i, hi⟩).2) := fun i hi => by
    rw [List.getElem?_eq_getElem (by omega), List.getElem_ofFn]
  have kt : KT H kvs ps := paired_of (by omega) fun i kv x h1 h2 => by
    have hi : i < ts.length := by have := (List.getElem?_eq_some_iff.mp h1).1; omega
    rw [psAt i hi] at h2
    cases h2
    obtain ⟨hi', e⟩ := List.getElem?_eq_some_iff.mp h1
    subst e
    exact ⟨rfl, (hf ⟨i, hi⟩).1, (hf ⟨i, hi⟩).2.1⟩
  have keysP : ps.map (·.1) = kvs.map (·.1) := by
    apply List.ext_getElem?
    intro i
    rw [List.getElem?_map, List.getElem?_map]
    by_cases hi : i < ts.length
    · rw [psAt i hi, List.getElem?_eq_getElem (by omega)]; rfl
    · rw [List.getElem?_eq_none (by omega), List.getElem?_eq_none (by omega)]; rfl
  let prs : List (Value × Value) := ps.map fun x => (Value.ref x.2.1, x.2.2)
  have prl : prs.length = ts.length := by rw [List.length_map]; exact psl
  have hst : KeysStay (tupleKind (mixKind X.prog X.w)) s.heap s.heap.objs.size [] ps := fun h' hk x hx => by
    obtain ⟨y, hy⟩ := List.mem_iff_getElem?.mp hx
    obtain ⟨kv, hkv, r1, r2, _⟩ := L2.DX.pget kt hy
    have ok' : HOk X.prog X.w H h' := by
      intro b o e
      exact (I.hok b o e).stay (fun c v _ z => hk c v (Nat.ne_of_lt (Heap.lt_size z)) (by simp) z) (fun _ z => z) fun _ _ z => z
    rw [← r1]
    exact key_of ok' r2
  refine call_dict_pairsH (knd := tupleKind (mixKind X.prog X.w)) (ps := ps) (PairArg.list a ((ts.map Value.ref).toArray) (fun j => (ts[j]?).getD 0) prs) (I.ok.hd hcalm) (show X.A.in1.in1.units < cLine by show X.A.units + 1 + 1 < cLine; omega) ⟨⟨_, n, ho, rfl, rfl, rfl⟩, by simp [prl], fun j k v hj => ?_⟩ ⟨by rw [prl, psl], fun i key v hrel => ?_⟩ hst (by omega) fun h' tk hd' hk => ?_
  · have hj' : j < ts.length := by have := (List.getElem?_eq_some_iff.mp hj).1; omega
    rw [List.getElem?_map, psAt j hj'] at hj
    cases hj
    have ht := (hf ⟨j, hj'⟩).2.2
    refine ⟨by simp [hj'], .inl ?_⟩
    show s.heap.IsTuple ((ts[j]?).getD 0) _
    rw [List.getElem?_eq_getElem hj']
    exact ht
  · have hj' : i < ts.length := by have := (List.getElem?_eq_some_iff.mp hrel).1; omega
    have hrel' : prs[i]? = some (key, v) := hrel
    rw [List.getElem?_map, psAt i hj'] at hrel'
    cases hrel'
    exact ⟨_, _, psAt i hj', rfl⟩
  · have e := stored_all (ps := ps) [] (by rw [List.nil_append, keysP]; exact hnd)
    rw [e, List.nil_append] at hd'
    have hm : (s.heap.objs.size == sysModules) = false := beq_eq_false_iff_ne.mpr (Nat.ne_of_gt I.big)
    have hk' : ∀ b o, s.heap.get? b = some o → h'.get? b = some o := fun b o e => hk b o (by simp) e
    obtain ⟨o, es, ep, h1, h2, h3, h4, h5, h6⟩ := hd'
    have hfr : H s.heap.objs.size = none := I.hok.fresh (Nat.le_refl _)
    refine ⟨.ref s.heap.objs.size, upd H s.heap.objs.size (.dT kvs), I.laid (t' := tk) hk' (Nat.le_refl _) (show ObjOk X.prog X.w _ _ _ (.dT kvs) from ⟨by omega, hm, ps, kt.keeps fun b ys e => ?_, o, es, ep, h1, h2, h3, h4, h6⟩), rfl, q _ hfr⟩
    rw [upd_ne (ne_of_none e hfr)]; exact e
end MN
/-! the walk over d.items() of a dict with tuple keys; sorted of data -/
namespace MN
open PySem PySem.Spec PyProof.Rows L2
/-- the pairs, each a new tuple of the key's own tuple and the value -/
def Itit (d : Addr) (o : Obj) (kvs : List (List Key × V)) : It :=
  ⟨fun i H => H d = some (.frz o (.dT kvs)) ∧ i < kvs.length, fun i H x H' => ∃ T k v q, kvs[i]? = some (k, v) ∧ x = .ref T ∧ H T = none ∧ H q = some (.tup (k.map kV)) ∧ H' = upd H T (.tup [.ref q, v]), fun i H => H d = some (.frz o (.dT kvs)) ∧ kvs.length ≤ i⟩
section
variable {X : Cx} {pins : List (Addr × Obj)} {σ : L2.St} {H : Hp} {s : Shared} {d : Addr} {o : Obj}
theorem frzTV {kvs : List (List Key × V)} (I : L2.Inv X pins σ H s) (h : H d = some (.frz o (.dT kvs))) :
    (d == sysModules) = false ∧ s.heap.get? d = some o ∧ o.ExactDict ∧ ∃ (es : Array DictEntry) (ep : Nat), o.data = .dict es ep ∧ es.size = kvs.length ∧
      ∀ (i : Nat) (k : List Key) (v : V), kvs[i]? = some (k, v) → ∃ (en : DictEntry) (q : Addr), es[i]? = some en ∧ en.key = .ref q ∧ H q = some (.tup (k.map kV)) ∧ RelV v en.val := by
  obtain ⟨hd, z, hs, xs, pr, o', es, ep, ho, hx, hdt, he, _⟩ := I.hok d _ h
  rw [hd] at ho
  cases ho
  refine ⟨hs, hd, hx, es, ep, hdt, ?_, fun i k v e => ?_⟩
  · have l1 : es.size = xs.length := size_of_entries he
    have l2 : kvs.length = xs.length := Paired.length pr
    omega
  · obtain ⟨b, hb, e1, e2, e3⟩ := LiI.paired_get pr e
    have q := entry_at he i
    rw [hb] at q
    exact ⟨_, b.2.1, q, rfl, e2, e3⟩
end
section
variable {P : Program} {w : World} {K : PySem.W.Frag} {d : Addr} {o : Obj} {es : Array DictEntry} {ep : Nat}
theorem turn_itemsT {kvs : List (List Key × V)} {elts : List Expr} {kk : Nat} {tpos : Pos} (it : Addr) (hod : o.data = .dict es ep) :
    Turn P w K (.Tuple elts kk tpos) (Itit d o kvs) [it] it (fun i h => ∃ ok ov, IsItemIter h it d i kvs.length ep ok ov) where
  mem := by simp
  obj := fun i h st b hb => by
    have e : b = it := by simpa using hb
    subst e
    obtain ⟨ok, ov, e⟩ := st
    exact ⟨_, e, fun v z => nomatch z⟩
  keep := fun i h h' st k => let ⟨ok, ov, e⟩ := st; ⟨ok, ov, k it (by simp) _ e⟩
  item := by
    intro X hP hw hK hc i pins s σ H E I hf st hg
    subst hP hw hK
    obtain ⟨hd, hi⟩ := hg
    obtain ⟨hs, hgd, hx, es', ep', hdt, hsz, ent⟩ := frzTV I hd
    obtain ⟨rfl, rfl⟩ := dict_ep hod hdt
    obtain ⟨⟨k, v⟩, hkv⟩ : ∃ p, kvs[i]? = some p := ⟨kvs[i], List.getElem?_eq_getElem hi⟩
    obtain ⟨en, q, hen, hkey, hq, rv⟩ := ent i k v hkv
    obtain ⟨hie, ee⟩ := Array.getElem?_eq_some_iff.mp hen
    obtain ⟨ok, ov, he⟩ := st
    rw [← hsz] at he
    have hlt : it < s.heap.objs.size := Heap.lt_size he
    refine DT.nextI he ⟨o, hgd, hx, hod⟩ hie fun h' ho hT hz hk => ?_
    refine ⟨_, rfl, wpAny_letOwnedTupleGo_items (s := { s with heap := h' }) ho fun h'' he' sb => ?_⟩
    have hT2 : h''.get? s.heap.objs.size = some { cls := .type "tuple", data := .seq #[.ref q, en.val] } := by
      have := (sb.2 _ (Nat.ne_of_gt hlt)).trans hT
      rw [ee, hkey] at this
      exact this
    have new : ObjOk X.prog X.w (upd H s.heap.objs.size (.tup [.ref q, v])) h'' s.heap.objs.size (.tup [.ref q, v]) :=
      ⟨by show 2 ≤ sizeLine; decide, [.ref q, en.val], .cons rfl (.cons rv .nil), ⟨_, hT2, rfl, _, rfl⟩⟩
    have I1 : L2.Inv X pins σ (upd H s.heap.objs.size (.tup [.ref q, v])) { s with heap := h'' } :=
      I.turnedNew (t' := s.toks) (ch := [it]) (fun b ob hb e => (sb.2 b (by simpa using hb)).trans (hk b ob (by simpa using hb) e)) hf (Nat.le_refl _) new
    refine ⟨.ref s.heap.objs.size, _, I1, rfl, ⟨_, k, v, q, hkv, rfl, I.hok.fresh (Nat.le_refl _), hq, rfl⟩, ⟨es'[i].key, es'[i].val, ?_⟩, fun b hb => ?_⟩
    · rw [← hsz]; exact he'
    · have e : b = it := by simpa using hb
      rw [e, upd_ne (Nat.ne_of_lt hlt)]
      exact (hf it (by simp)).1
  done := by
    intro X hP hw hK hc i pins s σ H E I hf st hg
    subst hP hw hK
    obtain ⟨hd, hi⟩ := hg
    obtain ⟨f0, f1, f2, f3, f4, f5⟩ := hf it (by simp)
    obtain ⟨hs, hgd, hx, es', ep', hdt, hsz, ent⟩ := frzTV I hd
    obtain ⟨rfl, rfl⟩ := dict_ep hod hdt
    obtain ⟨ok, ov, he⟩ := st
    rw [← hsz] at he
    exact DT.endI (I.ok.hd hc) he ⟨o, hgd, hx, hod⟩ (by omega) fun h' eb => ⟨rfl, I.turned (t' := s.toks) (fun b ob hb e => eb b ob hb e) f0 f1 f3 f4 f5⟩
  self := fun A i s Q E st h => let ⟨_, _, e⟩ := st; PySem.W.kcp_self e h
end
def iItemsT (td : TE) : TI := fun σ H R => td σ H fun x H1 => ∃ d o kvs, x = .ref d ∧ H1 d = some (.frz o (.dT kvs)) ∧ R (Itit d o kvs) H1
section
variable {X : Cx} {e : Expr} {td : TE} {apos cpos : Pos}
theorem pi_itemsT {elts : List Expr} {kk : Nat} {tpos : Pos} (he : PE X e td) (hbase : attributeBase e "items" X.env (eval e X.env) = eval e X.env := by rfl) (hline : (apos.endLine == cpos.line) = true := by rfl) :
    PI X (.Tuple elts kk tpos) (.Call (.Attribute e "items" apos) [] [] cpos) (iItemsT td) := by
  refine ⟨fun pins s σ H R I h => ?_⟩
  refine wpAny_Call_method (T := "dict") (id := "dict.items") hbase rfl hline F.plainAttrs_dict F.slot_dict_items F.type_dict_items (thn (he.run pins s σ H _ I h) fun u s1 ⟨x, H1, I1, rx, d, o, kvs, ex, hd, q⟩ => ?_)
  subst ex
  obtain rfl : u = Value.ref d := rx
  obtain ⟨hs, hgd, hx, es, ep, hdt, hsz, ent⟩ := frzTV I1 hd
  have raw : DT.Raw s1.heap d es ep := ⟨o, hgd, hx, hdt⟩
  refine ⟨raw.typeIs, fun b hb => ?_, ?_⟩
  · cases hb
    exact ⟨o, hgd, hx.2.1⟩
  have I2 : L2.Inv X pins σ H1 { s1 with heap := s1.heap.push { cls := .type "dict_items", data := .fields #[.ref d] } } := I1.kept (t' := s1.toks) fun b ob q => Heap.get?_push_of_some _ q
  show wpAny _ _ (callWith cpos (.builtin "dict.items") [.ref d] [] []) _ X.xe s1
  refine Calls.callWith_builtin rfl (PySem.evalArgs_none (DT.callItems hs raw ?_))
  refine DT.iterI (s := { s1 with heap := _ }) ⟨_, Heap.get?_push_size _ rfl, rfl, rfl⟩ (raw.push _) (pi_one (tk := s1.toks) I2 _ (turn_itemsT _ hdt) ⟨.none, .none, ?_⟩ q)
  rw [← hsz]
  exact Heap.get?_push_size _ rfl
theorem walk_itemsT {d : Addr} {o : Obj} {kvs : List (List Key × V)} : Walk (Itit d o kvs) kvs.length (fun H => H d = some (.frz o (.dT kvs)))
    (fun i H x H' => ∃ T k v q, kvs[i]? = some (k, v) ∧ x = .ref T ∧ H T = none ∧ H q = some (.tup (k.map kV)) ∧ H' = upd H T (.tup [.ref q, v])) :=
  ⟨fun _ _ hi q => ⟨q, hi⟩, fun _ q => ⟨q, Nat.le_refl _⟩, fun _ _ _ _ _ _ y => y⟩
end
/-! ### sorted(data) -/
def rSortD (K : PySem.W.Frag) : List V → Hp → VK → Prop := fun vs H Q => ∃ (a : Addr) (bs : List (V × PyData)), vs = [.ref a] ∧ SqL K H a (bs.map Prod.fst) ∧ (∀ b ∈ bs, Dp K H b.1 b.2) ∧ PySem.W.AllAlike (bs.map Prod.snd) ∧ PySem.W.Sortable (bs.map Prod.snd) ∧ (∀ b ∈ bs, b.2.depth ≤ 8) ∧
  ∀ p, H p = none → Q (.ref p) (upd H p (.lst ((bs.mergeSort (PySem.W.dataLe false Prod.snd)).map Prod.fst)))
theorem vals_each : ∀ {bs : List (V × PyData)} {us : List Value}, Vals (bs.map Prod.fst) us → PySem.W.EachIs (fun v (b : V × PyData) => RelV b.1 v) us bs
  | [], _, .nil => PySem.W.EachIs.nil
  | _ :: _, _, .cons e r => PySem.W.EachIs.cons e (vals_each r)
theorem each_vals : ∀ {bs : List (V × PyData)} {us : List Value}, PySem.W.EachIs (fun v (b : V × PyData) => RelV b.1 v) us bs → Vals (bs.map Prod.fst) us
  | _, _, .nil => .nil
  | _, _, .cons h1 h2 => .cons h1 (each_vals h2)
theorem each_reads {X : Cx} {pins : List (Addr × Obj)} {σ : L2.St} {H : Hp} {s : Shared} (I : L2.Inv X pins σ H s) : ∀ {bs : List (V × PyData)} {us : List Value}, Vals (bs.map Prod.fst) us → (∀ b ∈ bs, Dp X.K H b.1 b.2) → PySem.W.EachIs (fun v (b : V × PyData) => ∃ as, Reads s.heap v b.2 as) us bs
  | [], _, .nil, _ => PySem.W.EachIs.nil
  | b :: bs, _, .cons e r, h => PySem.W.EachIs.cons (Dp.reads I b.2 b.1 _ (h b List.mem_cons_self) e) (each_reads I r fun c hc => h c (List.mem_cons_of_mem _ hc))
theorem cr_sortedD {X : Cx} (hu : X.A.units + 64 < cLine) : CallR X (.builtin "sorted") (rSortD X.K) := by
  intro pins s σ H vs us Q I r h
  obtain ⟨a, bs, rfl, hs, hd, hal, hk, hdp, q⟩ := h
  obtain ⟨u, rfl, rx⟩ := vals1 r
  cases rx
  obtain ⟨its, rv, hl, hz⟩ := I.list hs
  rw [List.length_map] at hz
  refine PySem.W.sorted_data (enc := Prod.snd) hl.isList (vals_each rv) (each_reads I rv hd) hal hk hz (fun b hb => by have := hdp b hb; omega) fun out hlen he => ?_
  obtain ⟨c, hc⟩ := sortedAll_at s.heap its out.toArray
  have hz2 : ((bs.mergeSort (PySem.W.dataLe false Prod.snd)).map Prod.fst).length ≤ sizeLine := by rw [List.length_map, List.length_mergeSort]; exact hz
  exact ⟨.ref (s.heap.objs.size + 1), _, I.laid (t' := s.toks) (fun b o e => sortedAll_old e) (Nat.le_succ _) (show ObjOk X.prog X.w _ _ _ (.lst ((bs.mergeSort (PySem.W.dataLe false Prod.snd)).map Prod.fst)) from ⟨hz2, out, c, each_vals he, hc⟩), rfl, q _ (I.hok.fresh (Nat.le_succ _))⟩
end MN
/-! plain law of prices: closed prices (Floyd and Warshall), costs of changes by a table, a cheapest last change -/
namespace MN
abbrev Nd := Option Nat
/-- a node: no sign, or one of L -/
def InL (L : List Nat) (x : Nd) : Prop := ∀ a, x = some a → a ∈ L
theorem InL.no {L : List Nat} : InL L none := fun _ e => nomatch e
theorem InL.of {L : List Nat} {a : Nat} (h : a ∈ L) : InL L (some a) := fun _ e => by cases e; exact h
section
variable {L : List Nat} {r : Nd → Nd → Option Int}
inductive Path (L : List Nat) (r : Nd → Nd → Option Int) : Nd → Nd → Int → Prop
  | one {x y p} : InL L x → InL L y → r x y = some p → Path L r x y p
  | more {x y z t p} : Path L r x y t → InL L z → r y z = some p → Path L r x z (t + p)
theorem Path.cat {x y z : Nd} {s t : Int} (h1 : Path L r x y s) (h2 : Path L r y z t) : Path L r x z (s + t) := by
  induction h2 with
  | one _ hy e => exact h1.more hy e
  | more _ hz e ih => rw [← Int.add_assoc]; exact ih.more hz e
theorem Path.pos (hp : ∀ x y p, r x y = some p → 1 ≤ p) {x y : Nd} {t : Int} (h : Path L r x y t) : 1 ≤ t := by
  induction h with
  | one _ _ e => exact hp _ _ _ e
  | more _ _ e ih => have := hp _ _ _ e; omega
theorem Path.ends {x y : Nd} {t : Int} (h : Path L r x y t) : InL L x ∧ InL L y := by
  induction h with
  | one hx hy _ => exact ⟨hx, hy⟩
  | more _ hz _ ih => exact ⟨ih.1, hz⟩
/-- a table while it is being closed; M: the middles so far -/
structure Tb (L : List Nat) (r : Nd → Nd → Option Int) (M : Nd → Prop) (O : Nd → Nd → Option Int) : Prop where
  dg : ∀ x, O x x = none
  pa : ∀ x y t, O x y = some t → Path L r x y t
  le : ∀ x y p, InL L x → InL L y → r x y = some p → ∃ t, O x y = some t ∧ t ≤ p
  tri : ∀ m x y a b, M m → x ≠ y → O x m = some a → O m y = some b → ∃ t, O x y = some t ∧ t ≤ a + b
/-- one middle -/
def ph (m : Nd) (O : Nd → Nd → Option Int) : Nd → Nd → Option Int := fun x y => if x = y then O x y else match O x m, O m y with
  | some a, some b => some (match O x y with | none => a + b | some t => min (a + b) t)
  | _, _ => O x y
variable {m : Nd} {O : Nd → Nd → Option Int}
theorem ph_one {x y : Nd} {t : Int} (h : O x y = some t) : ∃ t', ph m O x y = some t' ∧ t' ≤ t := by
  unfold ph
  split
  · exact ⟨t, h, Int.le_refl _⟩
  · split
    · rw [h]; exact ⟨_, rfl, Int.min_le_right _ _⟩
    · exact ⟨t, h, Int.le_refl _⟩
theorem ph_two {x y : Nd} {a b : Int} (n : x ≠ y) (h1 : O x m = some a) (h2 : O m y = some b) : ∃ t', ph m O x y = some t' ∧ t' ≤ a + b := by
  unfold ph
  rw [if_neg n, h1, h2]
  cases O x y with
  | none => exact ⟨_, rfl, Int.le_refl _⟩
  | some t => exact ⟨_, rfl, Int.min_le_left _ _⟩
theorem ph_or {x y : Nd} {t : Int} (h : ph m O x y = some t) : O x y = some t ∨ ∃ a b, x ≠ y ∧ O x m = some a ∧ O m y = some b ∧ t = a + b := by
  unfold ph at h
  split at h
  · exact .inl h
  · rename_i n
    split at h
    · rename_i a b e1 e2
      cases e : O x y with
      | none => rw [e] at h; exact .inr ⟨a, b, n, e1, e2, (Option.some.inj h).symm⟩
      | some t0 =>
        rw [e] at h
        have h' : min (a + b) t0 = t := Option.some.inj h
        rcases Int.le_total (a + b) t0 with q | q
        · rw [Int.min_eq_left q] at h'; exact .inr ⟨a, b, n, e1, e2, h'.symm⟩
        · rw [Int.min_eq_right q] at h'; rw [h']; exact .inl rfl
    · exact .inl h
theorem Tb.phase {M : Nd → Prop} (hp : ∀ x y p, r x y = some p → 1 ≤ p) (T : Tb L r M O) : Tb L r (fun z => M z ∨ z = m) (ph m O) := by
  have po : ∀ {x y t}, O x y = some t → 1 ≤ t := fun h => (T.pa _ _ _ h).pos hp
  refine ⟨fun x => ?_, fun x y t h => ?_, fun x y p hx hy h => ?_, fun k x y a b hk n h1 h2 => ?_⟩
  · unfold ph; rw [if_pos rfl]; exact T.dg x
  · rcases ph_or h with h | ⟨a, b, _, h1, h2, rfl⟩
    · exact T.pa _ _ _ h
    · exact (T.pa _ _ _ h1).cat (T.pa _ _ _ h2)
  · obtain ⟨t, e, l⟩ := T.le x y p hx hy h
    obtain ⟨t', e', l'⟩ := ph_one (m := m) e
    exact ⟨t', e', by omega⟩
  · rcases hk with hk | rfl
    · rcases ph_or h1 with h1' | ⟨a1, a2, _, e1, e2, rfl⟩
      · clear h1
        rcases ph_or h2 with h2' | ⟨b1, b2, _, f1, f2, rfl⟩
        · obtain ⟨t, e, l⟩ := T.tri k x y a b hk n h1' h2'
          obtain ⟨t', e', l'⟩ := ph_one (m := m) e
          exact ⟨t', e', by omega⟩
        · by_cases q : x = m
          · subst q
            obtain ⟨t', e', l'⟩ := ph_one (m := x) f2
            have := po h1'; have := po f1
            exact ⟨t', e', by omega⟩
          · obtain ⟨t, e, l⟩ := T.tri k x m a b1 hk q h1' f1
            obtain ⟨t', e', l'⟩ := ph_two (m := m) n e f2
            exact ⟨t', e', by omega⟩
      · rcases ph_or h2 with h2 | ⟨b1, b2, _, f1, f2, rfl⟩
        · by_cases q : m = y
          · subst q
            obtain ⟨t', e', l'⟩ := ph_one (m := m) e1
            have := po h2; have := po e2
            exact ⟨t', e', by omega⟩
          · obtain ⟨t, e, l⟩ := T.tri k m y a2 b hk q e2 h2
            obtain ⟨t', e', l'⟩ := ph_two (m := m) n e1 e
            exact ⟨t', e', by omega⟩
        · obtain ⟨t', e', l'⟩ := ph_two (m := m) n e1 f2
          have := po e2; have := po f1
          exact ⟨t', e', by omega⟩
    · have g1 : O x k = some a := by
        rcases ph_or h1 with h | ⟨_, _, _, _, e, _⟩
        · exact h
        · rw [T.dg k] at e; cases e
      have g2 : O k y = some b := by
        rcases ph_or h2 with h | ⟨_, _, _, e, _⟩
        · exact h
        · rw [T.dg k] at e; cases e
      exact ph_two n g1 g2
/-- closed prices -/
structure Clo (L : List Nat) (r : Nd → Nd → Option Int) (c : Nd → Nd → Int) : Prop where
  z : ∀ x, c x x = 0
  pos : ∀ x y, InL L x → InL L y → x ≠ y → 1 ≤ c x y
  tri : ∀ x y z, InL L x → InL L y → InL L z → c x z ≤ c x y + c y z
  le : ∀ x y p, InL L x → InL L y → r x y = some p → c x y ≤ p
  last : ∀ x y, InL L x → InL L y → x ≠ y → ∃ z p, InL L z ∧ z ≠ y ∧ r z y = some p ∧ c x y = c x z + p
def cOf (O : Nd → Nd → Option Int) : Nd → Nd → Int := fun x y => (O x y).getD 0
theorem Tb.clo (hp : ∀ x y p, r x y = some p → 1 ≤ p) (hr : ∀ a ∈ L, (∃ p, r none (some a) = some p) ∧ ∃ p, r (some a) none = some p) (T : Tb L r (InL L) O) : Clo L r (cOf O) ∧ ∀ x y, InL L x → InL L y → x ≠ y → ∃ t, O x y = some t := by
  have tot : ∀ x y, InL L x → InL L y → x ≠ y → ∃ t, O x y = some t := fun x y hx hy n => by
    cases x with
    | none =>
      cases y with
      | none => exact absurd rfl n
      | some b =>
        obtain ⟨p, e⟩ := (hr b (hy b rfl)).1
        obtain ⟨t, h, _⟩ := T.le _ _ p hx hy e
        exact ⟨t, h⟩
    | some a =>
      obtain ⟨p, e⟩ := (hr a (hx a rfl)).2
      obtain ⟨t, h, _⟩ := T.le _ _ p hx InL.no e
      cases y with
      | none => exact ⟨t, h⟩
      | some b =>
        obtain ⟨q, f⟩ := (hr b (hy b rfl)).1
        obtain ⟨u, g, _⟩ := T.le _ _ q InL.no hy f
        obtain ⟨v, k, _⟩ := T.tri none _ _ t u InL.no n h g
        exact ⟨v, k⟩
  have c0 : ∀ x, cOf O x x = 0 := fun x => by unfold cOf; rw [T.dg x]; rfl
  have cv : ∀ {x y t}, O x y = some t → cOf O x y = t := fun e => by unfold cOf; rw [e]; rfl
  have tri : ∀ x y z, InL L x → InL L y → InL L z → cOf O x z ≤ cOf O x y + cOf O y z := fun x y z hx hy hz => by
    by_cases h1 : x = y
    · subst h1; rw [c0 x]; omega
    · by_cases h2 : y = z
      · subst h2; rw [c0 y]; omega
      · obtain ⟨a, ea⟩ := tot x y hx hy h1
        obtain ⟨b, eb⟩ := tot y z hy hz h2
        have pa := (T.pa _ _ _ ea).pos hp
        have pb := (T.pa _ _ _ eb).pos hp
        rw [cv ea, cv eb]
        by_cases h3 : x = z
        · subst h3; rw [c0 x]; omega
        · obtain ⟨t, et, lt⟩ := T.tri y x z a b hy h3 ea eb
          rw [cv et]; exact lt
  have le : ∀ x y p, InL L x → InL L y → r x y = some p → cOf O x y ≤ p := fun x y p hx hy e => by
    obtain ⟨t, et, lt⟩ := T.le x y p hx hy e
    rw [cv et]; exact lt
  refine ⟨⟨c0, fun x y hx hy n => ?_, tri, le, fun x y hx hy n => ?_⟩, tot⟩
  · obtain ⟨t, e⟩ := tot x y hx hy n
    rw [cv e]
    exact (T.pa _ _ _ e).pos hp
  · obtain ⟨t, e⟩ := tot x y hx hy n
    have lt : ∀ {z u}, Path L r x z u → cOf O x z ≤ u := fun h => by
      induction h with
      | one hx hy e => exact le _ _ _ hx hy e
      | more hh hz e ih =>
        have h1 := tri _ _ _ hx hh.ends.2 hz
        have h2 := le _ _ _ hh.ends.2 hz e
        omega
    have rn : ∀ {z q}, r z y = some q → InL L z → z ≠ y := fun {z q} e hz q' => by
      subst q'
      obtain ⟨t, et, _⟩ := T.le _ _ _ hz hz e
      rw [T.dg] at et; cases et
    rw [cv e]
    cases T.pa _ _ _ e with
    | one _ _ e' => exact ⟨x, t, hx, n, e', by rw [c0 x]; omega⟩
    | more hh hz2 e' =>
      rename_i z s p
      have h1 := lt hh
      have h2 := tri x z y hx hh.ends.2 hy
      have h3 := le z y p hh.ends.2 hy e'
      rw [cv e] at h2
      exact ⟨z, p, hh.ends.2, rn e' hh.ends.2, e', by omega⟩
/-- closed prices are closed -/
theorem Clo.same {c c' : Nd → Nd → Int} (C : Clo L r c) (C' : Clo L (fun x y => if x = y then none else some (c x y)) c') : ∀ x y, InL L x → InL L y → c' x y = c x y := by
  have key : ∀ (n : Nat) (x y : Nd), InL L x → InL L y → c' x y ≤ n → c x y ≤ c' x y := by
    intro n
    induction n with
    | zero =>
      intro x y hx hy h
      by_cases e : x = y
      · subst e; rw [C.z, C'.z]; exact Int.le_refl _
      · have := C'.pos x y hx hy e; omega
    | succ n ih =>
      intro x y hx hy h
      by_cases e : x = y
      · subst e; rw [C.z, C'.z]; exact Int.le_refl _
      · obtain ⟨z, p, hz, nz, er, ec⟩ := C'.last x y hx hy e
        have er' : (if z = y then none else some (c z y)) = some p := er
        rw [if_neg nz] at er'
        have ep : c z y = p := Option.some.inj er'
        have p1 := C.pos z y hz hy nz
        have h1 := ih x z hx hz (by omega)
        have h2 := C.tri x z y hx hz hy
        omega
  intro x y hx hy
  by_cases e : x = y
  · subst e; rw [C.z, C'.z]
  · have h1 : c' x y ≤ c x y := C'.le x y _ hx hy (by show (if x = y then none else some (c x y)) = _; rw [if_neg e])
    have h2 := key (c' x y).toNat x y hx hy (by have := C'.pos x y hx hy e; omega)
    omega
end
/-! ### costs -/
def Dc (c : Nd → Nd → Int) : List Nat → List Nat → Int
  | [], [] => 0
  | [], y :: v => Dc c [] v + c none (some y)
  | x :: u, [] => Dc c u [] + c (some x) none
  | x :: u, y :: v => min (min (Dc c u v + c (some x) (some y)) (Dc c u (y :: v) + c (some x) none)) (Dc c (x :: u) v + c none (some y))
section
variable {L : List Nat} {r : Nd → Nd → Option Int} {c : Nd → Nd → Int}
theorem Dc_put (C : Clo L r c) (y : Nat) (u v : List Nat) : Dc c u (y :: v) ≤ Dc c u v + c none (some y) := by
  cases u with
  | nil => simp [Dc]
  | cons x u => simp only [Dc]; omega
theorem Dc_out (C : Clo L r c) (x : Nat) (u v : List Nat) : Dc c (x :: u) v ≤ Dc c u v + c (some x) none := by
  cases v with
  | nil => simp [Dc]
  | cons y v => simp only [Dc]; omega
theorem Dc_sub (C : Clo L r c) (x y : Nat) (u v : List Nat) : Dc c (x :: u) (y :: v) ≤ Dc c u v + c (some x) (some y) := by simp only [Dc]; omega
theorem Dc_or {x y : Nat} {u v : List Nat} : Dc c (x :: u) (y :: v) = Dc c u v + c (some x) (some y) ∨ Dc c (x :: u) (y :: v) = Dc c u (y :: v) + c (some x) none ∨ Dc c (x :: u) (y :: v) = Dc c (x :: u) v + c none (some y) := by
  simp only [Dc]; omega
theorem Dc_self (C : Clo L r c) : ∀ u, Dc c u u ≤ 0
  | [] => by simp [Dc]
  | x :: u => by have := Dc_sub C x x u u; have := Dc_self C u; rw [C.z] at *; omega
theorem Dc_nn (C : Clo L r c) : ∀ u v, (∀ a ∈ u, a ∈ L) → (∀ a ∈ v, a ∈ L) → 0 ≤ Dc c u v ∧ (Dc c u v = 0 → u = v)
  | [], [], _, _ => ⟨by simp [Dc], fun _ => rfl⟩
  | [], y :: v, hu, hv => by
    have h1 := (Dc_nn C [] v hu fun a h => hv a (List.mem_cons_of_mem _ h)).1
    have h2 := C.pos none (some y) InL.no (InL.of (hv y List.mem_cons_self)) (fun e => nomatch e)
    simp only [Dc]
    exact ⟨by omega, fun e => by omega⟩
  | x :: u, [], hu, hv => by
    have h1 := (Dc_nn C u [] (fun a h => hu a (List.mem_cons_of_mem _ h)) hv).1
    have h2 := C.pos (some x) none (InL.of (hu x List.mem_cons_self)) InL.no (fun e => nomatch e)
    simp only [Dc]
    exact ⟨by omega, fun e => by omega⟩
  | x :: u, y :: v, hu, hv => by
    have hu' : ∀ a ∈ u, a ∈ L := fun a h => hu a (List.mem_cons_of_mem _ h)
    have hv' : ∀ a ∈ v, a ∈ L := fun a h => hv a (List.mem_cons_of_mem _ h)
    have hx := InL.of (hu x List.mem_cons_self)
    have hy := InL.of (hv y List.mem_cons_self)
    have h1 := Dc_nn C u v hu' hv'
    have h2 := (Dc_nn C u (y :: v) hu' hv).1
    have h3 := (Dc_nn C (x :: u) v hu hv').1
    have p2 := C.pos (some x) none hx InL.no (fun e => nomatch e)
    have p3 := C.pos none (some y) InL.no hy (fun e => nomatch e)
    by_cases e : x = y
    · subst e
      rcases Dc_or (c := c) (x := x) (y := x) (u := u) (v := v) with q | q | q
      · rw [q, C.z]
        exact ⟨by omega, fun e => by rw [h1.2 (by omega)]⟩
      · rw [q]; exact ⟨by omega, fun e => by omega⟩
      · rw [q]; exact ⟨by omega, fun e => by omega⟩
    · have p1 := C.pos (some x) (some y) hx hy (fun q => e (Option.some.inj q))
      rcases Dc_or (c := c) (x := x) (y := y) (u := u) (v := v) with q | q | q
      · rw [q]; exact ⟨by omega, fun e => by omega⟩
      · rw [q]; exact ⟨by omega, fun e => by omega⟩
      · rw [q]; exact ⟨by omega, fun e => by omega⟩
/-- one change at some place, by the prices f -/
inductive Chg (L : List Nat) (f : Nd → Nd → Option Int) : List Nat → List Nat → Int → Prop
  | put {y v s} : y ∈ L → f none (some y) = some s → Chg L f v (y :: v) s
  | out {y v s} : y ∈ L → f (some y) none = some s → Chg L f (y :: v) v s
  | swp {y z v s} : y ∈ L → z ∈ L → f (some y) (some z) = some s → Chg L f (y :: v) (z :: v) s
  | cons {y v w s} : Chg L f v w s → Chg L f (y :: v) (y :: w) s
theorem Dc_end (C : Clo L r c) {y z : Nd} {s : Int} (hy : InL L y) (hz : InL L z) (h : c y z ≤ s) : ∀ u v, (∀ a ∈ u, a ∈ L) → Dc c u (z.toList ++ v) ≤ Dc c u (y.toList ++ v) + s := by
  have h0 : 0 ≤ c y z := by
    by_cases e : y = z
    · subst e; rw [C.z]; exact Int.le_refl _
    · have := C.pos y z hy hz e; omega
  cases y with
  | none =>
    cases z with
    | none => intro u v _; simp; omega
    | some z =>
      intro u v _
      have := Dc_put C z u v
      simp at this ⊢; omega
  | some y =>
    intro u
    induction u with
    | nil =>
      intro v _
      cases z with
      | none =>
        show Dc c [] v ≤ Dc c [] (y :: v) + s
        have := C.pos none (some y) InL.no hy (fun e => nomatch e)
        simp only [Dc]; omega
      | some z =>
        show Dc c [] (z :: v) ≤ Dc c [] (y :: v) + s
        have := C.tri none (some y) (some z) InL.no hy hz
        simp only [Dc]; omega
    | cons x u ih =>
      intro v hu
      have hx := InL.of (hu x List.mem_cons_self)
      have hu' : ∀ a ∈ u, a ∈ L := fun a h => hu a (List.mem_cons_of_mem _ h)
      have i1 := ih v hu'
      cases z with
      | none =>
        show Dc c (x :: u) v ≤ Dc c (x :: u) (y :: v) + s
        have i1' : Dc c u v ≤ Dc c u (y :: v) + s := i1
        have o1 := Dc_out C x u v
        rcases Dc_or (c := c) (x := x) (y := y) (u := u) (v := v) with q | q | q
        · have := C.tri (some x) (some y) none hx hy InL.no; omega
        · omega
        · have := C.pos none (some y) InL.no hy (fun e => nomatch e); omega
      | some z =>
        show Dc c (x :: u) (z :: v) ≤ Dc c (x :: u) (y :: v) + s
        have i1' : Dc c u (z :: v) ≤ Dc c u (y :: v) + s := i1
        have o1 := Dc_out C x u (z :: v)
        have o2 := Dc_sub C x z u v
        have o3 := Dc_put C z (x :: u) v
        rcases Dc_or (c := c) (x := x) (y := y) (u := u) (v := v) with q | q | q
        · have := C.tri (some x) (some y) (some z) hx hy hz; omega
        · omega
        · have := C.tri none (some y) (some z) InL.no hy hz; omega
theorem Dc_in {v w : List Nat} {s : Int} (C : Clo L r c) (y : Nat) (hs : ∀ u, (∀ a ∈ u, a ∈ L) → Dc c u w ≤ Dc c u v + s) : ∀ u, (∀ a ∈ u, a ∈ L) → Dc c u (y :: w) ≤ Dc c u (y :: v) + s := by
  intro u
  induction u with
  | nil => intro hu; have := hs [] hu; simp only [Dc]; omega
  | cons x u ih =>
    intro hu
    have hu' : ∀ a ∈ u, a ∈ L := fun a h => hu a (List.mem_cons_of_mem _ h)
    have h1 := hs u hu'
    have h2 := hs (x :: u) hu
    have h3 := ih hu'
    have o1 := Dc_out C x u (y :: w)
    have o2 := Dc_sub C x y u w
    have o3 := Dc_put C y (x :: u) w
    rcases Dc_or (c := c) (x := x) (y := y) (u := u) (v := v) with q | q | q <;> omega
/-- a change changes a cost by at most its price -/
theorem Dc_lip (C : Clo L r c) {v w : List Nat} {s : Int} (h : Chg L r v w s) : ∀ u, (∀ a ∈ u, a ∈ L) → Dc c u w ≤ Dc c u v + s := by
  induction h with
  | @put y v s hy e => exact fun u hu => Dc_end C InL.no (InL.of hy) (C.le _ _ _ InL.no (InL.of hy) e) u v hu
  | @out y v s hy e => exact fun u hu => Dc_end C (InL.of hy) InL.no (C.le _ _ _ (InL.of hy) InL.no e) u v hu
  | @swp y z v s hy hz e => exact fun u hu => Dc_end C (InL.of hy) (InL.of hz) (C.le _ _ _ (InL.of hy) (InL.of hz) e) u v hu
  | @cons y v w s _ ih => exact Dc_in C y ih
/-- a cheapest way has a last change -/
theorem Dc_pre (C : Clo L r c) : ∀ u v, (∀ a ∈ u, a ∈ L) → (∀ a ∈ v, a ∈ L) → u ≠ v → ∃ w s, Chg L r w v s ∧ (∀ a ∈ w, a ∈ L) ∧ Dc c u w + s ≤ Dc c u v ∧ (w.length ≤ v.length ∨ (w.length = v.length + 1 ∧ v.length < u.length)) := by
  have putw : ∀ (u v : List Nat) (y : Nat), y ∈ L → (∀ a ∈ v, a ∈ L) → ∃ w s, Chg L r w (y :: v) s ∧ (∀ a ∈ w, a ∈ L) ∧ Dc c u w + s ≤ Dc c u v + c none (some y) ∧ w.length ≤ (y :: v).length := fun u v y hy hv => by
    obtain ⟨z, p, hz, nz, er, ec⟩ := C.last none (some y) InL.no (InL.of hy) (fun e => nomatch e)
    cases z with
    | none => exact ⟨v, p, .put hy er, hv, by rw [C.z] at ec; omega, Nat.le_succ _⟩
    | some z =>
      refine ⟨z :: v, p, .swp (hz z rfl) hy er, fun a ha => ?_, ?_, Nat.le_refl _⟩
      · rcases List.mem_cons.mp ha with rfl | ha
        · exact hz _ rfl
        · exact hv a ha
      · have := Dc_put C z u v; omega
  intro u
  induction u with
  | nil =>
    intro v hu hv n
    cases v with
    | nil => exact absurd rfl n
    | cons y v =>
      obtain ⟨w, s, h1, h2, h3, h4⟩ := putw [] v y (hv y List.mem_cons_self) fun a h => hv a (List.mem_cons_of_mem _ h)
      exact ⟨w, s, h1, h2, by simp only [Dc]; exact h3, .inl h4⟩
  | cons x u ih =>
    intro v
    induction v with
    | nil =>
      intro hu hv _
      have hx := hu x List.mem_cons_self
      have hu' : ∀ a ∈ u, a ∈ L := fun a h => hu a (List.mem_cons_of_mem _ h)
      by_cases e : u = []
      · subst e
        obtain ⟨z, p, hz, nz, er, ec⟩ := C.last (some x) none (InL.of hx) InL.no (fun e => nomatch e)
        cases z with
        | none => exact absurd rfl nz
        | some z =>
          refine ⟨[z], p, .out (hz z rfl) er, fun a ha => ?_, ?_, .inr ⟨rfl, Nat.zero_lt_succ _⟩⟩
          · rcases List.mem_cons.mp ha with rfl | ha
            · exact hz _ rfl
            · cases ha
          · have := Dc_sub C x z [] []; simp only [Dc] at this ⊢; omega
      · obtain ⟨w, s, h1, h2, h3, h4⟩ := ih [] hu' hv e
        refine ⟨w, s, h1, h2, ?_, h4.imp id fun q => ⟨q.1, by simp⟩⟩
        have := Dc_out C x u w; simp only [Dc]; omega
    | cons y v ihv =>
      intro hu hv n
      have hx := hu x List.mem_cons_self
      have hy := hv y List.mem_cons_self
      have hu' : ∀ a ∈ u, a ∈ L := fun a h => hu a (List.mem_cons_of_mem _ h)
      have hv' : ∀ a ∈ v, a ∈ L := fun a h => hv a (List.mem_cons_of_mem _ h)
      rcases Dc_or (c := c) (x := x) (y := y) (u := u) (v := v) with q | q | q
      · by_cases e : x = y
        · subst e
          have n' : u ≠ v := fun e => n (by rw [e])
          obtain ⟨w, s, h1, h2, h3, h4⟩ := ih v hu' hv' n'
          refine ⟨x :: w, s, .cons h1, fun a ha => ?_, ?_, h4.imp Nat.succ_le_succ fun q => ⟨by simp [q.1], by simp [q.2]⟩⟩
          · rcases List.mem_cons.mp ha with rfl | ha
            · exact hx
            · exact h2 a ha
          · have := Dc_sub C x x u w; rw [C.z] at *; omega
        · obtain ⟨z, p, hz, nz, er, ec⟩ := C.last (some x) (some y) (InL.of hx) (InL.of hy) (fun q => e (Option.some.inj q))
          cases z with
          | none =>
            refine ⟨v, p, .put hy er, hv', ?_, .inl (Nat.le_succ _)⟩
            have := Dc_out C x u v; omega
          | some z =>
            refine ⟨z :: v, p, .swp (hz z rfl) hy er, fun a ha => ?_, ?_, .inl (Nat.le_refl _)⟩
            · rcases List.mem_cons.mp ha with rfl | ha
              · exact hz _ rfl
              · exact hv' a ha
            · have := Dc_sub C x z u v; omega
      · by_cases e : u = y :: v
        · subst e
          obtain ⟨z, p, hz, nz, er, ec⟩ := C.last (some x) none (InL.of hx) InL.no (fun e => nomatch e)
          cases z with
          | none => exact absurd rfl nz
          | some z =>
            refine ⟨z :: y :: v, p, .out (hz z rfl) er, fun a ha => ?_, ?_, .inr ⟨rfl, by simp⟩⟩
            · rcases List.mem_cons.mp ha with rfl | ha
              · exact hz _ rfl
              · exact hv a ha
            · have := Dc_sub C x z (y :: v) (y :: v); omega
        · obtain ⟨w, s, h1, h2, h3, h4⟩ := ih (y :: v) hu' hv e
          refine ⟨w, s, h1, h2, ?_, h4.imp id fun q => ⟨q.1, by have := q.2; simp at this ⊢; omega⟩⟩
          have := Dc_out C x u w; omega
      · obtain ⟨w, s, h1, h2, h3, h4⟩ := putw (x :: u) v y hy hv'
        exact ⟨w, s, h1, h2, by omega, .inl h4⟩
end
end MN
/-! plain law of rows: ways between states, rows of words -/
namespace MN
/-- from a state by a word (turned round) to a state -/
inductive LedR (ed : Nat → Nat → Nat → Prop) : Nat → List Nat → Nat → Prop
  | nil {p} : LedR ed p [] p
  | cons {p v q a t} : LedR ed p v q → ed q a t → LedR ed p (a :: v) t
def sumP (pc : Nat → Int) : List Nat → Int
  | [] => 0
  | a :: v => sumP pc v + pc a
theorem sumP_app (pc : Nat → Int) : ∀ u v, sumP pc (u ++ v) = sumP pc u + sumP pc v
  | [], v => by simp [sumP]
  | a :: u, v => by
    show sumP pc (u ++ v) + pc a = sumP pc u + pc a + sumP pc v
    rw [sumP_app pc u v]; omega
theorem LedR.app {ed : Nat → Nat → Nat → Prop} {p q t : Nat} {u v : List Nat} (h1 : LedR ed p u q) (h2 : LedR ed q v t) : LedR ed p (v ++ u) t := by
  induction h2 with
  | nil => exact h1
  | cons _ e ih => exact .cons ih e
section
variable {ed : Nat → Nat → Nat → Prop} {n : Nat} {pc : Nat → Int} {far : Int}
/-- ways between states; M: the states that they may go through -/
structure FwOk (ed : Nat → Nat → Nat → Prop) (n : Nat) (pc : Nat → Int) (far : Int) (M : Nat → Prop) (W : Nat → Nat → Int) : Prop where
  z : ∀ p, p < n → W p p = 0
  nn : ∀ p t, p < n → t < n → 0 ≤ W p t
  tri : ∀ q p t, M q → q < n → p < n → t < n → W p t ≤ W p q + W q t
  eg : ∀ p a t, p < n → t < n → ed p a t → W p t ≤ pc a
  at_ : ∀ p t, p < n → t < n → far ≤ W p t ∨ ∃ v, LedR ed p v t ∧ sumP pc v = W p t
def lowW (m : Nat) (W : Nat → Nat → Int) : Nat → Nat → Int := fun p t => min (W p t) (W p m + W m t)
theorem FwOk.phase {M : Nat → Prop} {W : Nat → Nat → Int} {m : Nat} (hm : m < n) (F : FwOk ed n pc far M W) : FwOk ed n pc far (fun q => M q ∨ q = m) (lowW m W) := by
  have zm := F.z m hm
  refine ⟨fun p hp => ?_, fun p t hp ht => ?_, fun q p t hq qn hp ht => ?_, fun p a t hp ht e => ?_, fun p t hp ht => ?_⟩
  · have h1 := F.z p hp
    have h2 := F.nn p m hp hm
    have h3 := F.nn m p hm hp
    unfold lowW
    omega
  · have h1 := F.nn p t hp ht
    have h2 := F.nn p m hp hm
    have h3 := F.nn m t hm ht
    unfold lowW
    omega
  · have a1 := F.nn p m hp hm
    have a2 := F.nn m t hm ht
    have a3 := F.nn q m qn hm
    have a4 := F.nn m q hm qn
    unfold lowW
    rcases hq with hq | rfl
    · have t1 := F.tri q p t hq qn hp ht
      have t2 := F.tri q m t hq qn hm ht
      have t3 := F.tri q p m hq qn hp hm
      omega
    · omega
  · have h1 := F.eg p a t hp ht e
    unfold lowW
    omega
  · have h1 := F.at_ p t hp ht
    unfold lowW
    by_cases c : W p t ≤ W p m + W m t
    · rw [Int.min_eq_left c]; exact h1
    · rw [Int.min_eq_right (by omega)]
      have b1 := F.nn p m hp hm
      have b2 := F.nn m t hm ht
      rcases F.at_ p m hp hm with g | ⟨v, g1, g2⟩
      · exact .inl (by omega)
      · rcases F.at_ m t hm ht with g | ⟨u, g3, g4⟩
        · exact .inl (by omega)
        · exact .inr ⟨u ++ v, g1.app g3, by rw [sumP_app]; omega⟩
/-- closed ways -/
abbrev WaysOk (ed : Nat → Nat → Nat → Prop) (n : Nat) (pc : Nat → Int) (far : Int) (W : Nat → Nat → Int) : Prop := FwOk ed n pc far (fun q => q < n) W
theorem WaysOk.led {W : Nat → Nat → Int} (F : WaysOk ed n pc far W) (hed : ∀ p a t, ed p a t → p < n ∧ t < n) {p t : Nat} {v : List Nat} (h : LedR ed p v t) (hp : p < n) : W p t ≤ sumP pc v := by
  induction h with
  | nil => rw [F.z _ hp]; exact Int.le_refl _
  | @cons v q a t h e ih =>
    obtain ⟨qn, tn⟩ := hed _ _ _ e
    have t1 := F.tri q p t qn qn hp tn
    have t2 := F.eg q a t qn tn e
    show W p t ≤ sumP pc v + pc a
    omega
/-- the row of a word (turned round) -/
structure RowOk (ed : Nat → Nat → Nat → Prop) (n : Nat) (c : Nd → Nd → Int) (far : Int) (u : List Nat) (row : Nat → Int) : Prop where
  nn : ∀ t, t < n → 0 ≤ row t
  lo : ∀ t v, t < n → LedR ed 0 v t → row t ≤ Dc c u v
  at_ : ∀ t, t < n → far ≤ row t ∨ ∃ v, LedR ed 0 v t ∧ Dc c u v ≤ row t
theorem Dc_nil {c : Nd → Nd → Int} : ∀ v : List Nat, Dc c [] v = sumP (fun a => c none (some a)) v
  | [] => by simp only [Dc, sumP]
  | a :: v => by simp only [Dc, sumP]; rw [Dc_nil v]
theorem row_start {c : Nd → Nd → Int} {W : Nat → Nat → Int} (hn : 0 < n) (hed : ∀ p a t, ed p a t → p < n ∧ t < n) (F : WaysOk ed n (fun a => c none (some a)) far W) : RowOk ed n c far [] (W 0) := by
  refine ⟨fun t ht => F.nn 0 t hn ht, fun t v ht h => ?_, fun t ht => ?_⟩
  · rw [Dc_nil]; exact F.led hed h hn
  · rcases F.at_ 0 t hn ht with h | ⟨v, h1, h2⟩
    · exact .inl h
    · exact .inr ⟨v, h1, by rw [Dc_nil, h2]; exact Int.le_refl _⟩
/-- behind one more sign -/
theorem row_behind {L : List Nat} {r : Nd → Nd → Option Int} {c : Nd → Nd → Int} (C : Clo L r c) {W : Nat → Nat → Int} (hn : 0 < n) (hed : ∀ p a t, ed p a t → p < n ∧ t < n ∧ a ∈ L) (F : WaysOk ed n (fun a => c none (some a)) far W)
    {u : List Nat} {row found res : Nat → Int} {s : Nat} (hs : s ∈ L) (R : RowOk ed n c far u row)
    (f1 : ∀ t, t < n → found t ≤ row t + c (some s) none) (f2 : ∀ p a t, ed p a t → found t ≤ row p + c (some s) (some a)) (f3 : ∀ t, t < n → found t = row t + c (some s) none ∨ ∃ p a, ed p a t ∧ found t = row p + c (some s) (some a))
    (r1 : ∀ q t, q < n → t < n → res t ≤ found q + W q t) (r2 : ∀ t, t < n → ∃ q, q < n ∧ res t = found q + W q t) : RowOk ed n c far (s :: u) res := by
  have c0 : 0 ≤ c (some s) none := by have := C.pos (some s) none (InL.of hs) InL.no (fun e => nomatch e); omega
  have cs : ∀ a, a ∈ L → 0 ≤ c (some s) (some a) := fun a ha => by
    by_cases e : s = a
    · rw [e, C.z]; exact Int.le_refl _
    · have := C.pos (some s) (some a) (InL.of hs) (InL.of ha) (fun q => e (Option.some.inj q)); omega
  have fn : ∀ t, t < n → 0 ≤ found t := fun t ht => by
    rcases f3 t ht with h | ⟨p, a, h1, h2⟩
    · have := R.nn t ht; omega
    · obtain ⟨pn, _, aL⟩ := hed _ _ _ h1
      have := R.nn p pn
      have := cs a aL
      omega
  have hed' : ∀ p a t, ed p a t → p < n ∧ t < n := fun p a t h => ⟨(hed p a t h).1, (hed p a t h).2.1⟩
  refine ⟨fun t ht => ?_, fun t v ht h => ?_, fun t ht => ?_⟩
  · obtain ⟨q, qn, e⟩ := r2 t ht
    have := fn q qn
    have := F.nn q t qn ht
    omega
  · have self : ∀ t, t < n → res t ≤ found t := fun t ht => by have := r1 t t ht ht; rw [F.z t ht] at this; omega
    have step : ∀ p a t, ed p a t → res t ≤ res p + c none (some a) := fun p a t e => by
      obtain ⟨pn, tn, _⟩ := hed p a t e
      obtain ⟨q, qn, eq⟩ := r2 p pn
      have h1 := r1 q t qn tn
      have h2 := F.tri p q t pn pn qn tn
      have h3 := F.eg p a t pn tn e
      have h3' : W p t ≤ c none (some a) := h3
      omega
    induction v generalizing t with
    | nil =>
      cases h
      have h1 := self 0 ht
      have h2 := f1 0 ht
      have h3 := R.lo 0 [] ht .nil
      simp only [Dc] at h3 ⊢
      omega
    | cons y v ih =>
      cases h with
      | cons h0 e =>
        rename_i p
        obtain ⟨pn, tn, _⟩ := hed _ _ _ e
        rcases Dc_or (c := c) (x := s) (y := y) (u := u) (v := v) with q | q | q
        · have h1 := R.lo p v pn h0
          have h2 := f2 p y t e
          have h3 := self t tn
          omega
        · have h1 := R.lo t (y :: v) tn (.cons h0 e)
          have h2 := f1 t tn
          have h3 := self t tn
          omega
        · have h1 := ih p pn h0
          have h2 := step p y t e
          omega
  · obtain ⟨q, qn, e⟩ := r2 t ht
    have fq := fn q qn
    rcases F.at_ q t qn ht with g | ⟨x, g1, g2⟩
    · exact .inl (by omega)
    · have wn := F.nn q t qn ht
      have base : ∀ v, Dc c (s :: u) (x ++ v) ≤ Dc c (s :: u) v + W q t := fun v => by
        rw [← g2]
        clear g1 g2
        induction x with
        | nil => simp [sumP]
        | cons a x ih =>
          have := Dc_put C a (s :: u) (x ++ v)
          show Dc c (s :: u) (a :: (x ++ v)) ≤ _
          simp only [sumP]
          omega
      rcases f3 q qn with h | ⟨p, a, h1, h2⟩
      · rcases R.at_ q qn with k | ⟨v, k1, k2⟩
        · exact .inl (by omega)
        · refine .inr ⟨x ++ v, k1.app g1, ?_⟩
          have b1 := base v
          have b2 := Dc_out C s u v
          omega
      · obtain ⟨pn, _, aL⟩ := hed _ _ _ h1
        have ca := cs a aL
        rcases R.at_ p pn with k | ⟨v, k1, k2⟩
        · exact .inl (by omega)
        · refine .inr ⟨x ++ a :: v, (LedR.cons k1 h1).app g1, ?_⟩
          have b1 := base (a :: v)
          have b2 := Dc_sub C s a u v
          omega
theorem RowOk.exact {c : Nd → Nd → Int} {u : List Nat} {row : Nat → Int} (R : RowOk ed n c far u row) {t : Nat} (ht : t < n) (h : ∃ v, LedR ed 0 v t ∧ Dc c u v < far) : ∃ v, LedR ed 0 v t ∧ Dc c u v = row t := by
  obtain ⟨v0, h1, h2⟩ := h
  have h3 := R.lo t v0 ht h1
  rcases R.at_ t ht with g | ⟨v, g1, g2⟩
  · omega
  · exact ⟨v, g1, by have := R.lo t v ht g1; omega⟩
theorem RowOk.uniq {c : Nd → Nd → Int} {u : List Nat} {r1 r2 : Nat → Int} (R1 : RowOk ed n c far u r1) (R2 : RowOk ed n c far u r2) {t : Nat} (ht : t < n) (h : ∃ v, LedR ed 0 v t ∧ Dc c u v < far) : r1 t = r2 t := by
  obtain ⟨v1, a1, b1⟩ := R1.exact ht h
  obtain ⟨v2, a2, b2⟩ := R2.exact ht h
  have := R1.lo t v2 ht a2
  have := R2.lo t v1 ht a1
  omega
/-- words that lead somewhere are of the signs -/
theorem LedR.over {L : List Nat} (hed : ∀ p a t, ed p a t → p < n ∧ t < n ∧ a ∈ L) {p t : Nat} {v : List Nat} (h : LedR ed p v t) : ∀ a ∈ v, a ∈ L := by
  induction h with
  | nil => intro a ha; cases ha
  | cons _ e ih =>
    intro b hb
    rcases List.mem_cons.mp hb with rfl | hb
    · exact (hed _ _ _ e).2.2
    · exact ih b hb
end
/-- longer words have that many signs put in -/
theorem Dc_long {L : List Nat} {r : Nd → Nd → Option Int} {c : Nd → Nd → Int} (C : Clo L r c) {k : Int} (k0 : 0 ≤ k) (hk : ∀ a ∈ L, k ≤ c none (some a)) : ∀ u v : List Nat, (∀ a ∈ u, a ∈ L) → (∀ a ∈ v, a ∈ L) → ((v.length : Int) - u.length) * k ≤ Dc c u v
  | [], [], _, _ => by simp [Dc]
  | [], y :: v, hu, hv => by
    have h1 := Dc_long C k0 hk [] v hu fun a h => hv a (List.mem_cons_of_mem _ h)
    have h2 := hk y (hv y List.mem_cons_self)
    simp only [Dc, List.length_cons, List.length_nil] at h1 ⊢
    have e : (((v.length + 1 : Nat) : Int) - ((0 : Nat) : Int)) * k = ((v.length : Int) - ((0 : Nat) : Int)) * k + k := by
      rw [show (((v.length + 1 : Nat) : Int) - ((0 : Nat) : Int)) = ((v.length : Int) - ((0 : Nat) : Int)) + 1 by omega, Int.add_mul, Int.one_mul]
    rw [e]; omega
  | x :: u, [], hu, hv => by
    have h := (Dc_nn C (x :: u) [] hu hv).1
    have : (((([] : List Nat).length : Nat) : Int) - ((x :: u).length : Int)) * k ≤ 0 := by
      refine Int.mul_nonpos_of_nonpos_of_nonneg ?_ k0
      simp only [List.length_nil, List.length_cons]; omega
    omega
  | x :: u, y :: v, hu, hv => by
    have hu' : ∀ a ∈ u, a ∈ L := fun a h => hu a (List.mem_cons_of_mem _ h)
    have hv' : ∀ a ∈ v, a ∈ L := fun a h => hv a (List.mem_cons_of_mem _ h)
    have h1 := Dc_long C k0 hk u v hu' hv'
    have h2 := Dc_long C k0 hk u (y :: v) hu' hv
    have h3 := Dc_long C k0 hk (x :: u) v hu hv'
    have hx := hu x List.mem_cons_self
    have hy := hv y List.mem_cons_self
    have c1 : 0 ≤ c (some x) (some y) := by
      by_cases e : x = y
      · rw [e, C.z]; exact Int.le_refl _
      · have := C.pos (some x) (some y) (InL.of hx) (InL.of hy) (fun q => e (Option.some.inj q)); omega
    have c2 : 0 ≤ c (some x) none := by have := C.pos (some x) none (InL.of hx) InL.no (fun e => nomatch e); omega
    have c3 := hk y hy
    simp only [List.length_cons] at h1 h2 h3 ⊢
    have e1 : (((v.length + 1 : Nat) : Int) - ((u.length + 1 : Nat) : Int)) * k = ((v.length : Int) - (u.length : Int)) * k := by
      rw [show (((v.length + 1 : Nat) : Int) - ((u.length + 1 : Nat) : Int)) = ((v.length : Int) - (u.length : Int)) by omega]
    have e2 : (((v.length + 1 : Nat) : Int) - (u.length : Int)) * k = ((v.length : Int) - (u.length : Int)) * k + k := by
      rw [show (((v.length + 1 : Nat) : Int) - (u.length : Int)) = ((v.length : Int) - (u.length : Int)) + 1 by omega, Int.add_mul, Int.one_mul]
    have e3 : ((v.length : Int) - ((u.length + 1 : Nat) : Int)) * k = ((v.length : Int) - (u.length : Int)) * k - k := by
      rw [show ((v.length : Int) - ((u.length + 1 : Nat) : Int)) = ((v.length : Int) - (u.length : Int)) - 1 by omega, Int.sub_mul, Int.one_mul]
    rw [e1]
    rw [e2] at h2
    rw [e3] at h3
    rcases Dc_or (c := c) (x := x) (y := y) (u := u) (v := v) with q | q | q <;> omega
end MN
/-! the draws of the laws k05 .. k09: choices, alphabet, choice, rates -/
namespace MN
open PySem PySem.Spec PyProof.Rows L2
theorem mergeK_nodup {more : List (Key × V)} : ∀ (kvs : List (Key × V)), ((kvs ++ more).map (·.1)).Nodup → mergeK kvs more = kvs ++ more := by
  induction more with
  | nil => intro kvs _; rw [List.append_nil]; rfl
  | cons p more ih =>
    intro kvs hn
    have hnew : p.1 ∉ kvs.map (·.1) := fun hm => by
      rw [List.map_append, List.map_cons] at hn
      exact (List.nodup_append.mp hn).2.2 p.1 hm p.1 List.mem_cons_self rfl
    have hp : putK kvs p.1 p.2 = kvs ++ [(p.1, p.2)] := by
      unfold putK
      rw [if_neg]
      intro q
      obtain ⟨kv, h1, h2⟩ := List.any_eq_true.mp q
      exact hnew (List.mem_map.mpr ⟨kv, h1, of_decide_eq_true h2⟩)
    show mergeK (putK kvs p.1 p.2) more = _
    rw [hp]
    have e : kvs ++ p :: more = (kvs ++ [(p.1, p.2)]) ++ more := by simp
    rw [ih _ (by rw [← e]; exact hn), e]
/-- prices by signs, in the signs' order -/
def dkF (zs : List Str) (g : Str → Int) : List (Key × V) := zs.map fun z => (Sum.inr z, V.int (g z))
theorem dkF_keys (zs : List Str) (g : Str → Int) : (dkF zs g).map (·.1) = zs.map Sum.inr := by
  unfold dkF; rw [List.map_map]; rfl
theorem SgnOk.nodup {zs : List Str} (h : SgnOk zs) : zs.Nodup := h.asc.imp fun {a b} hab e => by rw [e] at hab; exact List.lt_irrefl _ hab
theorem nodup_map {α β : Type} {f : α → β} (hf : ∀ a b, f a = f b → a = b) : ∀ {l : List α}, l.Nodup → (l.map f).Nodup := by
  intro l h
  rw [List.Nodup, List.pairwise_map]
  exact h.imp fun {a b} hab e => hab (hf a b e)
theorem dkF_nodup {zs : List Str} (h : zs.Nodup) (g : Str → Int) : ((dkF zs g).map (·.1)).Nodup := by
  rw [dkF_keys]
  exact nodup_map (fun a b e => Sum.inr.inj e) h
/-- swap prices: pairs of signs, in some order -/
def dtF (ps : List ((Str × Str) × Int)) : List (List Key × V) := ps.map fun x => ([Sum.inr x.1.1, Sum.inr x.1.2], V.int x.2)
theorem dtF_nodup {ps : List ((Str × Str) × Int)} (h : (ps.map Prod.fst).Nodup) : ((dtF ps).map (·.1)).Nodup := by
  unfold dtF
  rw [List.map_map]
  have e : ps.map ((fun x : List Key × V => x.1) ∘ fun x : (Str × Str) × Int => ([Sum.inr x.1.1, Sum.inr x.1.2], V.int x.2)) = (ps.map Prod.fst).map fun q => ([Sum.inr q.1, Sum.inr q.2] : List Key) := by
    rw [List.map_map]; rfl
  rw [e]
  refine nodup_map (fun a b hab => ?_) h
  injection hab with h1 h2
  injection h2 with h2 _
  exact Prod.ext (Sum.inr.inj h1) (Sum.inr.inj h2)
end MN
/-! prices: what they hold; is_pair, are_prices -/
namespace MN
open PySem PySem.Spec PyProof.Rows L2
/-- good prices: put and out by signs, swaps by pairs -/
structure PrN (zs zs2 : List Str) (g o : Str → Int) (ps : List ((Str × Str) × Int)) : Prop where
  sg : ∀ z ∈ zs, ∃ c ∈ ("abcde" : Str).cps.toList, z = ⟨#[c]⟩
  nd : zs.Nodup
  pos : 0 < zs.length
  le : zs.length ≤ 5
  pm : zs2.Perm zs
  pg : ∀ z ∈ zs, 1 ≤ g z ∧ g z ≤ 9
  po : ∀ z ∈ zs, 1 ≤ o z ∧ o z ≤ 9
  sn : (ps.map Prod.fst).Nodup
  sp : ∀ x ∈ ps, x.1.1 ∈ zs ∧ x.1.2 ∈ zs ∧ x.1.1 ≠ x.1.2 ∧ 1 ≤ x.2 ∧ x.2 ≤ 18
  sl : ps.length ≤ 100
theorem isSign_one {z : Str} (h : ∃ c ∈ ("abcde" : Str).cps.toList, z = ⟨#[c]⟩) : isSign (.str z) = true := by
  obtain ⟨c, hc, rfl⟩ := h
  simp only [isSign, isWordS, Bool.and_eq_true, decide_eq_true_eq]
  refine ⟨rfl, ?_⟩
  simp only [List.all_cons, List.all_nil, Bool.and_true, sgn, decide_eq_true_eq]
  exact hc
theorem len_one {z : Str} (h : ∃ c ∈ ("abcde" : Str).cps.toList, z = ⟨#[c]⟩) : z.length = 1 := by
  obtain ⟨c, hc, rfl⟩ := h
  rfl
theorem valV_of {α : Type} [DecidableEq α] {kvs : List (α × V)} (nd : (kvs.map (·.1)).Nodup) {k : α} {v : V} (h : (k, v) ∈ kvs) : valV kvs k = some v := by
  induction kvs with
  | nil => cases h
  | cons a kvs ih =>
    rw [List.map_cons, List.nodup_cons] at nd
    unfold valV
    by_cases e : a.1 = k
    · rcases List.mem_cons.mp h with q | q
      · rw [← q]; simp
      · exact absurd (List.mem_map.mpr ⟨_, q, rfl⟩) (by rw [← e]; exact nd.1)
    · rcases List.mem_cons.mp h with q | q
      · rw [← q] at e; exact absurd rfl e
      · have := ih nd.2 q
        unfold valV at this
        simpa [List.find?_cons, e] using this
theorem valV_no {α : Type} [DecidableEq α] {kvs : List (α × V)} {k : α} (h : k ∉ kvs.map (·.1)) : valV kvs k = none := by
  unfold valV
  rw [Option.map_eq_none_iff, List.find?_eq_none]
  intro x hx q
  exact h (List.mem_map.mpr ⟨x, hx, by simpa using q⟩)
theorem dkF_val {zs : List Str} (nd : zs.Nodup) (g : Str → Int) {z : Str} (h : z ∈ zs) : valV (dkF zs g) (.inr z) = some (.int (g z)) :=
  valV_of (dkF_nodup nd g) (List.mem_map.mpr ⟨z, h, rfl⟩)
theorem dtF_val {ps : List ((Str × Str) × Int)} (nd : (ps.map Prod.fst).Nodup) {x y : Str} {p : Int} (h : ((x, y), p) ∈ ps) : valV (dtF ps) [.inr x, .inr y] = some (.int p) :=
  valV_of (dtF_nodup nd) (List.mem_map.mpr ⟨_, h, rfl⟩)
theorem dtF_no {ps : List ((Str × Str) × Int)} {x y : Str} (h : (x, y) ∉ ps.map Prod.fst) : valV (dtF ps) [.inr x, .inr y] = none := by
  refine valV_no fun q => h ?_
  unfold dtF at q
  rw [List.map_map] at q
  obtain ⟨a, ha, e⟩ := List.mem_map.mp q
  have e' : ([Sum.inr a.1.1, Sum.inr a.1.2] : List Key) = [.inr x, .inr y] := e
  injection e' with e1 e2
  injection e2 with e2 _
  exact List.mem_map.mpr ⟨a, ha, Prod.ext (Sum.inr.inj e1) (Sum.inr.inj e2)⟩
section
variable {P : Program} {w : World} {K : PySem.W.Frag} {mg : Str → Option Value} {base : Heap}
/-! ### is_pair -/
def spIsPair (K : PySem.W.Frag) : Sp := fun vs H Q _ => ∃ t d x y kvs, vs = [.ref t, .ref d] ∧ SqT K H t [.str x, .str y] ∧ H d = some (.dK kvs) ∧ isSign (.str x) = true ∧ isSign (.str y) = true ∧ (∃ v, valV kvs (.inr x) = some v) ∧ (∃ v, valV kvs (.inr y) = some v) ∧ x ≠ y ∧ ∀ H', Same H H' → Q (.bl true) H'
abbrev N_is_pair : List Str := ["value", "signs", "sign"]
theorem sc_is_pair : FnScope N_is_pair ["value", "signs"] (defScope (top 23)) := ⟨rfl, rfl, rfl, by decide +kernel, rfl, by decide +kernel, by decide +kernel⟩
theorem c_is_pair (A : At K mg "is_pair" (top 23)) (B : Blt mg) (c_is_sign : Cal P w K mg base 1 "is_sign" (spIsSign K)) : Cal P w K mg base 2 "is_pair" (spIsPair K) := by
  refine cal_of A sc_is_pair (fun _ _ _ _ _ _ us hl => match us, hl with | [_, _], _ => rfl) (fun vs H Q E h => ?_) (fun f cdv A outer s H vs Q E hr h => ?_)
  · obtain ⟨_, _, _, _, _, rfl, _⟩ := h; rfl
  · obtain ⟨t, d, x, y, kvs, rfl, ht, hd, sx, sy, ⟨v1, g1⟩, ⟨v2, g2⟩, ne, hQ⟩ := h
    refine ⟨_, (pss_cons (ps_if (PW.pt (pw_or (pt_not (pt_val (pe_callB call_isS (by rfl) B.isinstance (by decide +kernel) (pa_cons (pv 0) (pa_cons (pe_bltn (v := .ty "tuple") (by rfl) B.tuple (by decide +kernel) rfl) pa_nil))))) (pw_or (pt_cmpR op_ne (pe_callB call_len_seq (by rfl) B.len (by decide +kernel) (pa_cons (pv 0) pa_nil)) pe_int (nomark _)) (pw_or1 (pt_not (pt_val (pe_callB (cr_all rfl) (by rfl) B.all (by decide +kernel) (pa_cons (pe_lc (own := [("sign", 2)]) (g := gName 2) (tt := tYes) (by rfl) sc_is_pair.nd (pi_tup (pv 0)) (blkOk_by (own := [("sign", 2)]) (N := N_is_pair) (sc := defScope (top 23)) (by decide +kernel)) (fun _ _ _ _ _ => (pg_name (i := 2) sc_is_pair.nd rfl (Or.inl rfl))) (fun _ _ _ _ _ => pts_nil) (fun _ _ _ _ _ => (pe_c c_is_sign hr (by decide) (by rfl) (pa_cons (pv 2) pa_nil)))) pa_nil))))))))
      (pss_one (ps_ret pe_bl))
      pss_nil)
      (pss_one (ps_ret (pe_and (pe_cmp (pc_din (hu_of hr) (pe_ix ix_tup (pv 0) pe_int (fun _ _ => rfl)) (pv 1)) rfl) (pe_and (pe_cmp (pc_din (hu_of hr) (pe_ix ix_tup (pv 0) pe_int (fun _ _ => rfl)) (pv 1)) rfl) (pe_one (pe_cmpR op_ne (pe_ix ix_tup (pv 0) pe_int (fun _ _ => rfl)) (pe_ix ix_tup (pv 0) pe_int (fun _ _ => rfl)) (nomark _)))))))), ?_⟩
    refine ⟨_, rfl, .ref t, "tuple", true, rfl, .ty (tyT ht) (by decide +kernel), _, rfl, iteF ?_⟩
    refine ⟨_, rfl, t, _, rfl, .inr ht, rfl, _, rfl, iteF ?_⟩
    refine ⟨_, rfl, t, rfl, ⟨_, ht⟩, fun D hD => ?_⟩
    refine lc_tplE ht hD (show 2 ≤ 1000000 by decide) (fun _ => true) (fun x => .bl true) (fun x _ => rfl) (fun x _ H2 e2 Q q => q _ (Same.refl _)) (fun v hv _ H2 e2 Q q => ?_) (fun H2 e2 h2 => ?_)
    · have hv' : v = .str x ∨ v = .str y := by simpa using hv
      rcases hv' with rfl | rfl
      · refine ⟨_, rfl, _, rfl, .str (by rw [(show x.length = 1 by simp [isSign] at sx; exact sx.1)]; decide), ?_⟩
        rw [sx]; exact q _ (Same.refl _)
      · refine ⟨_, rfl, _, rfl, .str (by rw [(show y.length = 1 by simp [isSign] at sy; exact sy.1)]; decide), ?_⟩
        rw [sy]; exact q _ (Same.refl _)
    refine ⟨D, [true, true], rfl, .inl (.inl h2), _, rfl, iteF ?_⟩
    have ht2 := Same.seqT e2 ht
    have hd2 := e2 _ _ hd
    refine ⟨_, rfl, t, _, _, _, rfl, rfl, ht2, rfl, _, rfl, d, some v1, rfl, .inl ⟨kvs, .inr x, .inl hd2, rfl, g1.symm⟩, _, rfl, iteT ?_⟩
    refine ⟨_, rfl, t, _, _, _, rfl, rfl, ht2, rfl, _, rfl, d, some v2, rfl, .inl ⟨kvs, .inr y, .inl hd2, rfl, g2.symm⟩, _, rfl, iteT ?_⟩
    refine ⟨_, rfl, t, _, _, _, rfl, rfl, ht2, rfl, _, rfl, t, _, _, _, rfl, rfl, ht2, rfl, rfl, ?_⟩
    have e : (!decide (V.str x = V.str y)) = true := by simp [ne]
    rw [e]
    exact hQ _ e2
/-! ### are_prices -/
def spAreP : Sp := fun vs H Q _ => ∃ a b c zs zs2 g o ps, vs = [.ref a, .ref b, .ref c] ∧ H a = some (.dK (dkF zs g)) ∧ H b = some (.dK (dkF zs2 o)) ∧ H c = some (.dT (dtF ps)) ∧ a ≠ b ∧ PrN zs zs2 g o ps ∧ ∀ H', Same H H' → Q (.bl true) H'
abbrev N_are_prices : List Str := ["put", "out", "swap", "table", "sign", "price", "pair"]
theorem sc_are_prices : FnScope N_are_prices ["put", "out", "swap"] (defScope (top 24)) := ⟨rfl, rfl, rfl, by decide +kernel, rfl, by decide +kernel, by decide +kernel⟩
theorem c_are_prices (A : At K mg "are_prices" (top 24)) (B : Blt mg) (G1 : GlC mg "MAX_PRICE" (.int 9)) (G2 : GlC mg "MAX_SWAP" (.int 18)) (c_is_sign : Cal P w K mg base 1 "is_sign" (spIsSign K)) (c_is_price : Cal P w K mg base 2 "is_price" (spIsPrice K)) (c_is_pair : Cal P w K mg base 2 "is_pair" (spIsPair K)) : Cal P w K mg base 3 "are_prices" spAreP := by
  refine cal_of A sc_are_prices (fun _ _ _ _ _ _ us hl => match us, hl with | [_, _, _], _ => rfl) (fun vs H Q E h => ?_) (fun f cdv A outer s H vs Q E hr h => ?_)
  · obtain ⟨_, _, _, _, _, _, _, _, rfl, _⟩ := h; rfl
  · obtain ⟨a, b, c, zs, zs2, g, o, ps, rfl, ha, hb, hc, nab, N, hQ⟩ := h
    refine ⟨_, (pss_cons (ps_if (PW.pt (pw_or (pt_not (pt_val (pe_callB (cr_all rfl) (by rfl) B.all (by decide +kernel) (pa_cons (pe_lc (own := [("table", 3)]) (g := gName 3) (tt := tYes) (by rfl) sc_are_prices.nd (pi_tup (pe_tup (pa_cons (pv 0) (pa_cons (pv 1) (pa_cons (pv 2) pa_nil))))) (blkOk_by (own := [("table", 3)]) (N := N_are_prices) (sc := defScope (top 24)) (by decide +kernel)) (fun _ _ _ _ _ => (pg_name (i := 3) sc_are_prices.nd rfl (Or.inl rfl))) (fun _ _ _ _ _ => pts_nil) (fun _ _ _ _ _ => (pe_callB (isSK (K := K) rfl) (by rfl) B.isinstance (by decide +kernel) (pa_cons (pv 3) (pa_cons (pe_bltn (v := .ty "dict") (by rfl) B.dict (by decide +kernel) rfl) pa_nil))))) pa_nil)))) (pw_or1 (pt_cmpR op_eq (pe_callB call_lenD (by rfl) B.len (by decide +kernel) (pa_cons (pv 0) pa_nil)) pe_int (nomark _)))))
      (pss_one (ps_ret pe_bl))
      pss_nil)
      (pss_cons (ps_if (PW.pt (pw_or (pt_not (pt_val (pe_callB (cr_all rfl) (by rfl) B.all (by decide +kernel) (pa_cons (pe_lock (pe_lc (own := [("sign", 4)]) (g := gName 4) (tt := tYes) (by rfl) sc_are_prices.nd (pi_keys (pv 0)) (blkOk_by (own := [("sign", 4)]) (N := N_are_prices) (sc := defScope (top 24)) (by decide +kernel)) (fun _ _ _ _ _ => (pg_name (i := 4) sc_are_prices.nd rfl (Or.inl rfl))) (fun _ _ _ _ _ => pts_nil) (fun _ _ _ _ _ => (pe_c c_is_sign hr (by decide) (by rfl) (pa_cons (pv 4) pa_nil))))) pa_nil)))) (pw_or (pt_cmpR op_ne (pe_callB call_lenD (by rfl) B.len (by decide +kernel) (pa_cons (pv 0) pa_nil)) (pe_callB call_lenD (by rfl) B.len (by decide +kernel) (pa_cons (pv 1) pa_nil)) (nomark _)) (pw_or1 (pt_not (pt_val (pe_callB (cr_all rfl) (by rfl) B.all (by decide +kernel) (pa_cons (pe_lock (pe_lc (own := [("sign", 4)]) (g := gName 4) (tt := tYes) (by rfl) sc_are_prices.nd (pi_keys (pv 0)) (blkOk_by (own := [("sign", 4)]) (N := N_are_prices) (sc := defScope (top 24)) (by decide +kernel)) (fun _ _ _ _ _ => (pg_name (i := 4) sc_are_prices.nd rfl (Or.inl rfl))) (fun _ _ _ _ _ => pts_nil) (fun _ _ _ _ _ => (pe_cmp (pc_din (hu_of hr) (pv 4) (pv 1)))))) pa_nil))))))))
        (pss_one (ps_ret pe_bl))
        pss_nil)
      (pss_cons (ps_if (pt_not (pt_val (pe_callB (cr_all rfl) (by rfl) B.all (by decide +kernel) (pa_cons (pe_lc (own := [("price", 5)]) (g := gName 5) (tt := tYes) (by rfl) sc_are_prices.nd (pi_list (pe_op op_cat (pe_listVals rfl (pv 0) (by rfl) B.list) (pe_listVals rfl (pv 1) (by rfl) B.list))) (blkOk_by (own := [("price", 5)]) (N := N_are_prices) (sc := defScope (top 24)) (by decide +kernel)) (fun _ _ _ _ _ => (pg_name (i := 5) sc_are_prices.nd rfl (Or.inl rfl))) (fun _ _ _ _ _ => pts_nil) (fun _ _ _ _ _ => (pe_c c_is_price hr (by decide) (by rfl) (pa_cons (pv 5) (pa_cons (pe_gl (by rfl) G1) pa_nil))))) pa_nil))))
        (pss_one (ps_ret pe_bl))
        pss_nil)
      (pss_one (ps_ret (pe_callB (cr_all rfl) (by rfl) B.all (by decide +kernel) (pa_cons (pe_lock (pe_lc (own := [("pair", 6), ("price", 5)]) (tt := tYes) (by rfl) sc_are_prices.nd (pi_itemsT (pv 2)) (blkOk_by (own := [("pair", 6), ("price", 5)]) (N := N_are_prices) (sc := defScope (top 24)) (by decide +kernel)) (fun _ _ _ _ _ => (pg_tupK (K := K) (n := 2) rfl rfl (pgs_cons (pg_name (i := 6) sc_are_prices.nd rfl (Or.inl rfl)) (pgs_cons (pg_name (i := 5) sc_are_prices.nd rfl (Or.inl rfl)) pgs_nil)))) (fun _ _ _ _ _ => pts_nil) (fun _ _ _ _ _ => pe_and (pe_c c_is_pair hr (by decide) (by rfl) (pa_cons (pv 6) (pa_cons (pv 0) pa_nil))) (pe_one (pe_c c_is_price hr (by decide) (by rfl) (pa_cons (pv 5) (pa_cons (pe_gl (by rfl) G2) pa_nil))))))) pa_nil))))))), ?_⟩
    have lz : (dkF zs g).length = zs.length := by simp [dkF]
    have lz2 : (dkF zs2 o).length = zs.length := by simp [dkF, N.pm.length_eq]
    -- all are dicts
    refine ⟨_, rfl, _, rfl, _, rfl, (show 3 ≤ sizeLine by decide), fun p hp => ⟨p, rfl, ⟨_, .inl (.inl upd_same)⟩, fun D hD => ?_⟩⟩
    have e1 : Same H (upd H p (.tup [.ref a, .ref b, .ref c])) := same_new hp
    refine lc_tplE (.inl (.inl upd_same)) hD (show 3 ≤ 1000000 by decide) (fun _ => true) (fun x => .bl true) (fun x _ => rfl) (fun x _ H2 e2 Q q => q _ (Same.refl _)) (fun x hx _ H2 e2 Q q => ?_) (fun H2 e2 h2 => ?_)
    · refine ⟨_, rfl, x, "dict", true, rfl, ?_, q _ (Same.refl _)⟩
      have ea := e2 _ _ (e1 _ _ ha)
      have eb := e2 _ _ (e1 _ _ hb)
      have ec := e2 _ _ (e1 _ _ hc)
      have hx' : x = .ref a ∨ x = .ref b ∨ x = .ref c := by simpa using hx
      rcases hx' with rfl | rfl | rfl
      · exact .ty (.base (.dK ea)) (by decide +kernel)
      · exact .ty (.base (.dK eb)) (by decide +kernel)
      · exact .ty (.base (.dT ec)) (by decide +kernel)
    refine ⟨D, [true, true, true], rfl, .inl (.inl h2), _, rfl, iteF ?_⟩
    have e2 := e1.trans e2
    refine ⟨_, rfl, a, _, rfl, e2 _ _ ha, rfl, _, rfl, ?_⟩
    rw [show decide (V.int ((dkF zs g).length : Nat) = V.int 0) = false from decide_eq_false fun z => by have := N.pos; injection z with z; omega]
    refine iteF ?_
    have ks : ∀ x ∈ (dkF zs g).map (fun kv => kV kv.1), ∃ z ∈ zs, x = .str z := fun x hx => by
      unfold dkF at hx
      rw [List.map_map] at hx
      obtain ⟨z, hz, rfl⟩ := List.mem_map.mp hx
      exact ⟨z, hz, rfl⟩
    have kl : (dkF zs g).length ≤ 1000000 := by have := N.le; omega
    have bs : ((((dkF zs g).map fun kv => kV kv.1).filter fun _ => true).map fun _ => V.bl true) = (List.replicate zs.length true).map V.bl := by
      unfold dkF
      rw [filter_all, List.map_map, List.map_map, List.map_replicate]
      exact List.map_const' ..
    have ball : ∀ n, (List.replicate n true).all id = true := fun n => by simp
    -- all keys are signs
    refine ⟨a, _, e2 _ _ ha, trivial, fun od => ⟨_, rfl, a, od, rfl, .inl ⟨_, upd_same, fun D2 hD2 => ?_⟩⟩⟩
    refine lc_keysL (e2 _ _ ha) hD2 kl (fun _ => true) (fun x => .bl true) (fun x _ => rfl) (fun x _ H3 _ _ Q q => q) (fun x hx _ H3 f3 _ Q q => ?_) (fun H3 f3 e3 h3 => ⟨f3, ?_⟩)
    · obtain ⟨z, hz, rfl⟩ := ks x hx
      refine ⟨_, rfl, _, rfl, .str (by rw [len_one (N.sg z hz)]; decide), ?_⟩
      rw [isSign_one (N.sg z hz)]
      exact q
    generalize upd H3 a (.dK (dkF zs g)) = H3' at *
    rw [bs] at h3
    refine ⟨D2, _, rfl, .inl (.inl h3), _, rfl, ?_⟩
    rw [ball]
    refine iteF ?_
    have e3 := e2.trans e3
    refine ⟨_, rfl, a, _, rfl, e3 _ _ ha, _, rfl, b, _, rfl, e3 _ _ hb, rfl, _, rfl, ?_⟩
    rw [lz, lz2, show (!decide (V.int (zs.length : Nat) = V.int (zs.length : Nat))) = false by simp]
    refine iteF ?_
    -- all keys in out
    refine ⟨a, _, e3 _ _ ha, trivial, fun od => ⟨_, rfl, a, od, rfl, .inl ⟨_, upd_same, fun D3 hD3 => ?_⟩⟩⟩
    refine lc_keysL (e3 _ _ ha) hD3 kl (fun _ => true) (fun x => .bl true) (fun x _ => rfl) (fun x _ H3 _ _ Q q => q) (fun x hx _ H3 f3 k3 Q q => ?_) (fun H4 f4 e4 h4 => ⟨f4, ?_⟩)
    · obtain ⟨z, hz, rfl⟩ := ks x hx
      refine ⟨_, rfl, _, rfl, b, some (.int (o z)), rfl, .inl ⟨_, .inr z, .inl (k3 b _ nab.symm (e3 _ _ hb)), rfl, ?_⟩, q⟩
      exact (dkF_val (N.pm.nodup_iff.mpr N.nd) o (N.pm.mem_iff.mpr hz)).symm
    generalize upd H4 a (.dK (dkF zs g)) = H4' at *
    rw [bs] at h4
    refine ⟨D3, _, rfl, .inl (.inl h4), _, rfl, ?_⟩
    rw [ball]
    refine iteF ?_
    have e4 := e3.trans e4
    -- prices
    refine ⟨_, rfl, a, _, rfl, e4 _ _ ha, fun p1 hp1 => ?_⟩
    have e5 := e4.trans (same_new (o := .lst ((dkF zs g).map (·.2))) hp1)
    refine ⟨_, rfl, b, _, rfl, e5 _ _ hb, fun p2 hp2 => ⟨p1, p2, (dkF zs g).map (·.2), (dkF zs2 o).map (·.2), rfl, rfl, ?_, upd_same, ?_, fun p3 hp3 => ?_⟩⟩
    · rw [upd_ne (ne_of_none upd_same hp2), upd_same]
    · have := N.le
      have : 1000 ≤ sizeLine := by decide
      simp only [List.length_map, lz, lz2]
      omega
    have e6 := e5.trans (same_new (o := .lst ((dkF zs2 o).map (·.2))) hp2)
    have e7 := e6.trans (same_new (o := .lst ((dkF zs g).map (·.2) ++ (dkF zs2 o).map (·.2))) hp3)
    refine ⟨p3, rfl, ⟨_, .inl (.inl upd_same)⟩, fun D4 hD4 => ?_⟩
    refine lc_lstE (.inl (.inl upd_same)) hD4 (by have := N.le; simp only [List.length_append, List.length_map, lz, lz2]; omega) (fun _ => true) (fun x => .bl true) (fun x _ => rfl) (fun x _ H2 e2 Q q => q _ (Same.refl _)) (fun x hx _ H2 e2 Q q => ?_) (fun H8 e8 h8 => ?_)
    · have hx' : ∃ n, x = .int n ∧ 1 ≤ n ∧ n ≤ 9 := by
        rcases List.mem_append.mp hx with hx | hx
        · unfold dkF at hx
          rw [List.map_map] at hx
          obtain ⟨z, hz, rfl⟩ := List.mem_map.mp hx
          exact ⟨_, rfl, N.pg z hz⟩
        · unfold dkF at hx
          rw [List.map_map] at hx
          obtain ⟨z, hz, rfl⟩ := List.mem_map.mp hx
          exact ⟨_, rfl, N.po z (N.pm.mem_iff.mp hz)⟩
      obtain ⟨n, rfl, n1, n2⟩ := hx'
      refine ⟨_, rfl, .int n, 9, rfl, .inl ⟨n, rfl, ?_⟩⟩
      rw [isInt_of (by omega) (by omega), decide_eq_true n1, decide_eq_true n2]
      exact q _ (Same.refl _)
    have b8 : (((((dkF zs g).map (·.2) ++ (dkF zs2 o).map (·.2)).filter fun _ => true).map fun _ => V.bl true)) = (List.replicate (zs.length + zs.length) true).map V.bl := by
      rw [filter_all]
      simp only [List.map_const', List.length_append, List.length_map, lz, lz2, List.map_replicate]
    rw [b8] at h8
    refine ⟨D4, _, rfl, .inl (.inl h8), _, rfl, ?_⟩
    rw [ball]
    refine iteF ?_
    have e8 := e7.trans e8
    -- swaps
    refine ⟨c, _, e8 _ _ hc, trivial, fun od => ⟨_, rfl, c, od, _, rfl, upd_same, fun D5 hD5 => ?_⟩⟩
    have nDc : D5 ≠ c := fun z => by rw [z, upd_same] at hD5; cases hD5
    have hD5' : H8 D5 = none := by rw [upd_ne nDc] at hD5; exact hD5
    have nca : c ≠ a := fun z => by rw [z, ha] at hc; cases hc
    refine lc_it walk_itemsT (fun i H' => Same H8 (upd H' c (.dT (dtF ps))) ∧ H' c = some (.frz od (.dT (dtF ps))) ∧ H' D5 = some (.lst ((List.replicate i true).map V.bl))) ⟨?_, by rw [upd_ne nDc.symm, upd_same], upd_same⟩ (fun i H' _ e => e.2.1) (fun i x H1 H2 hi e y => ?_) (fun H9 e => ?_)
    · exact (same_lock (e8 _ _ hc) hD5).1
    · obtain ⟨e9, f9, h9⟩ := e
      obtain ⟨T, k, v, q, hkv, rfl, hT, hq, rfl⟩ := y
      have nT : T ≠ c := fun z => by rw [z, f9] at hT; cases hT
      have nTD : T ≠ D5 := fun z => by rw [z, h9] at hT; cases hT
      unfold dtF at hkv
      rw [List.getElem?_map] at hkv
      obtain ⟨⟨⟨z1, z2⟩, n⟩, hx, ekv⟩ := Option.map_eq_some_iff.mp hkv
      cases ekv
      obtain ⟨i1, i2, ne, n1, n2⟩ := N.sp _ (List.mem_of_getElem? hx)
      refine ⟨T, [.ref q, .int n], rfl, .inl (.inl upd_same), rfl, _, _, rfl, _, _, rfl, rfl, rfl, yes_q (iteT ?_)⟩
      have hq2 : upd H1 T (.tup [.ref q, .int n]) q = some (.tup [.str z1, .str z2]) := by rw [upd_ne (ne_of_none hq hT)]; exact hq
      have ha2 : upd H1 T (.tup [.ref q, .int n]) a = some (.dK (dkF zs g)) := by
        have z := e9 _ _ (e8 _ _ ha)
        rw [upd_ne nca.symm] at z
        rw [upd_ne (ne_of_none z hT)]
        exact z
      refine ⟨_, rfl, _, rfl, q, a, z1, z2, _, rfl, .inl (.inl hq2), ha2, isSign_one (N.sg _ i1), isSign_one (N.sg _ i2), ⟨_, dkF_val N.nd g i1⟩, ⟨_, dkF_val N.nd g i2⟩, ne, fun H3 e3 => ⟨_, rfl, iteT ?_⟩⟩
      refine ⟨_, rfl, .int n, 18, rfl, .inl ⟨n, rfl, ?_⟩⟩
      rw [isInt_of (by omega) (by omega), decide_eq_true n1, decide_eq_true n2]
      have D3 : H3 D5 = some (.lst ((List.replicate i true).map V.bl)) := e3 _ _ (by rw [upd_ne nTD.symm]; exact h9)
      refine ⟨_, D3, ?_, ?_, ?_, ?_⟩
      · have : 1000 ≤ sizeLine := by decide
        have := N.sl
        have hi' : i < (dtF ps).length := hi
        simp [dtF] at hi' ⊢
        omega
      · intro y u hu
        have hu2 := e9 _ _ hu
        by_cases yc : y = c
        · subst yc; rw [upd_same] at hu2 ⊢; exact hu2
        · rw [upd_ne yc] at hu2 ⊢
          have yD : y ≠ D5 := fun z => by rw [z, hD5'] at hu; cases hu
          rw [upd_ne yD]
          exact e3 _ _ (by rw [upd_ne (ne_of_none hu2 hT)]; exact hu2)
      · rw [upd_ne nDc.symm]
        exact e3 _ _ (by rw [upd_ne nT.symm]; exact f9)
      · rw [upd_same, List.replicate_succ', List.map_append]
        rfl
    · obtain ⟨e9, f9, h9⟩ := e
      refine ⟨f9, D5, _, rfl, .inl (.inl (show upd H9 c (.dT (dtF ps)) D5 = some (.lst ((List.replicate (dtF ps).length true).map V.bl)) by rw [upd_ne nDc]; exact h9)), ?_⟩
      rw [ball]
      exact hQ _ (e8.trans e9)
end
end MN
/-! dict comprehensions over signs and pairs; Prices.__init__ -/
namespace MN
open PySem PySem.Spec PyProof.Rows L2
theorem putK_fresh {α : Type} [DecidableEq α] {kvs : List (α × V)} {k : α} {v : V} (h : k ∉ kvs.map (·.1)) : putK kvs k v = kvs ++ [(k, v)] := by
  unfold putK
  rw [if_neg]
  intro q
  obtain ⟨kv, h1, h2⟩ := List.any_eq_true.mp q
  exact h (List.mem_map.mpr ⟨kv, h1, of_decide_eq_true h2⟩)
theorem take_nodup {α : Type} {l : List α} (nd : l.Nodup) {i : Nat} {a : α} (h : l[i]? = some a) : a ∉ l.take i := fun q => by
  obtain ⟨j, hj⟩ := List.mem_iff_getElem?.mp q
  rw [List.getElem?_take] at hj
  split at hj
  · rename_i hji
    have h1 := (List.getElem?_eq_some_iff.mp hj)
    have h2 := (List.getElem?_eq_some_iff.mp h)
    have := (List.getElem_inj (h₀ := h1.1) (h₁ := h2.1) nd).mp (h1.2.trans h2.2.symm)
    omega
  · cases hj
theorem dkF_put {zs : List Str} (g : Str → Int) (nd : zs.Nodup) {i : Nat} {z : Str} (h : zs[i]? = some z) : putK (dkF (zs.take i) g) (.inr z) (.int (g z)) = dkF (zs.take (i + 1)) g := by
  rw [putK_fresh]
  · rw [List.take_add_one, h]
    simp [dkF]
  · rw [dkF_keys]
    intro q
    obtain ⟨y, hy, e⟩ := List.mem_map.mp q
    cases e
    exact take_nodup nd h hy
theorem dtF_put {ps : List ((Str × Str) × Int)} (nd : (ps.map Prod.fst).Nodup) {i : Nat} {x y : Str} {n : Int} (h : ps[i]? = some ((x, y), n)) : putK (dtF (ps.take i)) [.inr x, .inr y] (.int n) = dtF (ps.take (i + 1)) := by
  rw [putK_fresh]
  · rw [List.take_add_one, h]
    simp [dtF]
  · intro q
    unfold dtF at q
    rw [List.map_map] at q
    obtain ⟨a, ha, e⟩ := List.mem_map.mp q
    have e' : ([Sum.inr a.1.1, Sum.inr a.1.2] : List Key) = [.inr x, .inr y] := e
    injection e' with e1 e2
    injection e2 with e2 _
    have ea : a.1 = (x, y) := Prod.ext (Sum.inr.inj e1) (Sum.inr.inj e2)
    have hi : (ps.map Prod.fst)[i]? = some (x, y) := by rw [List.getElem?_map, h]; rfl
    refine take_nodup nd hi ?_
    rw [← ea, ← List.map_take]
    exact List.mem_map.mpr ⟨a, ha, rfl⟩
theorem perm_map_ex {α β : Type} {f : α → β} : ∀ {l : List β} {F : List α}, l.Perm (F.map f) → ∃ F' : List α, F'.Perm F ∧ l = F'.map f
  | [], F, h => by
    have := h.length_eq
    cases F with
    | nil => exact ⟨[], .refl _, rfl⟩
    | cons => simp at this
  | a :: l, F, h => by
    obtain ⟨x, hx, rfl⟩ := List.mem_map.mp (h.mem_iff.mp List.mem_cons_self)
    obtain ⟨s, t, rfl⟩ := List.append_of_mem hx
    have p : (s ++ x :: t).Perm (x :: (s ++ t)) := List.perm_middle
    have h2 := h.trans (p.map f)
    rw [List.map_cons] at h2
    obtain ⟨F', q, e⟩ := perm_map_ex (h2.cons_inv)
    exact ⟨x :: F', (q.cons x).trans p.symm, by rw [e]; rfl⟩
section
variable {K : PySem.W.Frag} {a D : Addr} {H1 : Hp} {σ : L2.St} {vs : List Nat} {tk tv : TE} {j : Nat} {Qd : Hp → Prop}
def DcGoal (o0 : HO) (J : It) (g : TG) (tt : TT) (tk tv : TE) (vs : List Nat) (σ : L2.St) (H1 : Hp) (D : Addr) (Qd : Hp → Prop) : Prop := ∃ W : Nat → Nat → Hp → Prop, (∃ m, W 0 m (upd H1 D o0)) ∧ ∀ i m H, W i m H →
  (J.stop i H ∧ Qd H) ∨ (J.go i H ∧ ∃ Nx : Hp → Prop, (∀ H', Nx H' → ∃ m', m' < m ∧ W (i + 1) m' H') ∧ ∀ x H', J.yld i H x H' → g x (wipe σ vs) H' fun σ2 H2 => wipe σ2 vs = wipe σ vs ∧ tt σ2 H2 fun b H3 =>
    if b = true then tk σ2 H3 fun y H4 => tv σ2 H4 fun z H5 => ∃ H6, DPut H5 D y z H6 ∧ Nx H6 else Nx H3)
/-- {y: g(y) for y in signs} -/
theorem dp_signs {ys : List Str} (hs : SqL K H1 a (ys.map V.str)) (nd : ys.Nodup) (hz : ys.length ≤ 1000) (hD : H1 D = none) (g : Str → Int) (hw : ∀ y ∈ ys, wipe ((wipe σ vs).set j (some (.str y))) vs = wipe σ vs)
    (hk : ∀ y ∈ ys, ∀ H2, Same H1 H2 → ∀ Q : VK, Q (.str y) H2 → tk ((wipe σ vs).set j (some (.str y))) H2 Q) (hv : ∀ y ∈ ys, ∀ H2, Same H1 H2 → ∀ Q : VK, (∀ H3, Same H2 H3 → Q (.int (g y)) H3) → tv ((wipe σ vs).set j (some (.str y))) H2 Q)
    (hd : ∀ H', Same H1 H' → H' D = some (.dK (dkF ys g)) → Qd H') : DcGoal (.dK []) (Itl K a) (gName j) tYes tk tv vs σ H1 D Qd := by
  refine dp_it walk_list (fun i H' => Same H1 H' ∧ H' D = some (.dK (dkF (ys.take i) g))) ⟨same_new hD, by rw [List.take_zero]; exact upd_same⟩ (fun i H' _ e => Same.seq e.1 hs) (fun i x H H' hi e y => ?_) (fun H' e => ?_)
  · obtain ⟨rfl, hx⟩ := y
    obtain ⟨e1, e2⟩ := e
    rw [List.getElem?_map] at hx
    obtain ⟨y, hy, rfl⟩ := Option.map_eq_some_iff.mp hx
    have hm := List.mem_of_getElem? hy
    refine ⟨hw y hm, yes_q (iteT (hk y hm _ e1 _ (hv y hm _ e1 _ fun H3 e3 => ⟨_, .inl ⟨_, .inr y, e3 _ _ e2, rfl, ?_, rfl⟩, fun b o q => ?_, ?_⟩)))⟩
    · have : 100000 < sizeLine := by decide
      simp [dkF]
      omega
    · rw [upd_ne (ne_of_none q hD)]; exact e3 _ _ (e1 _ _ q)
    · rw [upd_same, dkF_put g nd hy]
  · obtain ⟨e1, e2⟩ := e
    refine hd H' e1 ?_
    rw [List.length_map, List.take_length] at e2
    exact e2
/-- {pair: price for pair in a list of pairs} -/
theorem dp_pairs {F : List (((Str × Str) × Int) × Addr)} (hs : SqL K H1 a (F.map fun e => V.ref e.2)) (nd : ((F.map Prod.fst).map Prod.fst).Nodup) (hz : F.length ≤ 1000) (hF : ∀ e ∈ F, H1 e.2 = some (.tup [.str e.1.1.1, .str e.1.1.2])) (hD : H1 D = none) (hw : ∀ e ∈ F, wipe ((wipe σ vs).set j (some (.ref e.2))) vs = wipe σ vs)
    (hk : ∀ e ∈ F, ∀ H2, Same H1 H2 → ∀ Q : VK, Q (.ref e.2) H2 → tk ((wipe σ vs).set j (some (.ref e.2))) H2 Q) (hv : ∀ e ∈ F, ∀ H2, Same H1 H2 → ∀ Q : VK, (∀ H3, Same H2 H3 → Q (.int e.1.2) H3) → tv ((wipe σ vs).set j (some (.ref e.2))) H2 Q)
    (hd : ∀ H', Same H1 H' → H' D = some (.dT (dtF (F.map Prod.fst))) → Qd H') : DcGoal (.dT []) (Itl K a) (gName j) tYes tk tv vs σ H1 D Qd := by
  refine dp_it walk_list (fun i H' => Same H1 H' ∧ H' D = some (.dT (dtF ((F.map Prod.fst).take i)))) ⟨same_new hD, by rw [List.take_zero]; exact upd_same⟩ (fun i H' _ e => Same.seq e.1 hs) (fun i x H H' hi e y => ?_) (fun H' e => ?_)
  · obtain ⟨rfl, hx⟩ := y
    obtain ⟨e1, e2⟩ := e
    rw [List.getElem?_map] at hx
    obtain ⟨f, hf, rfl⟩ := Option.map_eq_some_iff.mp hx
    have hm := List.mem_of_getElem? hf
    have hi2 : (F.map Prod.fst)[i]? = some ((f.1.1.1, f.1.1.2), f.1.2) := by rw [List.getElem?_map, hf]; rfl
    refine ⟨hw f hm, yes_q (iteT (hk f hm _ e1 _ (hv f hm _ e1 _ fun H3 e3 => ⟨_, .inr ⟨_, [.inr f.1.1.1, .inr f.1.1.2], f.2, e3 _ _ e2, rfl, e3 _ _ (e1 _ _ (hF f hm)), ?_, rfl⟩, fun b o q => ?_, ?_⟩)))⟩
    · have : 100000 < sizeLine := by decide
      simp [dtF]
      omega
    · rw [upd_ne (ne_of_none q hD)]; exact e3 _ _ (e1 _ _ q)
    · rw [upd_same, dtF_put nd hi2]
  · obtain ⟨e1, e2⟩ := e
    refine hd H' e1 ?_
    rw [List.length_map, ← List.length_map (f := Prod.fst), List.take_length] at e2
    exact e2
end
/-- an instance with put, out and swap prices (Prices, Closed) -/
def PrAt (C : Addr) (H : Hp) (x dx : Addr) (ys ys2 : List Str) (g o : Str → Int) (qs : List ((Str × Str) × Int)) : Prop :=
  ∃ A B S ws, Sl2 H x C dx ws ∧ ws[1]? = some (some (.ref A)) ∧ ws[0]? = some (some (.ref B)) ∧ ws[2]? = some (some (.ref S)) ∧ A ≠ B ∧ H A = some (.dK (dkF ys g)) ∧ H B = some (.dK (dkF ys2 o)) ∧ H S = some (.dT (dtF qs))
theorem PrAt.same {C : Addr} {H H' : Hp} {x dx : Addr} {ys ys2 : List Str} {g o : Str → Int} {qs : List ((Str × Str) × Int)} (h : PrAt C H x dx ys ys2 g o qs) (e : Same H H') : PrAt C H' x dx ys ys2 g o qs := by
  obtain ⟨A, B, S, ws, h1, h2, h3, h4, h5, h6, h7, h8⟩ := h
  exact ⟨A, B, S, ws, ⟨e _ _ h1.1, e _ _ h1.2⟩, h2, h3, h4, h5, e _ _ h6, e _ _ h7, e _ _ h8⟩
/-- a class with these slots -/
structure SlotC (K : PySem.W.Frag) (C : Addr) : Prop where
  sc : SlX.SCls K C
  s0 : ∃ p, SlX.Slot1 K C "own_out" p 0
  s1 : ∃ p, SlX.Slot1 K C "own_put" p 1
  s2 : ∃ p, SlX.Slot1 K C "own_swap" p 2
theorem Sl2.slt {H : Hp} {a C dx : Addr} {ws : List (Option V)} (h : Sl2 H a C dx ws) : SlX.Slt H a C dx ws := .inr h
theorem PrN.perm {zs zs2 ys ys2 : List Str} {g o : Str → Int} {ps qs : List ((Str × Str) × Int)} (N : PrN zs zs2 g o ps) (h1 : ys.Perm zs) (h2 : ys2.Perm zs) (h3 : qs.Perm ps) : PrN ys ys2 g o qs := by
  refine ⟨fun z h => N.sg z (h1.mem_iff.mp h), h1.nodup_iff.mpr N.nd, by rw [h1.length_eq]; exact N.pos, by rw [h1.length_eq]; exact N.le, h2.trans h1.symm, fun z h => N.pg z (h1.mem_iff.mp h), fun z h => N.po z (h1.mem_iff.mp h), (h3.map _).nodup_iff.mpr N.sn, fun x h => ?_, by rw [h3.length_eq]; exact N.sl⟩
  obtain ⟨a, b, c⟩ := N.sp x (h3.mem_iff.mp h)
  exact ⟨h1.mem_iff.mpr a, h1.mem_iff.mpr b, c⟩
/-- the pairs of a dict and their tuples' places -/
theorem keys_zip {H : Hp} {ps : List ((Str × Str) × Int)} {bs : List Addr} (h : IsKeys H (dtF ps) bs) : ∃ F : List (((Str × Str) × Int) × Addr), F.map Prod.fst = ps ∧ F.map Prod.snd = bs ∧ ∀ e ∈ F, H e.2 = some (.tup [.str e.1.1.1, .str e.1.1.2]) := by
  induction ps generalizing bs with
  | nil => cases h; exact ⟨[], rfl, rfl, fun _ h => nomatch h⟩
  | cons p ps ih =>
    cases h with
    | cons h1 h2 =>
      rename_i b bs
      obtain ⟨F, e1, e2, e3⟩ := ih h2
      refine ⟨(p, b) :: F, by rw [List.map_cons, e1], by rw [List.map_cons, e2], fun e he => ?_⟩
      rcases List.mem_cons.mp he with rfl | he
      · exact h1
      · exact e3 e he
section
variable {P : Program} {w : World} {K : PySem.W.Frag} {mg : Str → Option Value} {base : Heap}
def spPInit (C : Addr) : Sp := fun vs H Q _ => ∃ x dx a b c zs zs2 g o ps, vs = [.ref x, .ref a, .ref b, .ref c] ∧ H x = some (.ins C dx []) ∧ H dx = some (.own x) ∧ dx ≠ x ∧
  H a = some (.dK (dkF zs g)) ∧ H b = some (.dK (dkF zs2 o)) ∧ H c = some (.dT (dtF ps)) ∧ a ≠ b ∧ PrN zs zs2 g o ps ∧
  ∀ H' ys ys2 qs, Kp x dx H H' → PrAt C H' x dx ys ys2 g o qs → PrN ys ys2 g o qs → ys.Perm zs → sortedS ys = true → qs.Perm ps → Q .non H'
abbrev N_pinit : List Str := ["self", "put", "out", "swap", "sign", "pair"]
theorem sc_pinit : FnScope N_pinit ["self", "put", "out", "swap"] (defScope (inClass (top 26) 1)) := ⟨rfl, rfl, rfl, by decide +kernel, rfl, by decide +kernel, by decide +kernel⟩
theorem f_pinit {C f : Addr} {fd : FuncData} (PC : SlotC K C) (F : FunAt K "__init__" "Prices.__init__" (inClass (top 26) 1) [] f fd) (B : Blt mg) (c_are_prices : Cal P w K mg base 3 "are_prices" spAreP) : FnOk P w K mg base CX0 4 f fd ["self", "put", "out", "swap"] (spPInit C) := by
  refine fnok_of F sc_pinit (fun vs H Q E h => ?_) (fun cdv A outer s H vs Q E hr h => ?_)
  · obtain ⟨_, _, _, _, _, _, _, _, _, _, rfl, _⟩ := h; rfl
  · obtain ⟨x, dx, a, b, c, zs, zs2, g, o, ps, rfl, hx, hdx, dxx, ha, hb, hc, nab, N, hQ⟩ := h
    obtain ⟨p0, s0⟩ := PC.s0
    obtain ⟨p1, s1⟩ := PC.s1
    obtain ⟨p2, s2⟩ := PC.s2
    refine ⟨_, pss_cons (ps_if (pt_not (pt_val (pe_c c_are_prices hr (by decide) (by rfl) (pa_cons (pv 1) (pa_cons (pv 2) (pa_cons (pv 3) pa_nil)))))) (pss_one ps_never) pss_nil)
      (pss_cons (SlX.ps_sl (pv 0) (pe_dp1 (own := [("sign", 4)]) (o0 := .dK []) (g := gName 4) (tt := tYes) rfl (hu_of hr) sc_pinit.nd (pi_list (pe_callB cr_sortedS (by rfl) B.sorted (by decide +kernel) (pa_cons (pe_callTy (call_list_dK rfl) (by rfl) B.list (by decide +kernel) (pa_cons (pv 1) pa_nil)) pa_nil)))
        (blkOk_by (own := [("sign", 4)]) (N := N_pinit) (sc := defScope (inClass (top 26) 1)) (by decide +kernel)) (fun _ _ _ _ _ => (pg_name (i := 4) sc_pinit.nd rfl (Or.inl rfl))) (fun _ _ _ _ _ => pts_nil) (fun _ _ _ _ _ => pv 4) (fun _ _ _ _ _ => pe_dget (hu_of hr) (pv 1) (pv 4) (fun _ _ => rfl)) (.inl rfl)))
      (pss_cons (SlX.ps_sl (pv 0) (pe_dp1 (own := [("sign", 4)]) (o0 := .dK []) (g := gName 4) (tt := tYes) rfl (hu_of hr) sc_pinit.nd (pi_list (pe_callB cr_sortedS (by rfl) B.sorted (by decide +kernel) (pa_cons (pe_callTy (call_list_dK rfl) (by rfl) B.list (by decide +kernel) (pa_cons (pv 1) pa_nil)) pa_nil)))
        (blkOk_by (own := [("sign", 4)]) (N := N_pinit) (sc := defScope (inClass (top 26) 1)) (by decide +kernel)) (fun _ _ _ _ _ => (pg_name (i := 4) sc_pinit.nd rfl (Or.inl rfl))) (fun _ _ _ _ _ => pts_nil) (fun _ _ _ _ _ => pv 4) (fun _ _ _ _ _ => pe_dget (hu_of hr) (pv 2) (pv 4) (fun _ _ => rfl)) (.inl rfl)))
      (pss_one (SlX.ps_sl (pv 0) (pe_dp1 (own := [("pair", 5)]) (o0 := .dT []) (g := gName 5) (tt := tYes) rfl (hu_of hr) sc_pinit.nd (pi_list (pe_callB (cr_sortedD hr.units) (by rfl) B.sorted (by decide +kernel) (pa_cons (pe_callTy (call_list_dT rfl) (by rfl) B.list (by decide +kernel) (pa_cons (pv 3) pa_nil)) pa_nil)))
        (blkOk_by (own := [("pair", 5)]) (N := N_pinit) (sc := defScope (inClass (top 26) 1)) (by decide +kernel)) (fun _ _ _ _ _ => (pg_name (i := 5) sc_pinit.nd rfl (Or.inl rfl))) (fun _ _ _ _ _ => pts_nil) (fun _ _ _ _ _ => pv 5) (fun _ _ _ _ _ => pe_dget (hu_of hr) (pv 3) (pv 5) (fun _ _ => rfl)) (.inr rfl)))))), ?_⟩
    refine ⟨_, rfl, _, rfl, _, rfl, a, b, c, zs, zs2, g, o, ps, rfl, ha, hb, hc, nab, N, fun H1 e1 => ⟨_, rfl, iteF ?_⟩⟩
    have keyz : ∀ f : Str → Int, (dkF zs f).map (fun kv => kV kv.1) = zs.map V.str := fun f => by unfold dkF; rw [List.map_map]; rfl
    have l64 : zs.length < 64 := by have := N.le; omega
    have apart : ∀ {t : Addr} {kvs : List (Key × V)}, H t = some (.dK kvs) → t ≠ x ∧ t ≠ dx := fun h => ⟨fun z => (by rw [z, hx] at h; cases h), fun z => (by rw [z, hdx] at h; cases h)⟩
    have cx : c ≠ x := fun z => by rw [z, hx] at hc; cases hc
    have cd : c ≠ dx := fun z => by rw [z, hdx] at hc; cases hc
    obtain ⟨ax, ad⟩ := apart ha
    obtain ⟨bx, bd⟩ := apart hb
    have k1 : Kp x dx H H1 := fun b o _ _ q => e1 _ _ q
    -- own_put
    refine ⟨_, rfl, a, _, rfl, k1 _ _ ax ad ha, fun q hq => ⟨q, zs, rfl, .inl (.inl (by rw [keyz]; exact upd_same)), l64, fun ys p hys hso hp => ?_⟩⟩
    refine ⟨p, rfl, ⟨_, .inl (.inl upd_same)⟩, fun D hD => ?_⟩
    have e2 : Same H1 (upd (upd H1 q (.lst ((dkF zs g).map fun kv => kV kv.1))) p (.lst (ys.map V.str))) := (same_new hq).trans (same_new hp)
    refine dp_signs (.inl (.inl upd_same)) (hys.nodup_iff.mpr N.nd) (by have := hys.length_eq; omega) hD g (fun _ _ => rfl) (fun y _ H2 _ Q q => ⟨_, rfl, q⟩) (fun y hy H2 e Q q => ⟨_, rfl, _, rfl, a, .int (g y), rfl, .inl ⟨_, .inr y, .inl (e _ _ (e2 _ _ (k1 _ _ ax ad ha))), rfl, (dkF_val N.nd g (hys.mem_iff.mp hy)).symm⟩, q _ (Same.refl _)⟩) (fun H2 e3 hD2 => ?_)
    have e4 := e2.trans e3
    refine ⟨_, rfl, x, C, dx, p1, [], 1, rfl, .inl ⟨e4 _ _ (e1 _ _ hx), rfl⟩, PC.sc, s1, ?_⟩
    have fD : H1 D = none := e2.free hD
    have Dx : D ≠ x := (ne_of_none (e1 _ _ hx) fD).symm
    have Dd : D ≠ dx := (ne_of_none (e1 _ _ hdx) fD).symm
    have k3 : Kp x dx H (SlX.slH H2 x C dx (SlX.putS 1 (.ref D) [])) := (k1.same e4).sl
    have z3 : Sl2 (SlX.slH H2 x C dx (SlX.putS 1 (.ref D) [])) x C dx (SlX.putS 1 (.ref D) []) := slH_sl2 dxx
    have w3 : (SlX.putS 1 (.ref D) [])[1]? = some (some (.ref D)) := SlX.putS_get _ _ _
    have hD3 : SlX.slH H2 x C dx (SlX.putS 1 (.ref D) []) D = some (.dK (dkF ys g)) := by rw [SlX.slH_ne Dx Dd]; exact hD2
    generalize SlX.putS 1 (.ref D) [] = v3 at *
    generalize SlX.slH H2 x C dx v3 = H3 at *
    clear hD hD2 fD hp hq e2 e3 e4 k1 e1
    -- own_out
    refine ⟨_, rfl, a, _, rfl, k3 _ _ ax ad ha, fun q hq => ⟨q, zs, rfl, .inl (.inl (by rw [keyz]; exact upd_same)), l64, fun ys2 p hys2 _ hp => ?_⟩⟩
    refine ⟨p, rfl, ⟨_, .inl (.inl upd_same)⟩, fun D5 hD5 => ?_⟩
    have e2 : Same H3 (upd (upd H3 q (.lst ((dkF zs g).map fun kv => kV kv.1))) p (.lst (ys2.map V.str))) := (same_new hq).trans (same_new hp)
    refine dp_signs (.inl (.inl upd_same)) (hys2.nodup_iff.mpr N.nd) (by have := hys2.length_eq; omega) hD5 o (fun _ _ => rfl) (fun y _ H2 _ Q q => ⟨_, rfl, q⟩) (fun y hy H2 e Q q => ⟨_, rfl, _, rfl, b, .int (o y), rfl, .inl ⟨_, .inr y, .inl (e _ _ (e2 _ _ (k3 _ _ bx bd hb))), rfl, (dkF_val (N.pm.nodup_iff.mpr N.nd) o (N.pm.mem_iff.mpr (hys2.mem_iff.mp hy))).symm⟩, q _ (Same.refl _)⟩) (fun H4 e3 hD6 => ?_)
    have e4 := e2.trans e3
    refine ⟨_, rfl, x, C, dx, p0, v3, 0, rfl, slt_same e4 (.inr z3), PC.sc, s0, ?_⟩
    have fD : H3 D5 = none := e2.free hD5
    have D5x : D5 ≠ x := (ne_of_none z3.1 fD).symm
    have D5d : D5 ≠ dx := (ne_of_none z3.2 fD).symm
    have n5 : D ≠ D5 := ne_of_none hD3 fD
    have k5 : Kp x dx H (SlX.slH H4 x C dx (SlX.putS 0 (.ref D5) v3)) := (k3.same e4).sl
    have z5 : Sl2 (SlX.slH H4 x C dx (SlX.putS 0 (.ref D5) v3)) x C dx (SlX.putS 0 (.ref D5) v3) := slH_sl2 dxx
    have w5 : (SlX.putS 0 (.ref D5) v3)[0]? = some (some (.ref D5)) := SlX.putS_get _ _ _
    have w5' : (SlX.putS 0 (.ref D5) v3)[1]? = some (some (.ref D)) := (SlX.putS_ne (by decide)).mpr w3
    have hD7 : SlX.slH H4 x C dx (SlX.putS 0 (.ref D5) v3) D5 = some (.dK (dkF ys2 o)) := by rw [SlX.slH_ne D5x D5d]; exact hD6
    have hD8 : SlX.slH H4 x C dx (SlX.putS 0 (.ref D5) v3) D = some (.dK (dkF ys g)) := by rw [SlX.slH_ne Dx Dd]; exact e4 _ _ hD3
    generalize SlX.putS 0 (.ref D5) v3 = v5 at *
    generalize SlX.slH H4 x C dx v5 = H5 at *
    clear hD5 hD6 fD hp hq e2 e3 e4 k3 z3 w3 hD3
    -- own_swap
    refine ⟨_, rfl, c, _, rfl, .inl (k5 _ _ cx cd hc), fun q bs hq hbs => ?_⟩
    obtain ⟨F0, f1, f2, f3⟩ := keys_zip hbs
    have up1 := same_new (o := .lst (bs.map V.ref)) hq
    refine ⟨q, F0.map fun e => (V.ref e.2, PyData.tuple [.str e.1.1.1, .str e.1.1.2]), rfl, .inl (.inl ?_), fun y hy => ?_, fun d1 h1 d2 h2 => ?_, .inl fun d hd => ?_, fun y hy => ?_, fun p hp => ?_⟩
    · rw [upd_same, List.map_map, ← f2, List.map_map]; rfl
    · obtain ⟨e, he, rfl⟩ := List.mem_map.mp hy
      exact dpT (zs := [e.1.1.1, e.1.1.2]) (.inl (.inl (up1 _ _ (f3 e he))))
    · rw [List.map_map] at h1 h2
      obtain ⟨e1, _, rfl⟩ := List.mem_map.mp h1
      obtain ⟨e2, _, rfl⟩ := List.mem_map.mp h2
      rfl
    · rw [List.map_map] at hd
      obtain ⟨e1, _, rfl⟩ := List.mem_map.mp hd
      exact ⟨_, _, rfl⟩
    · obtain ⟨e, he, rfl⟩ := List.mem_map.mp hy
      show PyData.depth _ ≤ 8
      simp [PyData.depth, PyData.depthAll]
    obtain ⟨F', pF, eF⟩ := perm_map_ex (List.mergeSort_perm (F0.map fun e => (V.ref e.2, PyData.tuple [.str e.1.1.1, .str e.1.1.2])) (PySem.W.dataLe false Prod.snd))
    rw [eF, List.map_map] at *
    have pq : (F'.map Prod.fst).Perm ps := by rw [← f1]; exact pF.map _
    have up2 := up1.trans (same_new (o := .lst (F'.map (Prod.fst ∘ fun e : ((Str × Str) × Int) × Addr => (V.ref e.2, PyData.tuple [.str e.1.1.1, .str e.1.1.2])))) hp)
    refine ⟨p, rfl, ⟨_, .inl (.inl upd_same)⟩, fun D9 hD9 => ?_⟩
    refine dp_pairs (F := F') (.inl (.inl upd_same)) ((pq.map _).nodup_iff.mpr N.sn) ?_ (fun e he => up2 _ _ (f3 e (pF.mem_iff.mp he))) hD9 (fun _ _ => rfl) (fun y _ H2 _ Q q => ⟨_, rfl, q⟩) (fun y hy H2 e Q q => ⟨_, rfl, _, rfl, c, .int y.1.2, rfl, .inr ⟨_, [.inr y.1.1.1, .inr y.1.1.2], y.2, .inl (e _ _ (up2 _ _ (k5 _ _ cx cd hc))), rfl, e _ _ (up2 _ _ (f3 y (pF.mem_iff.mp hy))), (dtF_val N.sn (pq.mem_iff.mp (List.mem_map.mpr ⟨y, hy, rfl⟩))).symm⟩, q _ (Same.refl _)⟩) (fun H6 e6 hD6 => ?_)
    · have := N.sl
      have := pq.length_eq
      rw [List.length_map] at this
      omega
    have e7 := up2.trans e6
    have z7 := z5
    refine ⟨_, rfl, x, C, dx, p2, v5, 2, rfl, slt_same e7 (.inr z5), PC.sc, s2, ?_⟩
    have fD : H5 D9 = none := up2.free hD9
    have D9x : D9 ≠ x := (ne_of_none z5.1 fD).symm
    have D9d : D9 ≠ dx := (ne_of_none z5.2 fD).symm
    refine hQ _ ys ys2 (F'.map Prod.fst) (k5.same e7).sl ⟨D, D5, D9, _, slH_sl2 dxx, (SlX.putS_ne (by decide)).mpr w5', (SlX.putS_ne (by decide)).mpr w5, SlX.putS_get _ _ _, n5, ?_, ?_, ?_⟩ (N.perm hys hys2 pq) hys hso pq
    · rw [SlX.slH_ne Dx Dd]; exact e7 _ _ hD8
    · rw [SlX.slH_ne D5x D5d]; exact e7 _ _ hD7
    · rw [SlX.slH_ne D9x D9d]; exact hD6
end
end MN
/-! nodes and signs; tables of prices by pairs of nodes -/
namespace MN
open PySem PySem.Spec PyProof.Rows L2
def sgS (c : Nat) : Str := ⟨#[c]⟩
def nS : Nd → Str
  | none => ""
  | some c => sgS c
theorem nS_inj : ∀ {x y : Nd}, nS x = nS y → x = y
  | none, none, _ => rfl
  | none, some c, h => by
    have h' : (("" : Str)).length = (sgS c).length := by rw [show ("" : Str) = sgS c from h]
    cases h'
  | some c, none, h => by
    have h' : (("" : Str)).length = (sgS c).length := by rw [show sgS c = ("" : Str) from h]
    cases h'
  | some c, some d, h => by
    have h' : sgS c = sgS d := h
    simp [sgS] at h'
    rw [h']
/-- the codes of signs -/
def codesOf (zs : List Str) : List Nat := zs.map fun z => z.cps.toList.headD 0
theorem codes_sg {zs : List Str} (h : ∀ z ∈ zs, ∃ c ∈ ("abcde" : Str).cps.toList, z = ⟨#[c]⟩) : (codesOf zs).map sgS = zs := by
  unfold codesOf
  rw [List.map_map]
  conv => rhs; rw [← List.map_id zs]
  refine List.map_congr_left fun z hz => ?_
  obtain ⟨c, _, rfl⟩ := h z hz
  rfl
theorem mem_codes {zs : List Str} (h : ∀ z ∈ zs, ∃ c ∈ ("abcde" : Str).cps.toList, z = ⟨#[c]⟩) {c : Nat} : c ∈ codesOf zs ↔ sgS c ∈ zs := by
  constructor
  · intro hc
    rw [← codes_sg h]
    exact List.mem_map.mpr ⟨c, hc, rfl⟩
  · intro hc
    rw [← codes_sg h] at hc
    obtain ⟨d, hd, e⟩ := List.mem_map.mp hc
    have := nS_inj (x := some d) (y := some c) e
    cases this
    exact hd
theorem codes_nodup {zs : List Str} (h : ∀ z ∈ zs, ∃ c ∈ ("abcde" : Str).cps.toList, z = ⟨#[c]⟩) (nd : zs.Nodup) : (codesOf zs).Nodup := by
  rw [← codes_sg h, List.Nodup, List.pairwise_map] at nd
  exact nd.imp fun {a b} hab e => hab (by rw [e])
/-- the nodes -/
def ndOf (L : List Nat) : List Nd := none :: L.map some
theorem mem_nd {L : List Nat} {x : Nd} : x ∈ ndOf L ↔ InL L x := by
  unfold ndOf
  cases x with
  | none => simp [InL]
  | some a => simp [InL]
theorem nd_nodup {L : List Nat} (h : L.Nodup) : (ndOf L).Nodup := by
  unfold ndOf
  rw [List.nodup_cons]
  refine ⟨by simp, ?_⟩
  rw [List.Nodup, List.pairwise_map]
  exact h.imp fun {a b} hab e => hab (Option.some.inj e)
def findP (qs : List ((Str × Str) × Int)) (x y : Str) : Option Int := (qs.find? fun q => decide (q.1 = (x, y))).map (·.2)
theorem findP_some {qs : List ((Str × Str) × Int)} (nd : (qs.map Prod.fst).Nodup) {x y : Str} {p : Int} : findP qs x y = some p ↔ ((x, y), p) ∈ qs := by
  unfold findP
  constructor
  · intro h
    obtain ⟨q, hq, rfl⟩ := Option.map_eq_some_iff.mp h
    have h1 := List.mem_of_find?_eq_some hq
    have h2 : q.1 = (x, y) := by simpa using List.find?_some hq
    rw [← h2]
    exact h1
  · intro h
    induction qs with
    | nil => cases h
    | cons q qs ih =>
      rw [List.map_cons, List.nodup_cons] at nd
      rw [List.find?_cons]
      rcases List.mem_cons.mp h with rfl | h
      · simp
      · have : q.1 ≠ (x, y) := fun e => nd.1 (by rw [e]; exact List.mem_map.mpr ⟨_, h, rfl⟩)
        simp only [this, decide_false]
        exact ih nd.2 h
theorem findP_perm {qs qs' : List ((Str × Str) × Int)} (nd : (qs.map Prod.fst).Nodup) (h : qs'.Perm qs) (x y : Str) : findP qs' x y = findP qs x y := by
  have nd' : (qs'.map Prod.fst).Nodup := (h.map _).nodup_iff.mpr nd
  cases e : findP qs x y with
  | some p => exact (findP_some nd').mpr (h.mem_iff.mpr ((findP_some nd).mp e))
  | none =>
    cases e' : findP qs' x y with
    | none => rfl
    | some p =>
      have := (findP_some nd).mpr (h.mem_iff.mp ((findP_some nd').mp e'))
      rw [e] at this
      cases this
/-- the prices, by nodes -/
def rOf (L : List Nat) (g o : Str → Int) (qs : List ((Str × Str) × Int)) : Nd → Nd → Option Int
  | none, none => none
  | none, some b => if b ∈ L then some (g (sgS b)) else none
  | some a, none => if a ∈ L then some (o (sgS a)) else none
  | some a, some b => findP qs (sgS a) (sgS b)
theorem rOf_pos {zs zs2 : List Str} {g o : Str → Int} {ps : List ((Str × Str) × Int)} (N : PrN zs zs2 g o ps) : ∀ x y p, rOf (codesOf zs) g o ps x y = some p → 1 ≤ p := by
  intro x y p h
  cases x with
  | none =>
    cases y with
    | none => cases h
    | some b =>
      change (if b ∈ codesOf zs then some (g (sgS b)) else none) = some p at h
      split at h
      · rename_i hb
        cases h
        exact (N.pg _ ((mem_codes N.sg).mp hb)).1
      · cases h
  | some a =>
    cases y with
    | none =>
      change (if a ∈ codesOf zs then some (o (sgS a)) else none) = some p at h
      split at h
      · rename_i hb
        cases h
        exact (N.po _ ((mem_codes N.sg).mp hb)).1
      · cases h
    | some b =>
      have := N.sp _ ((findP_some N.sn).mp h)
      exact this.2.2.2.1
theorem rOf_all {L : List Nat} {g o : Str → Int} {ps : List ((Str × Str) × Int)} : ∀ a ∈ L, (∃ p, rOf L g o ps none (some a) = some p) ∧ ∃ p, rOf L g o ps (some a) none = some p := fun a h => ⟨⟨_, if_pos h⟩, ⟨_, if_pos h⟩⟩
theorem rOf_in {zs zs2 : List Str} {g o : Str → Int} {ps : List ((Str × Str) × Int)} (N : PrN zs zs2 g o ps) {x y : Nd} {p : Int} (h : rOf (codesOf zs) g o ps x y = some p) : InL (codesOf zs) x ∧ InL (codesOf zs) y ∧ x ≠ y := by
  cases x with
  | none =>
    cases y with
    | none => cases h
    | some b =>
      change (if b ∈ codesOf zs then some (g (sgS b)) else none) = some p at h
      split at h
      · rename_i hb
        exact ⟨InL.no, InL.of hb, fun e => nomatch e⟩
      · cases h
  | some a =>
    cases y with
    | none =>
      change (if a ∈ codesOf zs then some (o (sgS a)) else none) = some p at h
      split at h
      · rename_i hb
        exact ⟨InL.of hb, InL.no, fun e => nomatch e⟩
      · cases h
    | some b =>
      have := N.sp _ ((findP_some N.sn).mp h)
      exact ⟨InL.of ((mem_codes N.sg).mpr this.1), InL.of ((mem_codes N.sg).mpr this.2.1), fun e => this.2.2.1 (by cases e; rfl)⟩
/-- what Clo says hangs on the prices of the nodes alone -/
theorem Clo.congr {L : List Nat} {r r' : Nd → Nd → Option Int} {c : Nd → Nd → Int} (C : Clo L r c) (h : ∀ x y, InL L x → InL L y → r' x y = r x y) : Clo L r' c := by
  refine ⟨C.z, C.pos, C.tri, fun x y p hx hy e => C.le x y p hx hy (by rw [← h x y hx hy]; exact e), fun x y hx hy n => ?_⟩
  obtain ⟨z, p, hz, nz, e, q⟩ := C.last x y hx hy n
  exact ⟨z, p, hz, nz, by rw [h z y hz hy]; exact e, q⟩
theorem Clo.perm {L L' : List Nat} {r : Nd → Nd → Option Int} {c : Nd → Nd → Int} (C : Clo L r c) (h : ∀ a, a ∈ L' ↔ a ∈ L) : Clo L' r c := by
  have k : ∀ x, InL L' x → InL L x := fun x hx a e => (h a).mp (hx a e)
  have k' : ∀ x, InL L x → InL L' x := fun x hx a e => (h a).mpr (hx a e)
  refine ⟨C.z, fun x y hx hy n => C.pos x y (k x hx) (k y hy) n, fun x y z hx hy hz => C.tri x y z (k x hx) (k y hy) (k z hz), fun x y p hx hy e => C.le x y p (k x hx) (k y hy) e, fun x y hx hy n => ?_⟩
  obtain ⟨z, p, hz, nz, e, q⟩ := C.last x y (k x hx) (k y hy) n
  exact ⟨z, p, k' z hz, nz, e, q⟩
theorem Clo.uniq {L : List Nat} {r : Nd → Nd → Option Int} {c c' : Nd → Nd → Int} (C : Clo L r c) (C' : Clo L r c') : ∀ x y, InL L x → InL L y → c x y = c' x y := by
  have key : ∀ {c c' : Nd → Nd → Int}, Clo L r c → Clo L r c' → ∀ (n : Nat) (x y : Nd), InL L x → InL L y → c' x y ≤ n → c x y ≤ c' x y := by
    intro c c' C C' n
    induction n with
    | zero =>
      intro x y hx hy h
      by_cases e : x = y
      · subst e; rw [C.z, C'.z]; exact Int.le_refl _
      · have := C'.pos x y hx hy e; omega
    | succ n ih =>
      intro x y hx hy h
      by_cases e : x = y
      · subst e; rw [C.z, C'.z]; exact Int.le_refl _
      · obtain ⟨z, p, hz, nz, er, ec⟩ := C'.last x y hx hy e
        have p0 := C'.le z y p hz hy er
        have p1 := C'.pos z y hz hy nz
        have h1 := ih x z hx hz (by omega)
        have h2 := C.tri x z y hx hz hy
        have h3 := C.le z y p hz hy er
        omega
  intro x y hx hy
  have n1 : 0 ≤ c' x y := by
    by_cases e : x = y
    · subst e; rw [C'.z]; exact Int.le_refl _
    · have := C'.pos x y hx hy e; omega
  have n2 : 0 ≤ c x y := by
    by_cases e : x = y
    · subst e; rw [C.z]; exact Int.le_refl _
    · have := C.pos x y hx hy e; omega
  have h1 := key C C' (c' x y).toNat x y hx hy (by omega)
  have h2 := key C' C (c x y).toNat x y hx hy (by omega)
  omega
theorem Dc_congr {L : List Nat} {c c' : Nd → Nd → Int} (h : ∀ x y, InL L x → InL L y → c x y = c' x y) : ∀ u v : List Nat, (∀ a ∈ u, a ∈ L) → (∀ a ∈ v, a ∈ L) → Dc c u v = Dc c' u v
  | [], [], _, _ => by simp only [Dc]
  | [], y :: v, hu, hv => by
    simp only [Dc]
    rw [Dc_congr h [] v hu fun a q => hv a (List.mem_cons_of_mem _ q), h _ _ InL.no (InL.of (hv y List.mem_cons_self))]
  | x :: u, [], hu, hv => by
    simp only [Dc]
    rw [Dc_congr h u [] (fun a q => hu a (List.mem_cons_of_mem _ q)) hv, h _ _ (InL.of (hu x List.mem_cons_self)) InL.no]
  | x :: u, y :: v, hu, hv => by
    have hu' : ∀ a ∈ u, a ∈ L := fun a q => hu a (List.mem_cons_of_mem _ q)
    have hv' : ∀ a ∈ v, a ∈ L := fun a q => hv a (List.mem_cons_of_mem _ q)
    have hx := InL.of (hu x List.mem_cons_self)
    have hy := InL.of (hv y List.mem_cons_self)
    simp only [Dc]
    rw [Dc_congr h u v hu' hv', Dc_congr h u (y :: v) hu' hv, Dc_congr h (x :: u) v hu hv', h _ _ hx hy, h _ _ hx InL.no, h _ _ InL.no hy]
/-! ### a table as a dict -/
abbrev kN (x y : Nd) : List Key := [.inr (nS x), .inr (nS y)]
theorem kN_inj {x y a b : Nd} (h : kN x y = kN a b) : x = a ∧ y = b := by
  injection h with h1 h2
  injection h2 with h2 _
  exact ⟨nS_inj (Sum.inr.inj h1), nS_inj (Sum.inr.inj h2)⟩
structure TabAt (L : List Nat) (kvs : List (List Key × V)) (O : Nd → Nd → Option Int) : Prop where
  nd : (kvs.map (·.1)).Nodup
  ks : ∀ k ∈ kvs.map (·.1), ∃ x ∈ ndOf L, ∃ y ∈ ndOf L, k = kN x y
  vl : ∀ x y, valV kvs (kN x y) = (O x y).map V.int
def putO (O : Nd → Nd → Option Int) (x y : Nd) (n : Int) : Nd → Nd → Option Int := fun a b => if a = x ∧ b = y then some n else O a b
theorem putK_keys {α : Type} [DecidableEq α] (kvs : List (α × V)) (k : α) (v : V) : (putK kvs k v).map (·.1) = if k ∈ kvs.map (·.1) then kvs.map (·.1) else kvs.map (·.1) ++ [k] := by
  unfold putK
  by_cases h : k ∈ kvs.map (·.1)
  · rw [if_pos h, if_pos]
    · rw [List.map_map]
      refine List.map_congr_left fun kv _ => ?_
      show (if kv.1 = k then (kv.1, v) else kv).1 = kv.1
      split <;> rfl
    · obtain ⟨kv, h1, rfl⟩ := List.mem_map.mp h
      exact List.any_eq_true.mpr ⟨kv, h1, by simp⟩
  · rw [if_neg h, if_neg]
    · simp
    · intro q
      obtain ⟨kv, h1, h2⟩ := List.any_eq_true.mp q
      exact h (List.mem_map.mpr ⟨kv, h1, of_decide_eq_true h2⟩)
theorem TabAt.put {L : List Nat} {kvs : List (List Key × V)} {O : Nd → Nd → Option Int} (T : TabAt L kvs O) {x y : Nd} (hx : x ∈ ndOf L) (hy : y ∈ ndOf L) (n : Int) : TabAt L (putK kvs (kN x y) (.int n)) (putO O x y n) := by
  refine ⟨?_, ?_, fun a b => ?_⟩
  · rw [putK_keys]
    split
    · exact T.nd
    · rename_i h
      rw [List.nodup_append]
      refine ⟨T.nd, by simp, fun a ha b hb => ?_⟩
      rw [List.mem_singleton.mp hb]
      exact fun e => h (by rw [← e]; exact ha)
  · intro k hk
    rw [putK_keys] at hk
    split at hk
    · exact T.ks k hk
    · rcases List.mem_append.mp hk with hk | hk
      · exact T.ks k hk
      · exact ⟨x, hx, y, hy, List.mem_singleton.mp hk⟩
  · rw [valV_put]
    unfold putO
    by_cases e : kN a b = kN x y
    · rw [if_pos e, if_pos (kN_inj e)]; rfl
    · rw [if_neg e, if_neg fun q => e (by rw [q.1, q.2])]
      exact T.vl a b
theorem len_sub {α : Type} [DecidableEq α] : ∀ {l m : List α}, l.Nodup → (∀ a ∈ l, a ∈ m) → l.length ≤ m.length
  | [], _, _, _ => Nat.zero_le _
  | a :: l, m, nd, h => by
    rw [List.nodup_cons] at nd
    have ih := len_sub (l := l) (m := m.erase a) nd.2 fun b hb => by
      rw [List.mem_erase_of_ne (fun e => nd.1 (by rw [← e]; exact hb))]
      exact h b (List.mem_cons_of_mem _ hb)
    have hm := h a List.mem_cons_self
    rw [List.length_erase_of_mem hm] at ih
    have : 0 < m.length := List.length_pos_of_mem hm
    simp only [List.length_cons]
    omega
theorem TabAt.len {L : List Nat} {kvs : List (List Key × V)} {O : Nd → Nd → Option Int} (T : TabAt L kvs O) : kvs.length ≤ (L.length + 1) * (L.length + 1) := by
  have h := len_sub (m := (ndOf L).flatMap fun x => (ndOf L).map fun y => kN x y) T.nd fun k hk => by
    obtain ⟨x, hx, y, hy, rfl⟩ := T.ks k hk
    exact List.mem_flatMap.mpr ⟨x, hx, List.mem_map.mpr ⟨y, hy, rfl⟩⟩
  rw [List.length_map] at h
  have e : ∀ (l m : List Nd), (l.flatMap fun x => m.map fun y => kN x y).length = l.length * m.length := by
    intro l m
    induction l with
    | nil => simp
    | cons a l ih => rw [List.flatMap_cons, List.length_append, ih, List.length_map, List.length_cons, Nat.succ_mul]; omega
  rw [e] at h
  simpa [ndOf] using h
end MN
/-! Closed.__init__ -/
namespace MN
open PySem PySem.Spec PyProof.Rows L2
def codeOf (z : Str) : Nat := z.cps.toList.headD 0
theorem piListK {X : Cx} {K : PySem.W.Frag} (hK : X.K = K) {tg l : Expr} {tl : TE} (hl : PE X l tl) : PI X tg l (iList K tl) := hK ▸ pi_list hl
theorem peSlK {X : Cx} {K : PySem.W.Frag} (hK : X.K = K) {e : Expr} {ta : TE} {f : Str} {pos : Pos} (he : PE X e ta) (hb : attributeBase e f X.env (eval e X.env) = eval e X.env := by rfl) : PE X (.Attribute e f pos) (SlX.tSl K ta f) := hK ▸ SlX.pe_sl he hb
/-- the swap prices of all pairs of some signs -/
structure AllP (ys : List Str) (h : Str → Str → Int) (qs : List ((Str × Str) × Int)) : Prop where
  nd : (qs.map Prod.fst).Nodup
  iff : ∀ e, e ∈ qs ↔ e.1.1 ∈ ys ∧ e.1.2 ∈ ys ∧ e.1.1 ≠ e.1.2 ∧ e.2 = h e.1.1 e.1.2
theorem pairs_len {ys : List Str} {l : List (Str × Str)} (nd : l.Nodup) (h : ∀ e ∈ l, e.1 ∈ ys ∧ e.2 ∈ ys) : l.length ≤ ys.length * ys.length := by
  have h1 := len_sub (m := ys.flatMap fun x => ys.map fun y => (x, y)) nd fun e he => List.mem_flatMap.mpr ⟨e.1, (h e he).1, List.mem_map.mpr ⟨e.2, (h e he).2, rfl⟩⟩
  have e : ∀ (l m : List Str), (l.flatMap fun x => m.map fun y => (x, y)).length = l.length * m.length := by
    intro l m
    induction l with
    | nil => simp
    | cons a l ih => rw [List.flatMap_cons, List.length_append, ih, List.length_map, List.length_cons, Nat.succ_mul]; omega
  rw [e] at h1
  exact h1
theorem AllP.len {ys : List Str} {h : Str → Str → Int} {qs : List ((Str × Str) × Int)} (A : AllP ys h qs) : qs.length ≤ ys.length * ys.length := by
  have := pairs_len (ys := ys) A.nd fun e he => by
    obtain ⟨x, hx, rfl⟩ := List.mem_map.mp he
    exact ⟨((A.iff x).mp hx).1, ((A.iff x).mp hx).2.1⟩
  rwa [List.length_map] at this
theorem AllP.find {ys : List Str} {h : Str → Str → Int} {qs : List ((Str × Str) × Int)} (A : AllP ys h qs) {x y : Str} (hx : x ∈ ys) (hy : y ∈ ys) (n : x ≠ y) : findP qs x y = some (h x y) :=
  (findP_some A.nd).mpr ((A.iff _).mpr ⟨hx, hy, n, rfl⟩)
/-- the pairs put so far -/
def PreP (ys : List Str) (h : Str → Str → Int) (i j : Nat) (qs : List ((Str × Str) × Int)) : Prop := (qs.map Prod.fst).Nodup ∧ ∀ e, e ∈ qs ↔ ((e.1.1 ∈ ys.take i ∧ e.1.2 ∈ ys) ∨ (ys[i]? = some e.1.1 ∧ e.1.2 ∈ ys.take j)) ∧ e.1.1 ≠ e.1.2 ∧ e.2 = h e.1.1 e.1.2
theorem PreP.row {ys : List Str} {h : Str → Str → Int} {i : Nat} {qs : List ((Str × Str) × Int)} (P : PreP ys h i ys.length qs) (hi : i < ys.length) : PreP ys h (i + 1) 0 qs := by
  refine ⟨P.1, fun e => ?_⟩
  rw [P.2 e, List.take_length, List.take_add_one, List.getElem?_eq_getElem hi]
  simp only [Option.toList_some, List.mem_append, List.mem_singleton, Option.some.injEq, List.take_zero, List.not_mem_nil, and_false, or_false]
  constructor
  · rintro ⟨a | ⟨a, b⟩, c⟩
    · exact ⟨⟨.inl a.1, a.2⟩, c⟩
    · exact ⟨⟨.inr a.symm, b⟩, c⟩
  · rintro ⟨⟨a | a, b⟩, c⟩
    · exact ⟨.inl ⟨a, b⟩, c⟩
    · exact ⟨.inr ⟨a.symm, b⟩, c⟩
theorem PreP.skip {ys : List Str} {h : Str → Str → Int} {i j : Nat} {y : Str} {qs : List ((Str × Str) × Int)} (P : PreP ys h i j qs) (hi : ys[i]? = some y) (hj : ys[j]? = some y) : PreP ys h i (j + 1) qs := by
  refine ⟨P.1, fun e => ?_⟩
  rw [P.2 e, List.take_add_one, hj, hi]
  simp only [Option.toList_some, List.mem_append, List.mem_singleton, Option.some.injEq]
  constructor
  · rintro ⟨a | ⟨a, b⟩, c⟩
    · exact ⟨.inl a, c⟩
    · exact ⟨.inr ⟨a, .inl b⟩, c⟩
  · rintro ⟨a | ⟨a, b | b⟩, c⟩
    · exact ⟨.inl a, c⟩
    · exact ⟨.inr ⟨a, b⟩, c⟩
    · exact absurd (a.symm.trans b.symm) c.1
theorem PreP.new {ys : List Str} {h : Str → Str → Int} {i j : Nat} {x y : Str} {qs : List ((Str × Str) × Int)} (P : PreP ys h i j qs) (nd : ys.Nodup) (hi : ys[i]? = some x) (hj : ys[j]? = some y) (n : x ≠ y) : PreP ys h i (j + 1) (qs ++ [((x, y), h x y)]) ∧ (x, y) ∉ qs.map Prod.fst := by
  have nw : (x, y) ∉ qs.map Prod.fst := fun q => by
    obtain ⟨e, he, q⟩ := List.mem_map.mp q
    obtain ⟨a | a, _⟩ := (P.2 e).mp he
    · rw [q] at a; exact take_nodup nd hi a.1
    · rw [q] at a; exact take_nodup nd hj a.2
  refine ⟨⟨?_, fun e => ?_⟩, nw⟩
  · rw [List.map_append, List.nodup_append]
    refine ⟨P.1, by simp, fun a ha b hb => ?_⟩
    rw [show b = (x, y) by simpa using hb]
    exact fun z => nw (by rw [← z]; exact ha)
  · rw [List.mem_append, P.2 e, List.mem_singleton, List.take_add_one, hj, hi]
    simp only [Option.toList_some, List.mem_append, List.mem_singleton, Option.some.injEq]
    constructor
    · rintro (⟨a | ⟨a, b⟩, c⟩ | rfl)
      · exact ⟨.inl a, c⟩
      · exact ⟨.inr ⟨a, .inl b⟩, c⟩
      · exact ⟨.inr ⟨rfl, .inr rfl⟩, n, rfl⟩
    · rintro ⟨a | ⟨a, b | b⟩, c⟩
      · exact .inl ⟨.inl a, c⟩
      · exact .inl ⟨.inr ⟨a, b⟩, c⟩
      · refine .inr ?_
        obtain ⟨⟨e1, e2⟩, e3⟩ := e
        have a' : x = e1 := a
        have b' : e2 = y := b
        subst a'
        subst b'
        have c' : e3 = h x e2 := c.2
        rw [c']
theorem PreP.len {ys : List Str} {h : Str → Str → Int} {i j : Nat} {qs : List ((Str × Str) × Int)} (P : PreP ys h i j qs) : qs.length ≤ ys.length * ys.length := by
  have := pairs_len (ys := ys) P.1 fun e he => by
    obtain ⟨x, hx, rfl⟩ := List.mem_map.mp he
    obtain ⟨a | a, _⟩ := (P.2 x).mp hx
    · exact ⟨List.mem_of_mem_take a.1, a.2⟩
    · exact ⟨List.mem_of_getElem? a.1, List.mem_of_mem_take a.2⟩
  rwa [List.length_map] at this
theorem PreP.all {ys : List Str} {h : Str → Str → Int} {qs : List ((Str × Str) × Int)} (P : PreP ys h ys.length 0 qs) : AllP ys h qs := by
  refine ⟨P.1, fun e => ?_⟩
  rw [P.2 e, List.take_length]
  simp [and_assoc]
/-- all but T stays -/
def But (T : Addr) (H H' : Hp) : Prop := ∀ b o, b ≠ T → H b = some o → H' b = some o
theorem But.refl {T : Addr} {H : Hp} : But T H H := fun _ _ _ e => e
theorem But.same {T : Addr} {H H1 H2 : Hp} (h : But T H H1) (e : Same H1 H2) : But T H H2 := fun b o n q => e _ _ (h b o n q)
theorem But.put {T : Addr} {H H1 : Hp} {o : HO} (h : But T H H1) : But T H (upd H1 T o) := fun b o n q => by rw [upd_ne n]; exact h b o n q
theorem But.trans {T : Addr} {H H1 H2 : Hp} (h : But T H H1) (e : But T H1 H2) : But T H H2 := fun b o n q => e b o n (h b o n q)
theorem But.same0 {T : Addr} {H H1 : Hp} (h : But T H H1) (n : H T = none) : Same H H1 := fun b o q => h b o (fun z => by rw [z, n] at q; cases q) q
theorem But.seqL {K : PySem.W.Frag} {T : Addr} {H H' : Hp} {a : Addr} {xs : List V} (e : But T H H') (h : SqL K H a xs) (hne : a ≠ T) : SqL K H' a xs := by
  rcases h with (h | ⟨o, h⟩) | h
  · exact .inl (.inl (e _ _ hne h))
  · exact .inl (.inr ⟨o, e _ _ hne h⟩)
  · exact .inr h
theorem dtF_new {qs : List ((Str × Str) × Int)} {x y : Str} {n : Int} (h : (x, y) ∉ qs.map Prod.fst) : putK (dtF qs) [.inr x, .inr y] (.int n) = dtF (qs ++ [((x, y), n)]) := by
  rw [putK_fresh]
  · simp [dtF]
  · intro q
    unfold dtF at q
    rw [List.map_map] at q
    obtain ⟨a, ha, e⟩ := List.mem_map.mp q
    have e' : ([Sum.inr a.1.1, Sum.inr a.1.2] : List Key) = [.inr x, .inr y] := e
    injection e' with e1 e2
    injection e2 with e2 _
    exact h (List.mem_map.mpr ⟨a, ha, Prod.ext (Sum.inr.inj e1) (Sum.inr.inj e2)⟩)
section
variable {P : Program} {w : World} {K : PySem.W.Frag} {mg : Str → Option Value} {base : Heap}
/-- closed prices: their instance -/
def ClAt (C : Addr) (H : Hp) (x dx : Addr) (ys : List Str) (c : Nd → Nd → Int) : Prop := ∃ qs, AllP ys (fun a b => c (some (codeOf a)) (some (codeOf b))) qs ∧ PrAt C H x dx ys ys (fun z => c none (some (codeOf z))) (fun z => c (some (codeOf z)) none) qs
theorem ClAt.same {C : Addr} {H H' : Hp} {x dx : Addr} {ys : List Str} {c : Nd → Nd → Int} (h : ClAt C H x dx ys c) (e : Same H H') : ClAt C H' x dx ys c := by
  obtain ⟨qs, h1, h2⟩ := h
  exact ⟨qs, h1, h2.same e⟩
theorem nS_code {z : Str} (h : ∃ c ∈ ("abcde" : Str).cps.toList, z = ⟨#[c]⟩) : nS (some (codeOf z)) = z := by
  obtain ⟨c, _, rfl⟩ := h
  rfl
theorem code_mem {zs : List Str} (h : ∀ z ∈ zs, ∃ c ∈ ("abcde" : Str).cps.toList, z = ⟨#[c]⟩) {z : Str} (hz : z ∈ zs) : codeOf z ∈ codesOf zs := List.mem_map.mpr ⟨z, hz, rfl⟩
def spCInit (K : PySem.W.Frag) (C : Addr) : Sp := fun vs H Q _ => ∃ x dx T a ys kvs O, vs = [.ref x, .ref T, .ref a] ∧ H x = some (.ins C dx []) ∧ H dx = some (.own x) ∧ dx ≠ x ∧ H T = some (.dT kvs) ∧ H a = some (.lst (ys.map V.str)) ∧ ys.length ≤ 5 ∧ ys.Nodup ∧ (∀ z ∈ ys, ∃ c ∈ ("abcde" : Str).cps.toList, z = ⟨#[c]⟩) ∧
  TabAt (codesOf ys) kvs O ∧ (∀ x y, InL (codesOf ys) x → InL (codesOf ys) y → x ≠ y → ∃ t, O x y = some t) ∧ ∀ H', Kp x dx H H' → ClAt C H' x dx ys (cOf O) → Q .non H'
end
end MN
/-! sorted(d.items()) -/
namespace MN
open PySem PySem.Spec PyProof.Rows L2
section
variable {X : Cx} {pins : List (Addr × Obj)} {σ : L2.St} {H : Hp} {s : Shared}
/-- the tuples of a dict's items, laid -/
theorem items_over {es : Array DictEntry} {as : List Addr} {h' : Heap} {tk : Nat} {ps : List (V × V)} (I : L2.Inv X pins σ H s) (hk : ∀ b o, s.heap.get? b = some o → h'.get? b = some o) (hl : as.length = es.size) (hG : PySem.W.DilG es s.heap.objs.size h' as)
    (lp : ps.length = es.size) (hp : ∀ (i : Nat) (p : V × V), ps[i]? = some p → ∃ e, es[i]? = some e ∧ RelV p.1 e.key ∧ RelV p.2 e.val) :
    ∃ H' : Hp, L2.Inv X pins σ H' { s with heap := h', toks := tk } ∧ Same H H' ∧ (∀ (i : Nat) (a : Addr) (p : V × V), as[i]? = some a → ps[i]? = some p → H' a = some (.tup [p.1, p.2])) ∧ (∀ a ∈ as, H a = none) ∧ (∀ b, h'.objs.size ≤ b → H' b = none) := by
  have nd : as.Nodup := List.Pairwise.imp (fun {a b} (h : a < b) => Nat.ne_of_lt h) hG.rise
  let os : List HO := ps.map fun p => HO.tup [p.1, p.2]
  let l : List (Addr × HO) := as.zip os
  have lT : ∀ (i : Nat) (a : Addr) (p : V × V), as[i]? = some a → ps[i]? = some p → l.lookup a = some (.tup [p.1, p.2]) := fun i a p h0 h1 => lookup_zip nd h0 (by show (ps.map _)[i]? = _; rw [List.getElem?_map, h1]; rfl)
  have lOf : ∀ b o, l.lookup b = some o → ∃ (i : Nat) (p : V × V), as[i]? = some b ∧ ps[i]? = some p ∧ o = .tup [p.1, p.2] := fun b o h => by
    obtain ⟨i, h1, h2⟩ := zip_of h
    obtain ⟨p, h3, h4⟩ := Option.map_eq_some_iff.mp ((List.getElem?_map ..).symm.trans h2)
    exact ⟨i, p, h1, h3, h4.symm⟩
  have fresh : ∀ b o, l.lookup b = some o → s.heap.objs.size ≤ b := fun b o h => by
    obtain ⟨i, p, h1, _⟩ := lOf b o h
    exact Nat.le_of_lt (hG.above b (List.mem_of_getElem? h1))
  have J : L2.Inv X pins σ (overH H l) { s with heap := h', toks := tk } := by
    refine Inv_over I hk fresh fun b o h => ?_
    obtain ⟨i, p, h1, h2, rfl⟩ := lOf b o h
    obtain ⟨hj, e2⟩ := hG.pairs i b h1
    obtain ⟨e, e1, r1, r2⟩ := hp i p h2
    have e3 : es[i] = e := by
      have := Array.getElem?_eq_getElem hj
      rw [e1] at this
      exact (Option.some.inj this).symm
    rw [e3] at e2
    exact ⟨by show 2 ≤ sizeLine; decide, [e.key, e.val], .cons r1 (.cons r2 .nil), ⟨_, e2, rfl, _, rfl⟩⟩
  refine ⟨overH H l, J, fun b u e => ?_, fun i a p h1 h2 => over_in (lT i a p h1 h2), fun a ha => I.hok.fresh (Nat.le_of_lt (hG.above a ha)), fun b hb => J.hok.fresh hb⟩
  cases q : l.lookup b with
  | none => rw [over_out q]; exact e
  | some o => rw [I.hok.fresh (fresh b o q)] at e; cases e
theorem each_of {α β : Type} {R : α → β → Prop} : ∀ {xs : List α} {ys : List β}, xs.length = ys.length → (∀ (i : Nat) (x : α) (y : β), xs[i]? = some x → ys[i]? = some y → R x y) → PySem.W.EachIs R xs ys
  | [], [], _, _ => .nil
  | x :: xs, y :: ys, hl, h => .cons (h 0 x y rfl rfl) (each_of (by simpa using hl) fun i x y a b => h (i + 1) x y a b)
  | [], _ :: _, hl, _ => by simp at hl
  | _ :: _, [], hl, _ => by simp at hl
theorem each_map_eq {β : Type} {f : β → Value} : ∀ {out : List Value} {bs : List β}, PySem.W.EachIs (fun v b => v = f b) out bs → out = bs.map f
  | _, _, .nil => rfl
  | _, _, .cons h t => by rw [h, each_map_eq t]; rfl
/-- what sorted(d.items()) gives: new tuples, in the order of the data -/
def SrtQ {κ : Type} (f : κ → V × V) (dat : κ → PyData) (kvs : List κ) (H1 : Hp) (Q : VK) : Prop := ∀ (H' : Hp) (p : Addr) (ts : List Addr), Same H1 H' → H1 p = none → H' p = some (.lst (ts.map V.ref)) → Paired (fun (t : Addr) (k : κ) => H' t = some (.tup [(f k).1, (f k).2])) ts (kvs.mergeSort (PySem.W.dataLe false dat)) → Q (.ref p) H'
theorem call_sortedI {κ : Type} {f : κ → V × V} {dat : κ → PyData} {kvs : List κ} {r d : Addr} {es : Array DictEntry} {ep : Nat} {Q : VK} (I : L2.Inv X pins σ H s) (hcalm : X.calm = true) (hu : X.A.units + 64 < cLine) (hv : s.heap.IsItemsView r d) (hm : DT.Raw s.heap d es ep) (hn : es.size ≤ sizeLine)
    (lk : kvs.length = es.size) (hp : ∀ (i : Nat) (k : κ), kvs[i]? = some k → ∃ e, es[i]? = some e ∧ RelV (f k).1 e.key ∧ RelV (f k).2 e.val)
    (hd : ∀ k ∈ kvs, ∀ (H' : Hp) (a : Addr), Same H H' → H' a = some (.tup [(f k).1, (f k).2]) → Dp X.K H' (.ref a) (dat k)) (hal : PySem.W.AllAlike (kvs.map dat)) (hs : PySem.W.Sortable (kvs.map dat)) (hdp : ∀ k ∈ kvs, (dat k).depth ≤ 8) (q : SrtQ f dat kvs H Q) :
    wpAny (model X.prog X.w) X.A (call (.builtin "sorted") [.ref r]) (EP X pins σ Q) X.xe s := by
  refine PySem.Calls.call_function_entry kind_sorted plain_sorted entry_sorted (args_sorted1 _) ?_
  unfold Builtin.«sorted»
  refine wpAny_bind (m := checkCount "sorted" 1 1 _) (wpAny_pure ?_)
  refine wpAny_bind (PySem.W.dil_collect (A := X.A.in1) (I.ok.hd hcalm) hv hm hn fun h' tk as hk hl hG => ?_)
  have lps : (kvs.map f).length = es.size := by rw [List.length_map]; exact lk
  obtain ⟨H1, J, up, at_, fr, fr1⟩ := items_over (tk := tk) (ps := kvs.map f) I hk hl hG lps fun i p h => by
    rw [List.getElem?_map] at h
    obtain ⟨k, h1, rfl⟩ := Option.map_eq_some_iff.mp h
    exact hp i k h1
  have lak : as.length = kvs.length := by omega
  refine wpAny_bind (wpAny_newList ?_ (by rw [List.length_map, hl]; exact hn))
  let bs : List (Addr × κ) := as.zip kvs
  let vs : List Value := as.map Value.ref
  have lvb : vs.length = bs.length := by show (as.map _).length = (as.zip kvs).length; rw [List.length_map, List.length_zip, lak, Nat.min_self]
  have bsAt : ∀ (i : Nat) (b : Addr × κ), bs[i]? = some b → as[i]? = some b.1 ∧ kvs[i]? = some b.2 := fun i b h => List.getElem?_zip_eq_some.mp h
  have vsAt : ∀ (i : Nat) (v : Value) (b : Addr × κ), vs[i]? = some v → bs[i]? = some b → v = .ref b.1 := fun i v b h1 h2 => by
    have h1' : (as.map Value.ref)[i]? = some v := h1
    rw [List.getElem?_map, (bsAt i b h2).1] at h1'
    exact (Option.some.inj h1').symm
  have tupAt : ∀ (i : Nat) (b : Addr × κ), bs[i]? = some b → H1 b.1 = some (.tup [(f b.2).1, (f b.2).2]) := fun i b h => at_ i b.1 (f b.2) (bsAt i b h).1 (by rw [List.getElem?_map, (bsAt i b h).2]; rfl)
  have bsM : ∀ b ∈ bs, ∃ i : Nat, bs[i]? = some b := fun b hb => List.mem_iff_getElem?.mp hb
  have bm : bs.map (fun b => dat b.2) = kvs.map dat := by
    show (as.zip kvs).map (dat ∘ Prod.snd) = _
    rw [← List.map_map, List.map_snd_zip (by omega)]
  have rd : ∀ (i : Nat) (v : Value) (b : Addr × κ), vs[i]? = some v → bs[i]? = some b → ∃ aa, Reads h' v (dat b.2) aa := fun i v b h1 h2 => by
    have := vsAt i v b h1 h2
    subst this
    exact Dp.reads J (dat b.2) (.ref b.1) _ (hd b.2 (List.mem_of_getElem? (bsAt i b h2).2) H1 b.1 up (tupAt i b h2)) rfl
  let N := h'.objs.size
  have hN : (h'.push { cls := .type "list", data := .seq vs.toArray }).get? N = some (seqObj "list" vs.toArray 0) := Heap.get?_push_size _ rfl
  have old : ∀ b o, h'.get? b = some o → (PySem.W.sortingHeap (h'.push { cls := .type "list", data := .seq vs.toArray }) N vs).get? b = some o := fun b o e => PySem.W.sortingHeap_old (Nat.ne_of_lt (Heap.lt_size e)) (Heap.get?_push_of_some _ e)
  have er' : PySem.W.EachIs (fun v (b : Addr × κ) => ∃ aa, Reads (PySem.W.sortingHeap (h'.push { cls := .type "list", data := .seq vs.toArray }) N vs) v (dat b.2) aa) vs bs := each_of lvb fun i v b h1 h2 => by
    obtain ⟨aa, r⟩ := rd i v b h1 h2
    exact ⟨aa, PyProof.Rows.Reads.keeps old r⟩
  have hu2 : ∀ b, b ∈ bs → X.A.in1.in1.units + (dat b.2).depth < cLine := fun b hb => by
    obtain ⟨i, hi⟩ := bsM b hb
    have := hdp b.2 (List.mem_of_getElem? (bsAt i b hi).2)
    show X.A.units + 1 + 1 + _ < _
    omega
  have sv := PySem.W.sortVals_data (h' := PySem.W.sortingHeap (h'.push { cls := .type "list", data := .seq vs.toArray }) N vs) (R := fun v (b : Addr × κ) => v = .ref b.1) (enc := fun b : Addr × κ => dat b.2) false (each_of lvb fun i v b h1 h2 => vsAt i v b h1 h2) er' (by rw [bm]; exact hal)
  have ev := each_map_eq (f := fun b : Addr × κ => Value.ref b.1) sv
  have SA := PySem.W.SortsAt.data (prog := X.prog) (w := X.w) (A := X.A.in1.in1) (s := { s with heap := PySem.W.sortingHeap (h'.push { cls := .type "list", data := .seq vs.toArray }) N vs, toks := tk }) (PySem.W.each_map (R := fun v d => ∃ as, Reads (PySem.W.sortingHeap (h'.push { cls := .type "list", data := .seq vs.toArray }) N vs) v d as) (fun b : Addr × κ => dat b.2) er') (by rw [bm]; exact hal) (by rw [bm]; exact hs) (PySem.W.bound_map hu2)
  refine wpAny_bind (wpAny_holding (wpAny_call_entry PyProof.Rows.slot_list_sort ⟨_, hN, rfl⟩ PyProof.Rows.entry_list_sort (PySem.W.list_sort_vals (s := { s with heap := h'.push { cls := .type "list", data := .seq vs.toArray }, toks := tk }) hN SA (by show (as.map _).length ≤ _; rw [List.length_map, hl]; exact hn) ?_)))
  refine ⟨_, rfl, wpAny_pure ⟨_, rfl, ?_⟩⟩
  let ms : List (Addr × κ) := bs.mergeSort (PySem.W.dataLe false fun b => dat b.2)
  have msM : ∀ b ∈ ms, ∃ i : Nat, bs[i]? = some b := fun b hb => bsM b ((List.mergeSort_perm ..).mem_iff.mp hb)
  show EP X pins σ Q (.ref N) { s with heap := sortedHeap (h'.push { cls := .type "list", data := .seq vs.toArray }) N vs (PySem.W.sortVals _ false vs vs).toArray, toks := tk }
  rw [ev]
  obtain ⟨c, hc⟩ := sortedHeap_at (out := (ms.map fun b => Value.ref b.1).toArray) hN
  have lN : ∀ b (o : HO), ([(N, HO.lst (ms.map fun b => V.ref b.1))] : List (Addr × HO)).lookup b = some o → b = N ∧ o = .lst (ms.map fun b => V.ref b.1) := fun b o h => by
    rw [List.lookup_cons] at h
    by_cases e : b = N
    · subst e
      rw [beq_self_eq_true] at h
      exact ⟨rfl, (Option.some.inj h).symm⟩
    · rw [beq_eq_false_iff_ne.mpr e] at h
      cases h
  have lms : ms.length = es.size := by show (bs.mergeSort _).length = _; rw [List.length_mergeSort, ← lvb]; show (as.map _).length = _; rw [List.length_map, hl]
  have I4 := Inv_over (tk := tk) (h' := sortedHeap (h'.push { cls := .type "list", data := .seq vs.toArray }) N vs (ms.map fun b => Value.ref b.1).toArray) (l := [(N, HO.lst (ms.map fun b => V.ref b.1))]) J (fun b o e => (sortedHeap_old (Nat.ne_of_lt (Heap.lt_size e)) (by rw [Heap.size_push]; exact Nat.lt_succ_of_lt (Heap.lt_size e))).trans (Heap.get?_push_of_some _ e)) (fun b o h => by
    obtain ⟨rfl, _⟩ := lN b o h
    exact Nat.le_refl _) (fun b o h => by
    obtain ⟨rfl, rfl⟩ := lN b o h
    refine ⟨by rw [List.length_map, lms]; exact hn, ms.map fun b => Value.ref b.1, c, ?_, hc⟩
    generalize ms = l
    induction l with
    | nil => exact .nil
    | cons b l ih => exact .cons rfl ih)
  have up4 : Same H1 (overH H1 [(N, HO.lst (ms.map fun b => V.ref b.1))]) := fun b u e => by
    cases z : ([(N, HO.lst (ms.map fun b => V.ref b.1))] : List (Addr × HO)).lookup b with
    | none => rw [over_out z]; exact e
    | some o =>
      obtain ⟨rfl, _⟩ := lN b o z
      rw [fr1 N (Nat.le_refl _)] at e
      cases e
  have hN0 : H N = none := by
    cases e : H N with
    | none => rfl
    | some o =>
      have := up _ _ e
      rw [fr1 N (Nat.le_refl _)] at this
      cases this
  refine ⟨.ref N, _, I4, rfl, q _ N (ms.map Prod.fst) (up.trans up4) hN0 (over_in (by rw [List.map_map]; exact List.lookup_cons_self)) ?_⟩
  have e2 : kvs.mergeSort (PySem.W.dataLe false dat) = ms.map Prod.snd := by
    have h1 : (as.zip kvs).map Prod.snd = kvs := List.map_snd_zip (by omega)
    conv => lhs; rw [← h1]
    exact (List.map_mergeSort (f := Prod.snd) (l := as.zip kvs) (r := PySem.W.dataLe false fun b : Addr × κ => dat b.2) (s := PySem.W.dataLe false dat) (fun a _ b _ => rfl)).symm
  rw [e2]
  have key : ∀ b ∈ ms, overH H1 [(N, HO.lst (ms.map fun b => V.ref b.1))] b.1 = some (.tup [(f b.2).1, (f b.2).2]) := fun b hb => by
    obtain ⟨i, hi⟩ := msM b hb
    exact up4 _ _ (tupAt i b hi)
  generalize overH H1 [(N, HO.lst (ms.map fun b => V.ref b.1))] = H4 at key
  generalize ms = l at key
  induction l with
  | nil => exact .nil
  | cons b l ih => exact .cons (key b List.mem_cons_self) (ih fun c hc => key c (List.mem_cons_of_mem _ hc))
end
end MN
/-! sorted(d.items()): rules; the prices' dicts -/
namespace MN
open PySem PySem.Spec PyProof.Rows L2
def ViewO (r d : Addr) : HO := .ext fun h => h.IsItemsView r d
section
variable {X : Cx} {e : Expr} {te : TE} {apos cpos : Pos}
def tItems (te : TE) : TE := fun σ H Q => te σ H fun x H1 => ∃ d, x = .ref d ∧ ((∃ kvs, H1 d = some (.dK kvs)) ∨ ∃ kvs, H1 d = some (.dT kvs)) ∧ ∀ r, H1 r = none → Q (.ref r) (upd H1 r (ViewO r d))
theorem view_laid {pins : List (Addr × Obj)} {σ : L2.St} {H : Hp} {s : Shared} {d : Addr} (I : L2.Inv X pins σ H s) : L2.Inv X pins σ (upd H s.heap.objs.size (ViewO s.heap.objs.size d)) { s with heap := s.heap.push { cls := .type "dict_items", data := .fields #[.ref d] } } := by
  have hg : (s.heap.push { cls := .type "dict_items", data := .fields #[.ref d] }).get? s.heap.objs.size = some { cls := .type "dict_items", data := .fields #[.ref d] } := Heap.get?_push_size _ rfl
  refine I.laid (t' := s.toks) (fun b o q => Heap.get?_push_of_some _ q) (Nat.le_refl _) ⟨⟨_, hg, rfl, rfl⟩, ⟨_, hg⟩, fun h1 h2 ⟨o, ho, x⟩ k => ⟨o, k o ho, x⟩⟩
theorem pe_items (he : PE X e te) (hbase : attributeBase e "items" X.env (eval e X.env) = eval e X.env := by rfl) (hline : (apos.endLine == cpos.line) = true := by rfl) : PE X (.Call (.Attribute e "items" apos) [] [] cpos) (tItems te) := by
  refine ⟨fun pins s σ H Q I hq => ?_⟩
  refine wpAny_Call_method (T := "dict") (id := "dict.items") hbase rfl hline F.plainAttrs_dict F.slot_dict_items F.type_dict_items (thn (he.run pins s σ H _ I hq) fun u s1 ⟨x, H1, I1, rx, d, ex, hd, q⟩ => ?_)
  subst ex
  obtain rfl : u = Value.ref d := rx
  have go : ∀ Q' : VK, (∀ r, H1 r = none → Q' (.ref r) (upd H1 r (ViewO r d))) → EP X pins σ Q' (.ref s1.heap.objs.size) { s1 with heap := s1.heap.push { cls := .type "dict_items", data := .fields #[.ref d] } } := fun Q' q => ⟨.ref _, _, view_laid (d := d) I1, rfl, q _ (I1.hok.fresh (Nat.le_refl _))⟩
  rcases hd with ⟨kvs, hd⟩ | ⟨kvs, hd⟩
  · obtain ⟨hz, hs0, vs, kv, hdo⟩ := I1.hok d _ hd
    refine ⟨hdo.typeIs, hdo.mapOf.noDict, ?_⟩
    show wpAny _ _ (callWith cpos (.builtin "dict.items") [.ref d] [] []) _ X.xe s1
    refine method_meetsIn F.slot_dict_items F.entry_dict_items rfl (PySem.evalArgs_none ⟨rfl, hdo.typeIs, F.args_dict_items_1 _, _, meets_dict_items (mixKind X.prog X.w) d hs0, ⟨vs, hdo⟩, ?_⟩)
    exact go _ q
  · obtain ⟨z, hs0, xs, rel, o, es, ep, ho, hx, hdat, hes, his, hnd⟩ := dt_of I1.hok hd
    have raw : DT.Raw s1.heap d es ep := ⟨o, ho, hx, hdat⟩
    refine ⟨raw.typeIs, dictOfH_noDict (knd := tupleKind (mixKind X.prog X.w)) ⟨o, es, ep, ho, hx, hdat, hes, his, hnd⟩, ?_⟩
    show wpAny _ _ (callWith cpos (.builtin "dict.items") [.ref d] [] []) _ X.xe s1
    refine Calls.callWith_builtin rfl (PySem.evalArgs_none (DT.callItems hs0 raw ?_))
    exact go _ q
end
/-! ### the call -/
theorem paired_map_r {α β γ : Type} {F : α → γ → Prop} (h : β → γ) : ∀ {xs : List α} {ys : List β}, Paired (fun a b => F a (h b)) xs ys → Paired F xs (ys.map h)
  | _, _, .nil => .nil
  | _, _, .cons a b => .cons a (paired_map_r h b)
def rSortK : List V → Hp → VK → Prop := fun vs H Q => ∃ (r d : Addr) (zs : List Str) (g : Str → Int), vs = [.ref r] ∧ H r = some (ViewO r d) ∧ H d = some (.dK (dkF zs g)) ∧ zs.length ≤ 1000 ∧
  SrtQ (fun z : Str => (V.str z, V.int (g z))) (fun z => .tuple [.str z, .int (g z)]) zs H Q
def rSortT : List V → Hp → VK → Prop := fun vs H Q => ∃ (r d : Addr) (ps : List ((Str × Str) × Int)), vs = [.ref r] ∧ H r = some (ViewO r d) ∧ H d = some (.dT (dtF ps)) ∧ ps.length ≤ 1000 ∧
  ∀ (H' : Hp) (p : Addr) (ts : List Addr), Same H H' → H p = none → H' p = some (.lst (ts.map V.ref)) →
    Paired (fun (t : Addr) (e : (Str × Str) × Int) => ∃ q, H' t = some (.tup [.ref q, .int e.2]) ∧ H' q = some (.tup [.str e.1.1, .str e.1.2])) ts (ps.mergeSort (PySem.W.dataLe false fun e => .tuple [.tuple [.str e.1.1, .str e.1.2], .int e.2])) → Q (.ref p) H'
section
variable {X : Cx}
theorem cr_sortedK (hc : X.calm = true) (hu : X.A.units + 64 < cLine) : CallR X (.builtin "sorted") rSortK := by
  intro pins s σ H vs us Q I r h
  obtain ⟨r0, d, zs, g, rfl, hr, hd, hl, q⟩ := h
  obtain ⟨u, rfl, rx⟩ := vals1 r
  cases rx
  obtain ⟨hz, hs0, ws, kv, o, es, ep, ho, hx, hdat, hko, hpr, hnd⟩ := I.hok d _ hd
  have hv : s.heap.IsItemsView r0 d := (I.hok r0 _ hr).1
  have big : 1000 ≤ sizeLine := by decide
  have le : es.size = ws.length := by rw [← Array.length_toList]; exact hpr.length
  have lw : (dkF zs g).length = ws.length := Paired.length kv
  have lz : (dkF zs g).length = zs.length := by simp [dkF]
  refine call_sortedI (kvs := zs) (es := es) (ep := ep) I hc hu hv ⟨o, ho, hx, hdat⟩ (Nat.le_trans (by omega) big) (by omega) (fun i z hi => ?_) (fun z hz H' a e h => .tup (.inl (.inl h)) (.cons (.str _) (.cons (.int _) .nil))) ?_ ?_ (fun z _ => by simp [PyData.depth, PyData.depthAll]) q
  · have h1 : (dkF zs g)[i]? = some (Sum.inr z, V.int (g z)) := by unfold dkF; rw [List.getElem?_map, hi]; rfl
    obtain ⟨w0, hw, e1, e2⟩ := LiI.paired_get kv h1
    have hi2 : i < es.size := by
      have := (List.getElem?_eq_some_iff.mp hw).1
      omega
    have he : es.toList[i]? = some es[i] := by rw [Array.getElem?_toList]; exact Array.getElem?_eq_getElem hi2
    obtain ⟨k1, k2⟩ := hpr.get? he (show ws[i]? = some (w0.1, w0.2) from hw)
    refine ⟨es[i], Array.getElem?_eq_getElem hi2, ?_, ?_⟩
    · rw [← e1] at k1
      exact relV_key (k := Sum.inr z) k1
    · rw [k2]; exact e2
  · intro a ha b hb
    obtain ⟨x, _, rfl⟩ := List.mem_map.mp ha
    obtain ⟨y, _, rfl⟩ := List.mem_map.mp hb
    rfl
  · exact .inl fun a ha => by
      obtain ⟨x, _, rfl⟩ := List.mem_map.mp ha
      exact ⟨_, _, rfl⟩
theorem cr_sortedT (hc : X.calm = true) (hu : X.A.units + 64 < cLine) : CallR X (.builtin "sorted") rSortT := by
  intro pins s σ H vs us Q I r h
  obtain ⟨r0, d, ps, rfl, hr, hd, hl, q⟩ := h
  obtain ⟨u, rfl, rx⟩ := vals1 r
  cases rx
  obtain ⟨hz, hs0, xs, rel, o, es, ep, ho, hx, hdat, hes, his, hnd⟩ := dt_of I.hok hd
  have hv : s.heap.IsItemsView r0 d := (I.hok r0 _ hr).1
  have big : 1000 ≤ sizeLine := by decide
  have le : es.size = xs.length := size_of_entries hes
  have lx : (dtF ps).length = xs.length := Paired.length rel
  have lp : (dtF ps).length = ps.length := by simp [dtF]
  let kvs : List (((Str × Str) × Int) × Addr) := ps.zip (xs.map fun x => x.2.1)
  have kl : kvs.length = ps.length := by show (ps.zip _).length = _; rw [List.length_zip, List.length_map]; omega
  have kAt : ∀ (i : Nat) (k : ((Str × Str) × Int) × Addr), kvs[i]? = some k → ps[i]? = some k.1 ∧ ∃ x, xs[i]? = some x ∧ x.2.1 = k.2 := fun i k h => by
    obtain ⟨h1, h2⟩ := List.getElem?_zip_eq_some.mp h
    rw [List.getElem?_map] at h2
    obtain ⟨x, h3, h4⟩ := Option.map_eq_some_iff.mp h2
    exact ⟨h1, x, h3, h4⟩
  have rAt : ∀ (i : Nat) (k : ((Str × Str) × Int) × Addr), kvs[i]? = some k → H k.2 = some (.tup [.str k.1.1.1, .str k.1.1.2]) ∧ ∃ x, xs[i]? = some x ∧ x.2.1 = k.2 ∧ RelV (.int k.1.2) x.2.2 := fun i k h => by
    obtain ⟨h1, x, h2, h3⟩ := kAt i k h
    have h4 : (dtF ps)[i]? = some ([Sum.inr k.1.1.1, Sum.inr k.1.1.2], V.int k.1.2) := by unfold dtF; rw [List.getElem?_map, h1]; rfl
    obtain ⟨x', hx1, r1, r2, r3⟩ := LiI.paired_get rel h4
    rw [h2] at hx1
    cases hx1
    rw [h3] at r2
    exact ⟨r2, x, h2, h3, r3⟩
  have kM : ∀ k ∈ kvs, H k.2 = some (.tup [.str k.1.1.1, .str k.1.1.2]) := fun k hk => by
    obtain ⟨i, hi⟩ := List.mem_iff_getElem?.mp hk
    exact (rAt i k hi).1
  refine call_sortedI (f := fun k => (V.ref k.2, V.int k.1.2)) (dat := fun k => .tuple [.tuple [.str k.1.1.1, .str k.1.1.2], .int k.1.2]) (kvs := kvs) (es := es) (ep := ep) I hc hu hv ⟨o, ho, hx, hdat⟩ (Nat.le_trans (by omega) big) (by omega) (fun i k hi => ?_) (fun k hk H' a e h => .tup (.inl (.inl h)) (.cons (.tup (.inl (.inl (e _ _ (kM k hk)))) (.cons (.str _) (.cons (.str _) .nil))) (.cons (.int _) .nil))) ?_ ?_ (fun z _ => by simp [PyData.depth, PyData.depthAll]) fun H' p ts e hp hpl pr => q H' p ts e hp hpl ?_
  · obtain ⟨_, x, h2, h3, h4⟩ := rAt i k hi
    refine ⟨entryOfKey (tupleKind (mixKind X.prog X.w)) x, by rw [entry_at hes, h2]; rfl, ?_, h4⟩
    show RelV (V.ref k.2) (Value.ref x.2.1)
    rw [h3]; rfl
  · intro a ha b hb
    obtain ⟨x, _, rfl⟩ := List.mem_map.mp ha
    obtain ⟨y, _, rfl⟩ := List.mem_map.mp hb
    rfl
  · exact .inl fun a ha => by
      obtain ⟨x, _, rfl⟩ := List.mem_map.mp ha
      exact ⟨_, _, rfl⟩
  · have e1 : ps = kvs.map Prod.fst := (List.map_fst_zip (by rw [List.length_map]; omega)).symm
    rw [e1, show (kvs.map Prod.fst).mergeSort (PySem.W.dataLe false fun e : (Str × Str) × Int => .tuple [.tuple [.str e.1.1, .str e.1.2], .int e.2]) = (kvs.mergeSort (PySem.W.dataLe false fun k : ((Str × Str) × Int) × Addr => .tuple [.tuple [.str k.1.1.1, .str k.1.1.2], .int k.1.2])).map Prod.fst from (List.map_mergeSort (f := Prod.fst) (l := kvs) (r := PySem.W.dataLe false fun k : ((Str × Str) × Int) × Addr => .tuple [.tuple [.str k.1.1.1, .str k.1.1.2], .int k.1.2]) (s := PySem.W.dataLe false fun e : (Str × Str) × Int => .tuple [.tuple [.str e.1.1, .str e.1.2], .int e.2]) (fun a _ b _ => rfl)).symm]
    refine paired_map_r Prod.fst ?_
    have km : ∀ k ∈ kvs.mergeSort (PySem.W.dataLe false fun k : ((Str × Str) × Int) × Addr => .tuple [.tuple [.str k.1.1.1, .str k.1.1.2], .int k.1.2]), k ∈ kvs := fun k hk => (List.mergeSort_perm ..).mem_iff.mp hk
    revert pr
    generalize kvs.mergeSort _ = l at km
    intro pr
    clear hpl
    induction pr with
    | nil => exact .nil
    | cons h t ih => exact .cons ⟨_, h, e _ _ (kM _ (km _ List.mem_cons_self))⟩ (ih fun k hk => km k (List.mem_cons_of_mem _ hk))
end
end MN
/-! == of dicts: keys texts or pairs of texts, values numbers -/
namespace MN
open PySem PySem.Spec PyProof.Rows L2 PySem.Calls
section
variable {prog : Program} {w : World} {K : Type} [DecidableEq K] {knd : HeapKind prog w K} {A : Around} {E : Value → Shared → Prop} {s : Shared}
def valH (kb : List (K × Addr × Value)) (k : K) : Option Value := (kb.find? fun x => decide (x.1 = k)).map (·.2.2)
inductive HitsH (prog : Program) (w : World) (A : Around) (s : Shared) (kb : List (K × Addr × Value)) : List (K × Addr × Value) → Bool → Prop
  | nil : HitsH prog w A s kb [] true
  | miss {x : K × Addr × Value} {r : List (K × Addr × Value)} : valH kb x.1 = none → HitsH prog w A s kb (x :: r) false
  | hit {x : K × Addr × Value} {y : Value} {r : List (K × Addr × Value)} {e b : Bool} : valH kb x.1 = some y → SeqAt.EqP prog w A s x.2.2 y e → HitsH prog w A s kb r b → HitsH prog w A s kb (x :: r) (e && b)
theorem HitsH.inv {kb : List (K × Addr × Value)} {x : K × Addr × Value} {r : List (K × Addr × Value)} {b : Bool} (h : HitsH prog w A s kb (x :: r) b) :
    (valH kb x.1 = none ∧ b = false) ∨ ∃ y e b', valH kb x.1 = some y ∧ SeqAt.EqP prog w A s x.2.2 y e ∧ HitsH prog w A s kb r b' ∧ b = (e && b') := by
  cases h with
  | miss hn => exact .inl ⟨hn, rfl⟩
  | hit hy he hr => exact .inr ⟨_, _, _, hy, he, hr, rfl⟩
theorem valH_at {kb : List (K × Addr × Value)} (nd : (kb.map (·.1)).Nodup) {k : K} {j : Nat} {p : Addr × Value} (h : kb[j]? = some (k, p)) : valH kb k = some p.2 := by
  unfold valH
  induction kb generalizing j with
  | nil => simp at h
  | cons x kb ih =>
    rw [List.map_cons, List.nodup_cons] at nd
    cases j with
    | zero =>
      cases h
      rw [List.find?_cons_of_pos (by simp)]; rfl
    | succ j =>
      have h : kb[j]? = some (k, p) := h
      have hk : k ∈ kb.map (·.1) := List.mem_map.mpr ⟨_, List.mem_of_getElem? h, rfl⟩
      rw [List.find?_cons_of_neg (by simp; exact fun e => nd.1 (by rw [e]; exact hk))]
      exact ih nd.2 h
theorem valH_no {kb : List (K × Addr × Value)} {k : K} (h : ∀ (j : Nat) (p : Addr × Value), kb[j]? ≠ some (k, p)) : valH kb k = none := by
  unfold valH
  cases e : kb.find? fun x => decide (x.1 = k) with
  | none => rfl
  | some x =>
    have h1 := List.find?_some e
    have h2 := List.mem_of_find?_eq_some e
    obtain ⟨j, hj⟩ := List.mem_iff_getElem?.mp h2
    have h1 : x.1 = k := of_decide_eq_true h1
    exact absurd (hj.trans (by rw [← h1])) (h j x.2)
theorem samePairsH {nm : String} {a b : Addr} {ka kb : List (K × Addr × Value)} {r : Bool} {Q : Bool → Shared → Prop} (ha : (a == sysModules) = false) (hb : (b == sysModules) = false) (hu : knd.room A)
    (da : s.heap.DictOfH knd a ka) (db : s.heap.DictOfH knd b kb) (hits : ka.length = kb.length → HitsH prog w A s kb ka r) (h : Q (ka.length == kb.length && r) s) :
    wpAny (model prog w) A (Builtin.Dict.samePairs nm a b) Q E s := by
  obtain ⟨oa, es, ep, hoa, _, hda, hea, hia, _⟩ := da
  obtain ⟨ob, es', ep', hob, _, hdb, heb, hib, hnb⟩ := db
  have hla : ka.length = es.size := (size_of_entries hea).symm
  have hlb : kb.length = es'.size := (size_of_entries heb).symm
  rw [hla, hlb] at h
  unfold Builtin.Dict.samePairs Builtin.Dict.showsAll
  rw [if_neg (show ¬ (a == sysModules) = true by rw [ha]; exact Bool.false_ne_true), if_neg (show ¬ (b == sysModules) = true by rw [hb]; exact Bool.false_ne_true)]
  refine wpAny_bind (wpAny_pure (wpAny_bind (wpAny_pure ?_)))
  refine wpAny_bind (wpAny_dictEntries hoa hda ?_)
  dsimp only
  refine wpAny_bind (wpAny_dictEntries hob hdb ?_)
  by_cases hsz : es.size = es'.size
  case neg =>
    rw [if_pos (by simpa using hsz)]
    have hbf : (es.size == es'.size) = false := by simpa using hsz
    rw [hbf, Bool.false_and] at h
    exact wpAny_bind (wpAny_rule (wpAny_pure h))
  case pos =>
    have h' : Q r s := by simpa [hsz] using h
    have hits' := hits (by rw [hla, hlb]; exact hsz)
    rw [if_neg (by rw [hsz]; simp)]
    refine wpAny_bind (wpAny_dictEpoch hoa hda ?_)
    refine wpAny_bind ?_
    rw [Std.Legacy.Range.forIn_eq_forIn_range']
    simp only [Std.Legacy.Range.size, Nat.sub_zero, Nat.add_sub_cancel, Nat.div_one]
    refine wpAny_forIn_list _
      (fun rest q s' => s' = s ∧ q = (none, ()) ∧ ∃ i, rest = List.range' i (es.size - i) ∧ i ≤ es.size ∧ HitsH prog w A s kb (ka.drop i) r)
      _ ?_ ?_ _ _ ⟨rfl, rfl, 0, by simp, Nat.zero_le _, hits'⟩
    · rintro x rest q s' ⟨rfl, rfl, i, hr, hi, hpre⟩
      have hlt : i < es.size := by
        rcases Nat.lt_or_ge i es.size with h | h
        · exact h
        · rw [Nat.sub_eq_zero_of_le h] at hr; simp at hr
      obtain ⟨rfl, hrest⟩ : x = i ∧ rest = List.range' (i + 1) (es.size - (i + 1)) := by
        have e : es.size - i = (es.size - (i + 1)) + 1 := by omega
        rw [e, List.range'_succ] at hr
        injection hr with h1 h2
        exact ⟨h1, h2⟩
      refine wpAny_bind (wpAny_dictEntries hoa hda ?_)
      rw [Array.getElem?_eq_getElem hlt]
      have hlt' : x < ka.length := by rw [hla]; exact hlt
      have hdrop : ka.drop x = ka[x] :: ka.drop (x + 1) := List.drop_eq_getElem_cons hlt'
      have hent : es[x] = entryOfKey knd ka[x] := by
        have := entry_at hea x
        rw [Array.getElem?_eq_getElem hlt, List.getElem?_eq_getElem hlt'] at this
        exact Option.some.inj this
      rw [hdrop] at hpre
      show wpAny _ _ (holding [es[x].key, es[x].val] _ >>= _) _ _ _
      rw [hent]
      have hkey := hia ka[x] (List.getElem_mem _)
      refine wpAny_bind (wpAny_holding (wpAny_bind (wpAny_dictFind_heap hu hkey hob hdb heb hib hnb (fun hno => ?_) (fun j p hj => ?_))))
      · have hn := valH_no hno
        rcases hpre.inv with ⟨_, er⟩ | ⟨y, _, _, hy, _⟩
        · rw [er] at h'
          refine wpAny_pure ?_
          show wpAny _ _ (if (!false) = true then _ else _) _ _ _
          rw [if_pos (by decide)]
          exact wpAny_pure (wpAny_pure h')
        · rw [hn] at hy; exact nomatch hy
      · have hv' := valH_at hnb hj
        have hjlt : j < es'.size := by
          have := (List.getElem?_eq_some_iff.mp hj).1
          omega
        have hej : es'[j] = entryOfKey knd (ka[x].1, p) := by
          have := entry_at heb j
          rw [Array.getElem?_eq_getElem hjlt, hj] at this
          exact Option.some.inj this
        refine wpAny_bind (wpAny_dictEntries hob hdb ?_)
        rw [Array.getElem?_eq_getElem hjlt]
        rcases hpre.inv with ⟨hn, _⟩ | ⟨y, e, b', hy, he, hrr, er⟩
        · rw [hv'] at hn; exact nomatch hn
        · have ey : p.2 = y := Option.some.inj (hv'.symm.trans hy)
          rw [← ey] at he
          show wpAny _ _ (holding [es'[j].val] _) _ _ _
          rw [hej]
          refine wpAny_holding (he _ _ ?_)
          cases e with
          | false =>
            rw [er, Bool.false_and] at h'
            show wpAny _ _ (if (!false) = true then _ else _) _ _ _
            rw [if_pos (by decide)]
            exact wpAny_pure (wpAny_pure h')
          | true =>
            rw [Bool.true_and] at er
            rw [← er] at hrr
            show wpAny _ _ (if (!true) = true then _ else _) _ _ _
            rw [if_neg (by decide)]
            refine wpAny_bind (wpAny_dictEpoch hoa hda ?_)
            rw [if_neg (by simp)]
            exact wpAny_pure ⟨rfl, rfl, x + 1, hrest, hlt, hrr⟩
    · rintro q s' ⟨rfl, rfl, i, hr, hi, hpre⟩
      have hin : i = es.size := by
        rcases Nat.lt_or_ge i es.size with h | h
        · have e : es.size - i = (es.size - (i + 1)) + 1 := by omega
          rw [e, List.range'_succ] at hr; exact nomatch hr
        · exact Nat.le_antisymm hi h
      refine wpAny_pure ?_
      rw [hin, ← hla, List.drop_length] at hpre
      cases hpre
      exact h'
end
end MN
/-! == of dicts with numbers as values: rules -/
namespace MN
open PySem PySem.Spec PyProof.Rows L2
/-- the two dicts are equal -/
def eqKv {κ : Type} [DecidableEq κ] (ks ls : List (κ × Int)) : Bool := ks.length == ls.length && ks.all fun p => decide (((ls.find? fun x => decide (x.1 = p.1)).map (·.2)) = some p.2)
def intKv {κ : Type} (ks : List (κ × Int)) : List (κ × V) := ks.map fun p => (p.1, V.int p.2)
theorem valV_int {κ : Type} [DecidableEq κ] (ls : List (κ × Int)) (k : κ) : valV (intKv ls) k = ((ls.find? fun x => decide (x.1 = k)).map (·.2)).map V.int := by
  unfold valV intKv
  induction ls with
  | nil => rfl
  | cons p ls ih =>
    rw [List.map_cons]
    by_cases h : p.1 = k
    · rw [List.find?_cons_of_pos (by simpa using h), List.find?_cons_of_pos (by simpa using h)]; rfl
    · rw [List.find?_cons_of_neg (by simpa using h), List.find?_cons_of_neg (by simpa using h)]; exact ih
theorem hitsK {P : Program} {w : World} {A : Around} {s : Shared} {ls : List (Key × Int)} {vb : List (Key × Value)} (rb : KV (intKv ls) vb) : ∀ {ks : List (Key × Int)} {va : List (Key × Value)}, KV (intKv ks) va →
    PySem.W.KeqHitsP P w A s vb va (ks.all fun p => decide (((ls.find? fun x => decide (x.1 = p.1)).map (·.2)) = some p.2))
  | [], _, ra => by cases ra; exact .nil
  | p :: ks, _, ra => by
    cases ra with
    | @cons _ q _ qs h t =>
      obtain ⟨h1, u, h2⟩ := h
      obtain ⟨key, v⟩ := q
      have h1 : p.1 = key := h1
      have h2 : v = Value.int p.2 u := h2
      subst h1 h2
      have rr : RelO (valV (intKv ls) p.1) (valueAt vb p.1) := rb.val p.1
      rw [valV_int] at rr
      rw [List.all_cons]
      cases e : (ls.find? fun x => decide (x.1 = p.1)).map (·.2) with
      | none =>
        rw [e] at rr
        have hn : valueAt vb p.1 = none := by
          cases z : valueAt vb p.1 with
          | none => rfl
          | some y => rw [z] at rr; exact rr.elim
        rw [show (decide ((none : Option Int) = some p.2) && ks.all _) = false by simp]
        exact .miss hn
      | some j =>
        rw [e] at rr
        obtain ⟨y, hy, u2, rfl⟩ := rr.some_of
        have : (decide (some j = some p.2)) = (p.2 == j) := by
          by_cases q : p.2 = j
          · subst q; simp
          · simp [q, Ne.symm q]
        rw [this]
        exact .hit hy (SeqAt.EqAt.eqP (SeqAt.EqAt.int_int _ _ _ _)) (hitsK rb t)
section
variable {X : Cx}
def rEqDK : R2 := fun x y H Q => ∃ (a b : Addr) (ks ls : List (Key × Int)), x = .ref a ∧ y = .ref b ∧ H a = some (.dK (intKv ks)) ∧ H b = some (.dK (intKv ls)) ∧ Q (.bl (eqKv ks ls)) H
theorem op_eqDK (hu : X.A.units + 64 < cLine) : OpR X (compareOp .Eq) rEqDK := by
  intro pins s σ H x y v u Q I rx ry h
  obtain ⟨a, b, ks, ls, rfl, rfl, ha, hb, q⟩ := h
  obtain rfl : v = Value.ref a := rx
  obtain rfl : u = Value.ref b := ry
  obtain ⟨_, ha0, va, ra, da⟩ := I.hok a _ ha
  obtain ⟨_, hb0, vb, rb, db⟩ := I.hok b _ hb
  have la : va.length = ks.length := by rw [← Paired.length ra]; simp [intKv]
  have lb : vb.length = ls.length := by rw [← Paired.length rb]; simp [intKv]
  show wpAny (model X.prog X.w) X.A (richCompare .Eq (.ref a) (.ref b)) (EP X pins σ Q) X.xe s
  refine PySem.W.rcP_dicts ha0 hb0 da db (by omega) (fun _ => hitsK rb ra) _ _ ?_
  rw [la, lb]
  exact ⟨.bl _, H, I, rfl, q⟩
end
/-! ### keys that are tuples -/
theorem rcH_dicts {P : Program} {w : World} {K : Type} [DecidableEq K] {knd : HeapKind P w K} {A : Around} {s : Shared} {a b : Addr} {ka kb : List (K × Addr × Value)} {r : Bool} (ha : (a == sysModules) = false) (hb : (b == sysModules) = false)
    (da : s.heap.DictOfH knd a ka) (db : s.heap.DictOfH knd b kb) (hu : A.units < cLine) (hu1 : knd.room A.in1) (hits : ka.length = kb.length → HitsH P w A.in1 s kb ka r) (E Q : Value → Shared → Prop) (h : Q (.bool (ka.length == kb.length && r)) s) : wpAny (model P w) A (richCompare .Eq (.ref a) (.ref b)) Q E s := by
  refine wpAny_richCompare_same_room (op := .Eq) da.typeIs db.typeIs PySem.F.slot_dict_eq (wpAny_call_entry PySem.F.slot_dict_eq da.typeIs PySem.F.entry_dict_eq ?_ (PySem.F.args_dict_eq_2 _ _)) hu
  show wpAny _ _ (Builtin.Dict.dictSlotArgs "__eq__" ⟨[.ref a, .ref b], []⟩ >>= _) _ _ s
  refine wpAny_bind ?_
  unfold Builtin.Dict.dictSlotArgs
  refine wpAny_bind (wpAny_notOrdered_dict da.typeIs ?_)
  show wpAny _ _ (pure (Value.ref a, Value.ref b)) _ _ s
  refine wpAny_pure ?_
  refine wpAny_bind (wpAny_isInstance (T := "dict") db.typeIs PySem.F.sub_dict_dict ?_)
  simp only [Bool.not_true, Bool.false_eq_true, if_false]
  refine wpAny_bind (wpAny_pure (wpAny_bind (wpAny_pure ?_)))
  refine wpAny_bind (samePairsH ha hb hu1 da db hits ?_)
  refine wpAny_pure ⟨_, rfl, ?_, ?_⟩
  · exact fun x => nomatch x
  · simpa using h
theorem valH_rel {H : Hp} : ∀ {ls : List (List Key × Int)} {vb : List (List Key × Addr × Value)}, KT H (intKv ls) vb → ∀ k : List Key, RelO ((((ls.find? fun x => decide (x.1 = k)).map (·.2))).map V.int) (valH vb k)
  | [], _, r, k => by cases r; exact trivial
  | p :: ls, _, r, k => by
    cases r with
    | @cons _ q _ qs h t =>
      obtain ⟨h1, _, h3⟩ := h
      have h1 : p.1 = q.1 := h1
      unfold valH
      by_cases e : p.1 = k
      · rw [List.find?_cons_of_pos (by simpa using e), List.find?_cons_of_pos (by rw [← h1]; simpa using e)]
        exact h3
      · rw [List.find?_cons_of_neg (by simpa using e), List.find?_cons_of_neg (by rw [← h1]; simpa using e)]
        exact valH_rel t k
theorem hitsT {P : Program} {w : World} {A : Around} {s : Shared} {H H2 : Hp} {ls : List (List Key × Int)} {vb : List (List Key × Addr × Value)} (rb : KT H (intKv ls) vb) : ∀ {ks : List (List Key × Int)} {va : List (List Key × Addr × Value)}, KT H2 (intKv ks) va →
    HitsH P w A s vb va (ks.all fun p => decide (((ls.find? fun x => decide (x.1 = p.1)).map (·.2)) = some p.2))
  | [], _, ra => by cases ra; exact .nil
  | p :: ks, _, ra => by
    cases ra with
    | @cons _ q _ qs h t =>
      obtain ⟨h1, _, u, h2⟩ := h
      obtain ⟨key, ad, v⟩ := q
      have h1 : p.1 = key := h1
      have h2 : v = Value.int p.2 u := h2
      subst h1 h2
      have rr := valH_rel rb p.1
      rw [List.all_cons]
      cases e : (ls.find? fun x => decide (x.1 = p.1)).map (·.2) with
      | none =>
        rw [e] at rr
        have hn : valH vb p.1 = none := by
          cases z : valH vb p.1 with
          | none => rfl
          | some y => rw [z] at rr; exact rr.elim
        rw [show (decide ((none : Option Int) = some p.2) && ks.all _) = false by simp]
        exact .miss hn
      | some j =>
        rw [e] at rr
        obtain ⟨y, hy, u2, rfl⟩ := rr.some_of
        have : (decide (some j = some p.2)) = (p.2 == j) := by
          by_cases q : p.2 = j
          · subst q; simp
          · simp [q, Ne.symm q]
        rw [this]
        exact .hit hy (SeqAt.EqAt.eqP (SeqAt.EqAt.int_int _ _ _ _)) (hitsT rb t)
section
variable {X : Cx}
def rEqDT : R2 := fun x y H Q => ∃ (a b : Addr) (ks ls : List (List Key × Int)), x = .ref a ∧ y = .ref b ∧ H a = some (.dT (intKv ks)) ∧ H b = some (.dT (intKv ls)) ∧ Q (.bl (eqKv ks ls)) H
theorem op_eqDT (hu : X.A.units + 64 < cLine) : OpR X (compareOp .Eq) rEqDT := by
  intro pins s σ H x y v u Q I rx ry h
  obtain ⟨a, b, ks, ls, rfl, rfl, ha, hb, q⟩ := h
  obtain rfl : v = Value.ref a := rx
  obtain rfl : u = Value.ref b := ry
  obtain ⟨_, ha0, va, ra, da⟩ := dt_of I.hok ha
  obtain ⟨_, hb0, vb, rb, db⟩ := dt_of I.hok hb
  have la : va.length = ks.length := by rw [← Paired.length ra]; simp [intKv]
  have lb : vb.length = ls.length := by rw [← Paired.length rb]; simp [intKv]
  show wpAny (model X.prog X.w) X.A (richCompare .Eq (.ref a) (.ref b)) (EP X pins σ Q) X.xe s
  refine rcH_dicts ha0 hb0 da db (by omega) ?_ (fun _ => hitsT rb ra) _ _ ?_
  · show X.A.in1.units < cLine
    show X.A.units + 1 < cLine
    omega
  · rw [la, lb]
    exact ⟨.bl _, H, I, rfl, q⟩
end
end MN
/-! d.pop(k, x) of a dict with tuple keys -/
namespace MN
open PySem PySem.Spec PyProof.Rows L2
theorem KT.drop {H : Hp} {kvs : List (List Key × V)} {xs : List (List Key × Addr × Value)} (r : KT H kvs xs) (k : List Key) : KT H (dropK kvs k) (withoutH xs k) := by
  unfold dropK withoutH
  induction r with
  | nil => exact .nil
  | @cons p q ps qs h t ih =>
    obtain ⟨h1, h2, h3⟩ := h
    by_cases e : p.1 = k
    · rw [List.filter_cons_of_neg (by simpa using e), List.filter_cons_of_neg (by rw [← h1]; simpa using e)]
      exact ih
    · rw [List.filter_cons_of_pos (by simpa using e), List.filter_cons_of_pos (by rw [← h1]; simpa using e)]
      exact .cons ⟨h1, h2, h3⟩ ih
section
variable {X : Cx} {pins : List (Addr × Obj)} {σ : L2.St} {H : Hp} {s : Shared} {a b : Addr} {kvs : List (List Key × V)} {k : List Key} {A : Around} {E : Value → Shared → Prop}
theorem d_popT {Q : VK} {z : V} {r : Value} (hu : A.units + 1 < cLine) (I : L2.Inv X pins σ H s) (e : H a = some (.dT kvs)) (eb : H b = some (.tup (k.map kV))) (rz : RelV z r)
    (h1 : ∀ v, valV kvs k = some v → Q v (upd H a (.dT (dropK kvs k)))) (h2 : valV kvs k = none → Q z H) :
    wpAny (model X.prog X.w) A (call (.builtin "dict.pop") [.ref a, .ref b, r]) (EP X pins σ Q) E s := by
  obtain ⟨hz, hd, xs, rel, dd⟩ := dt_of I.hok e
  have hx : xs.length ≤ sizeLine := by rw [← Paired.length rel]; exact hz
  have rv := KT.val rel k
  cases l : valV kvs k with
  | some v =>
    rw [l] at rv
    obtain ⟨w', hw, rw'⟩ := RelO.some_of rv
    obtain ⟨p, hp, rfl⟩ := Option.map_eq_some_iff.mp hw
    refine call_pop_heap (hsz := hx) (knd := tupleKind (mixKind X.prog X.w)) (.inr ⟨r, rfl⟩) (PySem.F.args_dict_pop_3 _ _ _) (tupleKind_room_in1 hu) (key_of I.hok eb) hd dd hp fun h' dd' hs => ?_
    obtain ⟨q, es, ep, hq, g2, g3, g4, _, g5⟩ := dd'
    refine ⟨v, _, d_write (ob := .dT (dropK kvs k)) I (by rw [e]; exact True.intro) hs ⟨q, hq⟩ ⟨Nat.le_trans (by unfold dropK; exact List.length_filter_le ..) hz, hd, _, (KT.drop rel k).keeps fun c ys ec => ?_, q, es, ep, hq, g2, g3, g4, g5⟩, rw', h1 v l⟩
    rw [upd_ne (ne_of ec e (fun z => nomatch z))]
    exact ec
  | none =>
    rw [l] at rv
    have hn : atKey xs k = none := by
      cases c : atKey xs k with
      | none => rfl
      | some p => rw [c] at rv; exact rv.elim
    exact call_pop_default_heap (hsz := hx) (knd := tupleKind (mixKind X.prog X.w)) (tupleKind_room_in1 hu) (key_of I.hok eb) hd dd hn fun tk => ⟨z, H, I.kept (h' := s.heap) (t' := tk) (fun _ _ q => q), rz, h2 l⟩
end
section
variable {X : Cx} {o e f : Expr} {apos cpos : Pos} {td ty tx : TE}
def tDPopT (td ty tx : TE) : TE := fun σ H Q => td σ H fun x H1 => ∃ a, x = .ref a ∧ IsD H1 a ∧ ty σ H1 fun y H2 => tx σ H2 fun z H3 => ∃ kvs k b, H3 a = some (.dT kvs) ∧ y = .ref b ∧ H3 b = some (.tup (k.map kV)) ∧
  (∀ v, valV kvs k = some v → Q v (upd H3 a (.dT (dropK kvs k)))) ∧ (valV kvs k = none → Q z H3)
theorem pe_dpopT (hu : X.A.units + 64 < cLine) (ho : PE X o td) (he : PE X e ty) (hf : PE X f tx) (m : M2 X o "pop" apos e f cpos) : PE X (.Call (.Attribute o "pop" apos) [e, f] [] cpos) (tDPopT td ty tx) := by
  refine ⟨fun pins s σ H Q I h => ?_⟩
  refine wpAny_Call_method m.base m.few m.line PySem.F.plainAttrs_dict PySem.F.slot_dict_pop PySem.F.type_dict_pop (thn (ho.run pins s σ H _ I h) fun u s1 ⟨x, H1, I1, rx, a, ex, d, q1⟩ => ?_)
  subst ex
  obtain rfl : u = Value.ref a := rx
  obtain ⟨t1, t2, _⟩ := isD_at I1 d
  refine ⟨t1, t2, ?_⟩
  rw [m.trees]
  refine Calls.callWith_builtin rfl (Calls.evalArgs_plain (Calls.spliced_cons (thn (he.run pins s1 σ H1 _ I1 q1) fun iv s2 ⟨y, H2, I2, ry, q2⟩ =>
    Calls.spliced_cons (thn (hf.run pins s2 σ H2 _ I2 q2) fun fv s3 ⟨z, H3, I3, rz, kvs, k, b, ea, ey, eb, q3, q4⟩ => Calls.spliced_nil ?_))))
  subst ey
  obtain rfl : iv = Value.ref b := ry
  exact d_popT (by omega) I3 ea eb rz q3 q4
end
end MN
/-! == and != by an own __eq__, with any second operand -/
namespace MN
open PySem PySem.Spec PyProof.Rows L2
/-- the value is of the type t -/
def TyV (K : PySem.W.Frag) (H : Hp) (y : V) (t : Value) : Prop := (∃ i, y = .int i ∧ t = .type "int") ∨ (∃ b xs, y = .ref b ∧ SqL K H b xs ∧ t = .type "list") ∨ (∃ b C dx fs, y = .ref b ∧ SlX.Slt H b C dx fs ∧ t = .ref C)
section
variable {X : Cx} {pins : List (Addr × Obj)} {σ : L2.St} {H : Hp} {s : Shared}
theorem TyV.looks {y : V} {t v : Value} (h : TyV X.K H y t) (I : L2.Inv X pins σ H s) (r : RelV y v) : PySem.W.Looks (model X.prog X.w) s.heap (typeOf v) t := by
  rcases h with ⟨i, rfl, rfl⟩ | ⟨b, xs, rfl, hs, rfl⟩ | ⟨b, C, dx, fs, rfl, hb, rfl⟩
  · obtain ⟨u, rfl⟩ := r
    exact PySem.W.Looks.of_pure rfl
  · obtain rfl : v = Value.ref b := r
    obtain ⟨its, rv, hl, _⟩ := I.list hs
    obtain ⟨o, ho, hc, _⟩ := hl.isList
    exact fun A Q E s k q => wpAny_typeOf_ref (k _ _ ho) (by rw [hc]; exact q)
  · obtain rfl : v = Value.ref b := r
    obtain ⟨_, od', _, J', _⟩ := SlX.slt_inst I hb
    exact J'.type
def rOwnEq (C : Addr) (sp : Sp) (E : XK) : R2 := fun x y H Q => ∃ a dx fs t, x = .ref a ∧ SlX.Slt H a C dx fs ∧ TyV X.K H y t ∧ PySem.W.notFirst X.K C t = true ∧ sp [.ref a, y] H (fun v H' => ∃ r, v = .bl r ∧ Q (.bl r) H') E
variable {CX : CXT} {C f : Addr} {fd : FuncData} {ps : List Str} {sp : Sp} {E : XK} {n : Nat}
/-- the call of the own __eq__, as the comparison makes it -/
theorem own_call (F : FnOk X.prog X.w X.K X.mg X.base CX n f fd ps sp) (hb : Binds X.K fd ps []) (hx : Passes CX X E) {A : Around} (sb : Sub X n A) {a : Addr} {y : V} {v : Value} (I : L2.Inv X pins σ H s) (r : RelV y v) {Q : Bool → L2.St → Hp → Prop} {R : Value → Shared → Prop}
    (h : sp [.ref a, y] H (fun v H' => ∃ r, v = .bl r ∧ Q r σ H') E) (k : ∀ (r : Bool) (s' : Shared) (H' : Hp), L2.Inv X pins σ H' s' → Q r σ H' → R (.bool r) s') :
    wpAny (model X.prog X.w) A (call (.ref f) [.ref a, v]) R X.xe s := by
  have e0 : Env0 X.prog X.w X.K X.mg X.base A X.stack s H := by
    have e := I.env0
    exact ⟨by rw [sb.fr]; exact e.frames, e.mod, e.bs, e.bsz, e.funs, e.frf, e.hok, e.bare⟩
  have hl := F.len _ _ _ _ h
  have r2 : Vals [V.ref a, y] [Value.ref a, v] := .cons rfl (.cons r .nil)
  refine wpAny_call (codeAny_mono (F.run A X.stack s H ⟨[.ref a, v], []⟩ [.ref a, v] [.ref a, y] _ E sb.room e0 (by
    have := hb s [.ref a, v] I.kIn (by simpa using hl)
    simpa using this) r2 h) fun r s' hq => ?_)
  cases r with
  | error e => exact hx pins σ H s e s' I hq
  | ok fl =>
    cases fl with
    | ret w =>
      obtain ⟨z, H', I', rz, b, ez, ex⟩ := I.after hq
      subst ez
      cases rz
      exact k b s' H' I' ex
    | next => exact False.elim hq
    | brk => exact False.elim hq
    | cont => exact False.elim hq
theorem op_eqOwn (F : FnOk X.prog X.w X.K X.mg X.base CX n f fd ps sp) (hr : Room n X.A) (hs : PySem.W.findIn X.K (.ref C) "__eq__" = some (some (.ref f))) (hf : PySem.W.isFn X.K (.ref f) = true) (hb : Binds X.K fd ps []) (hx : Passes CX X E) :
    OpR X (compareOp .Eq) (rOwnEq (X := X) C sp E) := by
  intro pins s σ H x y v u Q I rx ry hq
  obtain ⟨a, dx, fs, t, rfl, ha, ty, nf, h⟩ := hq
  obtain rfl : v = Value.ref a := rx
  obtain ⟨_, od, _, J, _⟩ := SlX.slt_inst I ha
  obtain ⟨m, hF⟩ := I.fr
  show wpAny (model X.prog X.w) X.A (richCompare .Eq (.ref a) u) (EP X pins σ Q) X.xe s
  refine PySem.W.cmp_K (op := .Eq) (tb := t) hr.units0 hF I.ok.mod.kin J (ty.looks I ry) nf hs hf ?_
  exact own_call (Q := fun r _ H' => Q (.bl r) H') F hb hx ⟨hr, rfl⟩ I ry h fun r s' H' I' q => ⟨.bl r, H', I', rfl, q⟩
theorem bind_ne (self : Value) : bindSpecial (.builtin "object.__ne__") self = pure (.builtin "object.__ne__", [self]) := PySem.F.slot_object_ne.bind self
theorem own_ne (F : FnOk X.prog X.w X.K X.mg X.base CX n f fd ps sp) (hb : Binds X.K fd ps []) (hx : Passes CX X E) (hr : Room (n + 1) X.A) (hs : PySem.W.findIn X.K (.ref C) "__eq__" = some (some (.ref f))) (hf : PySem.W.isFn X.K (.ref f) = true)
    (hn : PySem.W.findIn X.K (.ref C) "__ne__" = some (some (.builtin "object.__ne__"))) (ho : PySem.W.subIn X.K (.ref C) (.type "object") = some true) {a : Addr} {ox : Obj} {od : Option Obj} {y : V} {v : Value} (I : L2.Inv X pins σ H s) (J : PySem.W.InstAt s.heap a ox C od) (r : RelV y v) {Q : Bool → L2.St → Hp → Prop} {R : Option Value → Shared → Prop}
    (h : sp [.ref a, y] H (fun v H' => ∃ r, v = .bl r ∧ Q r σ H') E) (k : ∀ (r : Bool) (s' : Shared) (H' : Hp), L2.Inv X pins σ H' s' → Q r σ H' → R (some (.bool (!r))) s') :
    wpAny (model X.prog X.w) X.A (tryCompare (.ref a) "__ne__" v) R X.xe s := by
  have KX := I.kIn
  have u0 := hr.units0
  unfold tryCompare
  refine wpAny_bind (wpAny_mono (Q := fun r s' => ∃ b : Bool, r = some (.bool b) ∧ R (some (.bool b)) s') ?_ (fun r s' ⟨b, e, q⟩ => by subst e; exact wpAny_pure q) (fun _ _ e => e))
  simp only [callSpecialIfBound?, bindSpecialIfBound?]
  refine wpAny_holding (wpAny_bind (wpAny_bind (wpAny_bind (J.type.here ((PySem.W.looks_findIn KX hn).here ?_)))))
  refine wpAny_bind (wpAny_askSetting (wpAny_ite ?_))
  have fin : wpAny (model X.prog X.w) X.A (call (.builtin "object.__ne__") ([.ref a] ++ [v]) >>= fun v => pure (some v)) (fun r s' => ∃ b : Bool, r = some (.bool b) ∧ R (some (.bool b)) s') X.xe s := by
    refine wpAny_bind ?_
    refine wpAny_call (codeAny_call_builtin PySem.F.slot_object_ne.plain PySem.F.entry_object_ne (PySem.W.check_slot (i := "object.__ne__") (owner := "object") (n := "__ne__") (by decide +kernel) (by decide +kernel) (J.type.andThen (PySem.W.looks_subIn KX ho)) (PySem.F.cmpArgs_ne _ _) ?_))
    unfold Builtin.«object.__ne__»
    refine wpAny_bind (wpAny_pure ?_)
    refine wpAny_bind (m := cRoomFor _ _) (wpAny_cRoomFor (by show X.A.in1.units < cLine; exact hr.in1.units0) ?_)
    refine wpAny_bind (m := callSpecialIfBound? (.ref a) (Str.ofString "__eq__") _) (PySem.W.ifBound_K KX J hs hf (own_call (A := X.A.in1) F hb hx (Sub.in1 ⟨hr, rfl⟩) I r h fun b s' H' I' q => ?_))
    refine wpAny_bind (m := truthy (.bool _)) (wpAny_truthy_bool ?_)
    exact wpAny_pure (wpAny_pure ⟨_, rfl, k b s' H' I' q⟩)
  split
  · exact wpAny_bind ((PySem.W.Looks.of_pure (bind_ne _)).here (wpAny_pure (by exact fin)))
  · exact wpAny_tryCatch (wpAny_bind ((PySem.W.Looks.of_pure (bind_ne _)).here (wpAny_pure (by exact fin))))
def rOwnNe (C : Addr) (sp : Sp) (E : XK) : R2 := fun x y H Q => ∃ a dx fs t, x = .ref a ∧ SlX.Slt H a C dx fs ∧ TyV X.K H y t ∧ PySem.W.notFirst X.K C t = true ∧ sp [.ref a, y] H (fun v H' => ∃ r, v = .bl r ∧ Q (.bl (!r)) H') E
theorem op_neOwn (F : FnOk X.prog X.w X.K X.mg X.base CX n f fd ps sp) (hr : Room (n + 1) X.A) (hs : PySem.W.findIn X.K (.ref C) "__eq__" = some (some (.ref f))) (hf : PySem.W.isFn X.K (.ref f) = true) (hb : Binds X.K fd ps []) (hx : Passes CX X E)
    (hn : PySem.W.findIn X.K (.ref C) "__ne__" = some (some (.builtin "object.__ne__"))) (ho : PySem.W.subIn X.K (.ref C) (.type "object") = some true) : OpR X (compareOp .NotEq) (rOwnNe (X := X) C sp E) := by
  intro pins s σ H x y v u Q I rx ry hq
  obtain ⟨a, dx, fs, t, rfl, ha, ty, nf, h⟩ := hq
  obtain rfl : v = Value.ref a := rx
  obtain ⟨_, od, _, J, _⟩ := SlX.slt_inst I ha
  have one := own_ne (R := fun r s' => ∃ b : Bool, r = some (.bool b) ∧ EP X pins σ Q (.bool b) s') F hb hx hr hs hf hn ho I J ry (Q := fun r _ H' => Q (.bl (!r)) H') h fun r s' H' I' q => ⟨!r, rfl, .bl (!r), H', I', rfl, q⟩
  show wpAny (model X.prog X.w) X.A (richCompare .NotEq (.ref a) u) (EP X pins σ Q) X.xe s
  unfold richCompare
  simp only [oneThing_ref]
  refine wpAny_holding (wpAny_bind (wpAny_cRoomFor hr.units0 ?_))
  refine wpAny_bind (J.type.here (wpAny_bind ((ty.looks I ry).here ?_)))
  split
  · rename_i q
    have e : PySem.W.subIn X.K t (.ref C) = some false := by
      rcases Bool.or_eq_true_iff.mp nf with e | e
      · rw [beq_iff_eq.mp e] at q; simp at q
      · exact beq_iff_eq.mp e
    refine wpAny_bind ((PySem.W.looks_subIn I.kIn e).here ?_)
    simp only [Bool.false_eq_true, if_false]
    refine wpAny_bind (wpAny_mono one (fun r s' z => ?_) fun _ _ e => e)
    obtain ⟨b, rfl, hq⟩ := z
    exact wpAny_pure hq
  · refine wpAny_bind (wpAny_pure ?_)
    simp only [Bool.false_eq_true, if_false]
    refine wpAny_bind (wpAny_mono one (fun r s' z => ?_) fun _ _ e => e)
    obtain ⟨b, rfl, hq⟩ := z
    exact wpAny_pure hq
end
end MN
/-! sorted items: one order -/
namespace MN
open PySem PySem.Spec PyProof.Rows L2
theorem pairwise_one {α : Type} {R : α → α → Prop} (asym : ∀ a b, R a b → ¬ R b a) : ∀ {xs ys : List α}, xs.Pairwise R → ys.Pairwise R → (∀ z, z ∈ xs ↔ z ∈ ys) → xs = ys
  | [], [], _, _, _ => rfl
  | [], y :: ys, _, _, h => absurd ((h y).mpr List.mem_cons_self) List.not_mem_nil
  | x :: xs, [], _, _, h => absurd ((h x).mp List.mem_cons_self) List.not_mem_nil
  | x :: xs, y :: ys, hx, hy, h => by
    have irr : ∀ a, ¬ R a a := fun a q => asym a a q q
    obtain ⟨hx1, hx2⟩ := List.pairwise_cons.mp hx
    obtain ⟨hy1, hy2⟩ := List.pairwise_cons.mp hy
    have e : x = y := by
      rcases List.mem_cons.mp ((h x).mp List.mem_cons_self) with e | e
      · exact e
      · rcases List.mem_cons.mp ((h y).mpr List.mem_cons_self) with e2 | e2
        · exact e2.symm
        · exact absurd (hx1 y e2) (asym _ _ (hy1 x e))
    subst e
    congr 1
    refine pairwise_one asym hx2 hy2 fun z => ⟨fun q => ?_, fun q => ?_⟩
    · rcases List.mem_cons.mp ((h z).mp (List.mem_cons_of_mem _ q)) with e | e
      · rw [e] at q; exact absurd (hx1 x q) (irr x)
      · exact e
    · rcases List.mem_cons.mp ((h z).mpr (List.mem_cons_of_mem _ q)) with e | e
      · rw [e] at q; exact absurd (hy1 x q) (irr x)
      · exact e
def sL (z : Str) : List Nat := z.cps.toList
theorem sL_inj {a b : Str} (h : sL a = sL b) : a = b := by
  cases a; cases b
  unfold sL at h
  congr 1
  exact Array.toList_inj.mp h
theorem sL_tri (a b : Str) : sL a < sL b ∨ a = b ∨ sL b < sL a := by
  by_cases h : sL a < sL b
  · exact .inl h
  · by_cases h2 : sL b < sL a
    · exact .inr (.inr h2)
    · exact .inr (.inl (sL_inj (List.le_antisymm (List.not_lt.mp h2) (List.not_lt.mp h))))
theorem dataLt_si (x x' : Str) (y y' : Int) : PySem.W.dataLt (.tuple [.str x, .int y]) (.tuple [.str x', .int y']) = decide (sL x < sL x' ∨ (x = x' ∧ y < y')) := by
  rw [PySem.W.dataLt_pair (by simp [PySem.W.alike]) (by simp [PySem.W.alike]), PySem.W.dataLt_str, PySem.W.dataLt_int]
  simp only [PyData.eqv, beq_iff_eq]
  by_cases h1 : x = x'
  · subst h1
    have : ¬ sL x < sL x := List.lt_irrefl _
    by_cases h2 : y = y' <;> simp [h2, this]
  · simp [h1, sL]
theorem dataLt_ss (x y x' y' : Str) : PySem.W.dataLt (.tuple [.str x, .str y]) (.tuple [.str x', .str y']) = decide (sL x < sL x' ∨ (x = x' ∧ sL y < sL y')) := by
  rw [PySem.W.dataLt_pair (by simp [PySem.W.alike]) (by simp [PySem.W.alike]), PySem.W.dataLt_str, PySem.W.dataLt_str]
  simp only [PyData.eqv, beq_iff_eq]
  by_cases h1 : x = x'
  · subst h1
    rw [if_pos rfl]
    have t : ¬ sL x < sL x := List.lt_irrefl _
    by_cases h2 : y = y'
    · subst h2
      rw [if_pos rfl]
      exact (decide_eq_false (by rintro (q | ⟨_, q⟩) <;> first | exact t q | exact List.lt_irrefl _ q)).symm
    · rw [if_neg h2]
      show decide (sL y < sL y') = _
      exact decide_eq_decide.mpr ⟨fun q => .inr ⟨rfl, q⟩, fun q => q.elim (fun q => absurd q t) And.right⟩
  · rw [if_neg h1]
    show decide (sL x < sL x') = _
    exact decide_eq_decide.mpr ⟨fun q => .inl q, fun q => q.elim id fun q => absurd q.1 h1⟩
theorem dataLt_ssi (x y x' y' : Str) (n n' : Int) : PySem.W.dataLt (.tuple [.tuple [.str x, .str y], .int n]) (.tuple [.tuple [.str x', .str y'], .int n']) = decide ((sL x < sL x' ∨ (x = x' ∧ sL y < sL y')) ∨ ((x, y) = (x', y') ∧ n < n')) := by
  rw [PySem.W.dataLt_pair (by simp [PySem.W.alike, PySem.W.alikeAll]) (by simp [PySem.W.alike]), PySem.W.dataLt_int, dataLt_ss]
  by_cases h1 : x = x' ∧ y = y'
  · obtain ⟨rfl, rfl⟩ := h1
    have e : PyData.eqv (.tuple [.str x, .str y]) (.tuple [.str x, .str y]) = true := by simp [PyData.eqv, PyData.eqvAll]
    rw [if_pos e]
    have t : ¬ (sL x < sL x ∨ (x = x ∧ sL y < sL y)) := by rintro (q | ⟨_, q⟩) <;> exact List.lt_irrefl _ q
    by_cases h2 : n = n'
    · subst h2
      have e2 : PyData.eqv (.int n) (.int n) = true := by simp [PyData.eqv]
      rw [if_pos e2]
      exact (decide_eq_false (by rintro (q | ⟨_, q⟩) <;> first | exact t q | omega)).symm
    · have e2 : ¬ PyData.eqv (.int n) (.int n') = true := by simp [PyData.eqv, h2]
      rw [if_neg e2]
      exact decide_eq_decide.mpr ⟨fun q => .inr ⟨rfl, q⟩, fun q => q.elim (fun q => absurd q t) And.right⟩
  · have e : ¬ PyData.eqv (.tuple [.str x, .str y]) (.tuple [.str x', .str y']) = true := by
      simp only [PyData.eqv, PyData.eqvAll, Bool.and_true, Bool.and_eq_true, beq_iff_eq]
      exact h1
    rw [if_neg e]
    exact decide_eq_decide.mpr ⟨fun q => .inl q, fun q => q.elim id fun q => absurd (Prod.mk.inj q.1) h1⟩
def kLt (a b : Str × Str) : Prop := sL a.1 < sL b.1 ∨ (a.1 = b.1 ∧ sL a.2 < sL b.2)
theorem kLt_asym (a b : Str × Str) (h : kLt a b) : ¬ kLt b a := by
  rintro (q | ⟨q1, q2⟩)
  · rcases h with h | ⟨h1, _⟩
    · exact List.lt_asymm h q
    · rw [h1] at q; exact List.lt_irrefl _ q
  · rcases h with h | ⟨_, h2⟩
    · rw [q1] at h; exact List.lt_irrefl _ h
    · exact List.lt_asymm h2 q2
theorem kLt_trans {a b c : Str × Str} (h : kLt a b) (h' : kLt b c) : kLt a c := by
  rcases h with h | ⟨h1, h2⟩
  · rcases h' with q | ⟨q1, _⟩
    · exact .inl (List.lt_trans h q)
    · rw [q1] at h; exact .inl h
  · rcases h' with q | ⟨q1, q2⟩
    · rw [← h1] at q; exact .inl q
    · exact .inr ⟨h1.trans q1, List.lt_trans h2 q2⟩
theorem kLt_tri (a b : Str × Str) : kLt a b ∨ a = b ∨ kLt b a := by
  rcases sL_tri a.1 b.1 with h | h | h
  · exact .inl (.inl h)
  · rcases sL_tri a.2 b.2 with q | q | q
    · exact .inl (.inr ⟨h, q⟩)
    · exact .inr (.inl (Prod.ext h q))
    · exact .inr (.inr (.inr ⟨h.symm, q⟩))
  · exact .inr (.inr (.inl h))
/-- a merge sort by a strict order, of a list in which nothing stands twice -/
theorem msort_of {α : Type} {R : α → α → Prop} {le : α → α → Bool} (hle : ∀ a b, le a b = true ↔ ¬ R b a) (asym : ∀ a b, R a b → ¬ R b a) (tr : ∀ a b c, R a b → R b c → R a c) (tri : ∀ a b, R a b ∨ a = b ∨ R b a) {l : List α} (nd : l.Nodup) : (l.mergeSort le).Pairwise R := by
  have h1 : (l.mergeSort le).Pairwise fun a b => le a b = true := by
    refine List.pairwise_mergeSort (fun a b c h1 h2 => ?_) (fun a b => ?_) l
    · rw [hle] at h1 h2 ⊢
      intro q
      rcases tri b c with t | t | t
      · exact h1 (tr _ _ _ t q)
      · rw [← t] at q; exact h1 q
      · exact h2 t
    · rw [Bool.or_eq_true, hle, hle]
      by_cases q : R b a
      · exact .inr (asym _ _ q)
      · exact .inl q
  have h2 : (l.mergeSort le).Nodup := (List.mergeSort_perm ..).nodup_iff.mpr nd
  refine (List.Pairwise.and h1 h2).imp fun {a b} h => ?_
  rcases tri a b with t | t | t
  · exact t
  · exact absurd t h.2
  · exact absurd t ((hle a b).mp h.1)
theorem sortK {zs : List Str} (nd : zs.Nodup) (g : Str → Int) : (zs.mergeSort (PySem.W.dataLe false fun z => .tuple [.str z, .int (g z)])).Pairwise fun a b => sL a < sL b := by
  refine msort_of (R := fun a b : Str => sL a < sL b) (fun a b => ?_) (fun a b h q => List.lt_asymm h q) (fun a b c h q => List.lt_trans h q) sL_tri nd
  show (!PySem.W.dataLt _ _) = true ↔ _
  rw [dataLt_si, Bool.not_eq_true', decide_eq_false_iff_not]
  refine not_congr ⟨fun h => ?_, .inl⟩
  rcases h with h | ⟨h1, h2⟩
  · exact h
  · rw [h1] at h2; omega
def iLt (a b : (Str × Str) × Int) : Prop := kLt a.1 b.1 ∨ (a.1 = b.1 ∧ a.2 < b.2)
theorem sortT0 {ps : List ((Str × Str) × Int)} (nd : ps.Nodup) : (ps.mergeSort (PySem.W.dataLe false fun e => .tuple [.tuple [.str e.1.1, .str e.1.2], .int e.2])).Pairwise iLt := by
  refine msort_of (fun a b => ?_) (fun a b h q => ?_) (fun a b c h q => ?_) (fun a b => ?_) nd
  · show (!PySem.W.dataLt _ _) = true ↔ _
    rw [dataLt_ssi, Bool.not_eq_true', decide_eq_false_iff_not]
    exact Iff.rfl
  · rcases h with h | ⟨h1, h2⟩
    · rcases q with q | ⟨q1, _⟩
      · exact kLt_asym _ _ h q
      · rw [q1] at h; exact kLt_asym _ _ h h
    · rcases q with q | ⟨_, q2⟩
      · rw [h1] at q; exact kLt_asym _ _ q q
      · omega
  · rcases h with h | ⟨h1, h2⟩
    · rcases q with q | ⟨q1, _⟩
      · exact .inl (kLt_trans h q)
      · rw [q1] at h; exact .inl h
    · rcases q with q | ⟨q1, q2⟩
      · rw [← h1] at q; exact .inl q
      · exact .inr ⟨h1.trans q1, by omega⟩
  · rcases kLt_tri a.1 b.1 with h | h | h
    · exact .inl (.inl h)
    · rcases (show a.2 < b.2 ∨ a.2 = b.2 ∨ b.2 < a.2 by omega) with q | q | q
      · exact .inl (.inr ⟨h, q⟩)
      · exact .inr (.inl (Prod.ext h q))
      · exact .inr (.inr (.inr ⟨h.symm, q⟩))
    · exact .inr (.inr (.inl h))
theorem sortT {ps : List ((Str × Str) × Int)} (nd : (ps.map Prod.fst).Nodup) : (ps.mergeSort (PySem.W.dataLe false fun e => .tuple [.tuple [.str e.1.1, .str e.1.2], .int e.2])).Pairwise fun a b => kLt a.1 b.1 := by
  have nd0 : ps.Nodup := by
    rw [List.Nodup, List.pairwise_map] at nd
    exact nd.imp fun h e => h (by rw [e])
  have h1 := sortT0 nd0
  have h2 : (ps.mergeSort (PySem.W.dataLe false fun e => .tuple [.tuple [.str e.1.1, .str e.1.2], .int e.2])).Pairwise fun a b => a.1 ≠ b.1 := by
    have := (((List.mergeSort_perm ps (PySem.W.dataLe false fun e => .tuple [.tuple [.str e.1.1, .str e.1.2], .int e.2])).map Prod.fst).nodup_iff).mpr nd
    rw [List.Nodup, List.pairwise_map] at this
    exact this
  exact (List.Pairwise.and h1 h2).imp fun {a b} h => h.1.elim id fun q => absurd q.1 h.2
/-- the two ways to sort are one -/
theorem sorted_oneT {ps qs : List ((Str × Str) × Int)} (hp : ps.Perm qs) (nd : (qs.map Prod.fst).Nodup) (hs : ps.Pairwise fun a b => kLt a.1 b.1) : qs.mergeSort (PySem.W.dataLe false fun e => .tuple [.tuple [.str e.1.1, .str e.1.2], .int e.2]) = ps :=
  pairwise_one (R := fun a b : (Str × Str) × Int => kLt a.1 b.1) (fun a b => kLt_asym a.1 b.1) (sortT nd) hs fun z => by rw [List.mem_mergeSort, hp.mem_iff]
theorem sorted_oneK {ys zs : List Str} (hp : ys.Perm zs) (nd : zs.Nodup) (g : Str → Int) (hs : ys.Pairwise fun a b => sL a < sL b) : zs.mergeSort (PySem.W.dataLe false fun z => .tuple [.str z, .int (g z)]) = ys :=
  pairwise_one (R := fun a b : Str => sL a < sL b) (fun a b h q => List.lt_asymm h q) (sortK nd g) hs fun z => by rw [List.mem_mergeSort, hp.mem_iff]
end MN
/-! prices whose put and out prices may be one dict (made of parts Pr06a, Pr06b) -/
namespace MN
open PySem PySem.Spec PyProof.Rows L2
section
variable {P : Program} {w : World} {K : PySem.W.Frag} {mg : Str → Option Value} {base : Heap}
def spAreP2 : Sp := fun vs H Q _ => ∃ a b c zs zs2 g o ps, vs = [.ref a, .ref b, .ref c] ∧ H a = some (.dK (dkF zs g)) ∧ H b = some (.dK (dkF zs2 o)) ∧ H c = some (.dT (dtF ps)) ∧ PrN zs zs2 g o ps ∧ ∀ H', Same H H' → Q (.bl true) H'
abbrev N_are_prices2 : List Str := ["put", "out", "swap", "table", "sign", "price", "pair"]
theorem sc_are_prices2 : FnScope N_are_prices2 ["put", "out", "swap"] (defScope (top 24)) := ⟨rfl, rfl, rfl, by decide +kernel, rfl, by decide +kernel, by decide +kernel⟩
theorem c_are_prices2 (A : At K mg "are_prices" (top 24)) (B : Blt mg) (G1 : GlC mg "MAX_PRICE" (.int 9)) (G2 : GlC mg "MAX_SWAP" (.int 18)) (c_is_sign : Cal P w K mg base 1 "is_sign" (spIsSign K)) (c_is_price : Cal P w K mg base 2 "is_price" (spIsPrice K)) (c_is_pair : Cal P w K mg base 2 "is_pair" (spIsPair K)) : Cal P w K mg base 3 "are_prices" spAreP2 := by
  refine cal_of A sc_are_prices2 (fun _ _ _ _ _ _ us hl => match us, hl with | [_, _, _], _ => rfl) (fun vs H Q E h => ?_) (fun f cdv A outer s H vs Q E hr h => ?_)
  · obtain ⟨_, _, _, _, _, _, _, _, rfl, _⟩ := h; rfl
  · obtain ⟨a, b, c, zs, zs2, g, o, ps, rfl, ha, hb, hc, N, hQ⟩ := h
    refine ⟨_, (pss_cons (ps_if (PW.pt (pw_or (pt_not (pt_val (pe_callB (cr_all rfl) (by rfl) B.all (by decide +kernel) (pa_cons (pe_lc (own := [("table", 3)]) (g := gName 3) (tt := tYes) (by rfl) sc_are_prices2.nd (pi_tup (pe_tup (pa_cons (pv 0) (pa_cons (pv 1) (pa_cons (pv 2) pa_nil))))) (blkOk_by (own := [("table", 3)]) (N := N_are_prices2) (sc := defScope (top 24)) (by decide +kernel)) (fun _ _ _ _ _ => (pg_name (i := 3) sc_are_prices2.nd rfl (Or.inl rfl))) (fun _ _ _ _ _ => pts_nil) (fun _ _ _ _ _ => (pe_callB (isSK (K := K) rfl) (by rfl) B.isinstance (by decide +kernel) (pa_cons (pv 3) (pa_cons (pe_bltn (v := .ty "dict") (by rfl) B.dict (by decide +kernel) rfl) pa_nil))))) pa_nil)))) (pw_or1 (pt_cmpR op_eq (pe_callB call_lenD (by rfl) B.len (by decide +kernel) (pa_cons (pv 0) pa_nil)) pe_int (nomark _)))))
      (pss_one (ps_ret pe_bl))
      pss_nil)
      (pss_cons (ps_if (PW.pt (pw_or (pt_not (pt_val (pe_callB (cr_all rfl) (by rfl) B.all (by decide +kernel) (pa_cons (pe_lock (pe_lc (own := [("sign", 4)]) (g := gName 4) (tt := tYes) (by rfl) sc_are_prices2.nd (pi_keys (pv 0)) (blkOk_by (own := [("sign", 4)]) (N := N_are_prices2) (sc := defScope (top 24)) (by decide +kernel)) (fun _ _ _ _ _ => (pg_name (i := 4) sc_are_prices2.nd rfl (Or.inl rfl))) (fun _ _ _ _ _ => pts_nil) (fun _ _ _ _ _ => (pe_c c_is_sign hr (by decide) (by rfl) (pa_cons (pv 4) pa_nil))))) pa_nil)))) (pw_or (pt_cmpR op_ne (pe_callB call_lenD (by rfl) B.len (by decide +kernel) (pa_cons (pv 0) pa_nil)) (pe_callB call_lenD (by rfl) B.len (by decide +kernel) (pa_cons (pv 1) pa_nil)) (nomark _)) (pw_or1 (pt_not (pt_val (pe_callB (cr_all rfl) (by rfl) B.all (by decide +kernel) (pa_cons (pe_lock (pe_lc (own := [("sign", 4)]) (g := gName 4) (tt := tYes) (by rfl) sc_are_prices2.nd (pi_keys (pv 0)) (blkOk_by (own := [("sign", 4)]) (N := N_are_prices2) (sc := defScope (top 24)) (by decide +kernel)) (fun _ _ _ _ _ => (pg_name (i := 4) sc_are_prices2.nd rfl (Or.inl rfl))) (fun _ _ _ _ _ => pts_nil) (fun _ _ _ _ _ => (pe_cmp (pc_din (hu_of hr) (pv 4) (pv 1)))))) pa_nil))))))))
        (pss_one (ps_ret pe_bl))
        pss_nil)
      (pss_cons (ps_if (pt_not (pt_val (pe_callB (cr_all rfl) (by rfl) B.all (by decide +kernel) (pa_cons (pe_lc (own := [("price", 5)]) (g := gName 5) (tt := tYes) (by rfl) sc_are_prices2.nd (pi_list (pe_op op_cat (pe_listVals rfl (pv 0) (by rfl) B.list) (pe_listVals rfl (pv 1) (by rfl) B.list))) (blkOk_by (own := [("price", 5)]) (N := N_are_prices2) (sc := defScope (top 24)) (by decide +kernel)) (fun _ _ _ _ _ => (pg_name (i := 5) sc_are_prices2.nd rfl (Or.inl rfl))) (fun _ _ _ _ _ => pts_nil) (fun _ _ _ _ _ => (pe_c c_is_price hr (by decide) (by rfl) (pa_cons (pv 5) (pa_cons (pe_gl (by rfl) G1) pa_nil))))) pa_nil))))
        (pss_one (ps_ret pe_bl))
        pss_nil)
      (pss_one (ps_ret (pe_callB (cr_all rfl) (by rfl) B.all (by decide +kernel) (pa_cons (pe_lock (pe_lc (own := [("pair", 6), ("price", 5)]) (tt := tYes) (by rfl) sc_are_prices2.nd (pi_itemsT (pv 2)) (blkOk_by (own := [("pair", 6), ("price", 5)]) (N := N_are_prices2) (sc := defScope (top 24)) (by decide +kernel)) (fun _ _ _ _ _ => (pg_tupK (K := K) (n := 2) rfl rfl (pgs_cons (pg_name (i := 6) sc_are_prices2.nd rfl (Or.inl rfl)) (pgs_cons (pg_name (i := 5) sc_are_prices2.nd rfl (Or.inl rfl)) pgs_nil)))) (fun _ _ _ _ _ => pts_nil) (fun _ _ _ _ _ => pe_and (pe_c c_is_pair hr (by decide) (by rfl) (pa_cons (pv 6) (pa_cons (pv 0) pa_nil))) (pe_one (pe_c c_is_price hr (by decide) (by rfl) (pa_cons (pv 5) (pa_cons (pe_gl (by rfl) G2) pa_nil))))))) pa_nil))))))), ?_⟩
    have lz : (dkF zs g).length = zs.length := by simp [dkF]
    have lz2 : (dkF zs2 o).length = zs.length := by simp [dkF, N.pm.length_eq]
    -- all are dicts
    refine ⟨_, rfl, _, rfl, _, rfl, (show 3 ≤ sizeLine by decide), fun p hp => ⟨p, rfl, ⟨_, .inl (.inl upd_same)⟩, fun D hD => ?_⟩⟩
    have e1 : Same H (upd H p (.tup [.ref a, .ref b, .ref c])) := same_new hp
    refine lc_tplE (.inl (.inl upd_same)) hD (show 3 ≤ 1000000 by decide) (fun _ => true) (fun x => .bl true) (fun x _ => rfl) (fun x _ H2 e2 Q q => q _ (Same.refl _)) (fun x hx _ H2 e2 Q q => ?_) (fun H2 e2 h2 => ?_)
    · refine ⟨_, rfl, x, "dict", true, rfl, ?_, q _ (Same.refl _)⟩
      have ea := e2 _ _ (e1 _ _ ha)
      have eb := e2 _ _ (e1 _ _ hb)
      have ec := e2 _ _ (e1 _ _ hc)
      have hx' : x = .ref a ∨ x = .ref b ∨ x = .ref c := by simpa using hx
      rcases hx' with rfl | rfl | rfl
      · exact .ty (.base (.dK ea)) (by decide +kernel)
      · exact .ty (.base (.dK eb)) (by decide +kernel)
      · exact .ty (.base (.dT ec)) (by decide +kernel)
    refine ⟨D, [true, true, true], rfl, .inl (.inl h2), _, rfl, iteF ?_⟩
    have e2 := e1.trans e2
    refine ⟨_, rfl, a, _, rfl, e2 _ _ ha, rfl, _, rfl, ?_⟩
    rw [show decide (V.int ((dkF zs g).length : Nat) = V.int 0) = false from decide_eq_false fun z => by have := N.pos; injection z with z; omega]
    refine iteF ?_
    have ks : ∀ x ∈ (dkF zs g).map (fun kv => kV kv.1), ∃ z ∈ zs, x = .str z := fun x hx => by
      unfold dkF at hx
      rw [List.map_map] at hx
      obtain ⟨z, hz, rfl⟩ := List.mem_map.mp hx
      exact ⟨z, hz, rfl⟩
    have kl : (dkF zs g).length ≤ 1000000 := by have := N.le; omega
    have bs : ((((dkF zs g).map fun kv => kV kv.1).filter fun _ => true).map fun _ => V.bl true) = (List.replicate zs.length true).map V.bl := by
      unfold dkF
      rw [filter_all, List.map_map, List.map_map, List.map_replicate]
      exact List.map_const' ..
    have ball : ∀ n, (List.replicate n true).all id = true := fun n => by simp
    -- all keys are signs
    refine ⟨a, _, e2 _ _ ha, trivial, fun od => ⟨_, rfl, a, od, rfl, .inl ⟨_, upd_same, fun D2 hD2 => ?_⟩⟩⟩
    refine lc_keysL (e2 _ _ ha) hD2 kl (fun _ => true) (fun x => .bl true) (fun x _ => rfl) (fun x _ H3 _ _ Q q => q) (fun x hx _ H3 f3 _ Q q => ?_) (fun H3 f3 e3 h3 => ⟨f3, ?_⟩)
    · obtain ⟨z, hz, rfl⟩ := ks x hx
      refine ⟨_, rfl, _, rfl, .str (by rw [len_one (N.sg z hz)]; decide), ?_⟩
      rw [isSign_one (N.sg z hz)]
      exact q
    generalize upd H3 a (.dK (dkF zs g)) = H3' at *
    rw [bs] at h3
    refine ⟨D2, _, rfl, .inl (.inl h3), _, rfl, ?_⟩
    rw [ball]
    refine iteF ?_
    have e3 := e2.trans e3
    refine ⟨_, rfl, a, _, rfl, e3 _ _ ha, _, rfl, b, _, rfl, e3 _ _ hb, rfl, _, rfl, ?_⟩
    rw [lz, lz2, show (!decide (V.int (zs.length : Nat) = V.int (zs.length : Nat))) = false by simp]
    refine iteF ?_
    -- all keys in out
    refine ⟨a, _, e3 _ _ ha, trivial, fun od => ⟨_, rfl, a, od, rfl, .inl ⟨_, upd_same, fun D3 hD3 => ?_⟩⟩⟩
    refine lc_keysL (e3 _ _ ha) hD3 kl (fun _ => true) (fun x => .bl true) (fun x _ => rfl) (fun x _ H3 _ _ Q q => q) (fun x hx _ H3 f3 k3 Q q => ?_) (fun H4 f4 e4 h4 => ⟨f4, ?_⟩)
    · obtain ⟨z, hz, rfl⟩ := ks x hx
      have rb : Rd H3 b (.dK (dkF zs2 o)) := by
        by_cases zz : b = a
        · have h1 := e3 _ _ hb
          rw [zz, e3 _ _ ha] at h1
          have h2 := Option.some.inj h1
          rw [← h2, zz]
          exact .inr ⟨od, f3⟩
        · exact .inl (k3 b _ zz (e3 _ _ hb))
      refine ⟨_, rfl, _, rfl, b, some (.int (o z)), rfl, .inl ⟨_, .inr z, rb, rfl, ?_⟩, q⟩
      exact (dkF_val (N.pm.nodup_iff.mpr N.nd) o (N.pm.mem_iff.mpr hz)).symm
    generalize upd H4 a (.dK (dkF zs g)) = H4' at *
    rw [bs] at h4
    refine ⟨D3, _, rfl, .inl (.inl h4), _, rfl, ?_⟩
    rw [ball]
    refine iteF ?_
    have e4 := e3.trans e4
    -- prices
    refine ⟨_, rfl, a, _, rfl, e4 _ _ ha, fun p1 hp1 => ?_⟩
    have e5 := e4.trans (same_new (o := .lst ((dkF zs g).map (·.2))) hp1)
    refine ⟨_, rfl, b, _, rfl, e5 _ _ hb, fun p2 hp2 => ⟨p1, p2, (dkF zs g).map (·.2), (dkF zs2 o).map (·.2), rfl, rfl, ?_, upd_same, ?_, fun p3 hp3 => ?_⟩⟩
    · rw [upd_ne (ne_of_none upd_same hp2), upd_same]
    · have := N.le
      have : 1000 ≤ sizeLine := by decide
      simp only [List.length_map, lz, lz2]
      omega
    have e6 := e5.trans (same_new (o := .lst ((dkF zs2 o).map (·.2))) hp2)
    have e7 := e6.trans (same_new (o := .lst ((dkF zs g).map (·.2) ++ (dkF zs2 o).map (·.2))) hp3)
    refine ⟨p3, rfl, ⟨_, .inl (.inl upd_same)⟩, fun D4 hD4 => ?_⟩
    refine lc_lstE (.inl (.inl upd_same)) hD4 (by have := N.le; simp only [List.length_append, List.length_map, lz, lz2]; omega) (fun _ => true) (fun x => .bl true) (fun x _ => rfl) (fun x _ H2 e2 Q q => q _ (Same.refl _)) (fun x hx _ H2 e2 Q q => ?_) (fun H8 e8 h8 => ?_)
    · have hx' : ∃ n, x = .int n ∧ 1 ≤ n ∧ n ≤ 9 := by
        rcases List.mem_append.mp hx with hx | hx
        · unfold dkF at hx
          rw [List.map_map] at hx
          obtain ⟨z, hz, rfl⟩ := List.mem_map.mp hx
          exact ⟨_, rfl, N.pg z hz⟩
        · unfold dkF at hx
          rw [List.map_map] at hx
          obtain ⟨z, hz, rfl⟩ := List.mem_map.mp hx
          exact ⟨_, rfl, N.po z (N.pm.mem_iff.mp hz)⟩
      obtain ⟨n, rfl, n1, n2⟩ := hx'
      refine ⟨_, rfl, .int n, 9, rfl, .inl ⟨n, rfl, ?_⟩⟩
      rw [isInt_of (by omega) (by omega), decide_eq_true n1, decide_eq_true n2]
      exact q _ (Same.refl _)
    have b8 : (((((dkF zs g).map (·.2) ++ (dkF zs2 o).map (·.2)).filter fun _ => true).map fun _ => V.bl true)) = (List.replicate (zs.length + zs.length) true).map V.bl := by
      rw [filter_all]
      simp only [List.map_const', List.length_append, List.length_map, lz, lz2, List.map_replicate]
    rw [b8] at h8
    refine ⟨D4, _, rfl, .inl (.inl h8), _, rfl, ?_⟩
    rw [ball]
    refine iteF ?_
    have e8 := e7.trans e8
    -- swaps
    refine ⟨c, _, e8 _ _ hc, trivial, fun od => ⟨_, rfl, c, od, _, rfl, upd_same, fun D5 hD5 => ?_⟩⟩
    have nDc : D5 ≠ c := fun z => by rw [z, upd_same] at hD5; cases hD5
    have hD5' : H8 D5 = none := by rw [upd_ne nDc] at hD5; exact hD5
    have nca : c ≠ a := fun z => by rw [z, ha] at hc; cases hc
    refine lc_it walk_itemsT (fun i H' => Same H8 (upd H' c (.dT (dtF ps))) ∧ H' c = some (.frz od (.dT (dtF ps))) ∧ H' D5 = some (.lst ((List.replicate i true).map V.bl))) ⟨?_, by rw [upd_ne nDc.symm, upd_same], upd_same⟩ (fun i H' _ e => e.2.1) (fun i x H1 H2 hi e y => ?_) (fun H9 e => ?_)
    · exact (same_lock (e8 _ _ hc) hD5).1
    · obtain ⟨e9, f9, h9⟩ := e
      obtain ⟨T, k, v, q, hkv, rfl, hT, hq, rfl⟩ := y
      have nT : T ≠ c := fun z => by rw [z, f9] at hT; cases hT
      have nTD : T ≠ D5 := fun z => by rw [z, h9] at hT; cases hT
      unfold dtF at hkv
      rw [List.getElem?_map] at hkv
      obtain ⟨⟨⟨z1, z2⟩, n⟩, hx, ekv⟩ := Option.map_eq_some_iff.mp hkv
      cases ekv
      obtain ⟨i1, i2, ne, n1, n2⟩ := N.sp _ (List.mem_of_getElem? hx)
      refine ⟨T, [.ref q, .int n], rfl, .inl (.inl upd_same), rfl, _, _, rfl, _, _, rfl, rfl, rfl, yes_q (iteT ?_)⟩
      have hq2 : upd H1 T (.tup [.ref q, .int n]) q = some (.tup [.str z1, .str z2]) := by rw [upd_ne (ne_of_none hq hT)]; exact hq
      have ha2 : upd H1 T (.tup [.ref q, .int n]) a = some (.dK (dkF zs g)) := by
        have z := e9 _ _ (e8 _ _ ha)
        rw [upd_ne nca.symm] at z
        rw [upd_ne (ne_of_none z hT)]
        exact z
      refine ⟨_, rfl, _, rfl, q, a, z1, z2, _, rfl, .inl (.inl hq2), ha2, isSign_one (N.sg _ i1), isSign_one (N.sg _ i2), ⟨_, dkF_val N.nd g i1⟩, ⟨_, dkF_val N.nd g i2⟩, ne, fun H3 e3 => ⟨_, rfl, iteT ?_⟩⟩
      refine ⟨_, rfl, .int n, 18, rfl, .inl ⟨n, rfl, ?_⟩⟩
      rw [isInt_of (by omega) (by omega), decide_eq_true n1, decide_eq_true n2]
      have D3 : H3 D5 = some (.lst ((List.replicate i true).map V.bl)) := e3 _ _ (by rw [upd_ne nTD.symm]; exact h9)
      refine ⟨_, D3, ?_, ?_, ?_, ?_⟩
      · have : 1000 ≤ sizeLine := by decide
        have := N.sl
        have hi' : i < (dtF ps).length := hi
        simp [dtF] at hi' ⊢
        omega
      · intro y u hu
        have hu2 := e9 _ _ hu
        by_cases yc : y = c
        · subst yc; rw [upd_same] at hu2 ⊢; exact hu2
        · rw [upd_ne yc] at hu2 ⊢
          have yD : y ≠ D5 := fun z => by rw [z, hD5'] at hu; cases hu
          rw [upd_ne yD]
          exact e3 _ _ (by rw [upd_ne (ne_of_none hu2 hT)]; exact hu2)
      · rw [upd_ne nDc.symm]
        exact e3 _ _ (by rw [upd_ne nT.symm]; exact f9)
      · rw [upd_same, List.replicate_succ', List.map_append]
        rfl
    · obtain ⟨e9, f9, h9⟩ := e
      refine ⟨f9, D5, _, rfl, .inl (.inl (show upd H9 c (.dT (dtF ps)) D5 = some (.lst ((List.replicate (dtF ps).length true).map V.bl)) by rw [upd_ne nDc]; exact h9)), ?_⟩
      rw [ball]
      exact hQ _ (e8.trans e9)
def spPInit2 (C : Addr) : Sp := fun vs H Q _ => ∃ x dx a b c zs zs2 g o ps, vs = [.ref x, .ref a, .ref b, .ref c] ∧ H x = some (.ins C dx []) ∧ H dx = some (.own x) ∧ dx ≠ x ∧
  H a = some (.dK (dkF zs g)) ∧ H b = some (.dK (dkF zs2 o)) ∧ H c = some (.dT (dtF ps)) ∧ PrN zs zs2 g o ps ∧
  ∀ H' ys ys2 qs, Kp x dx H H' → PrAt C H' x dx ys ys2 g o qs → PrN ys ys2 g o qs → ys.Perm zs → sortedS ys = true → qs.Perm ps → Q .non H'
abbrev N_pinit2 : List Str := ["self", "put", "out", "swap", "sign", "pair"]
theorem sc_pinit2 : FnScope N_pinit2 ["self", "put", "out", "swap"] (defScope (inClass (top 26) 1)) := ⟨rfl, rfl, rfl, by decide +kernel, rfl, by decide +kernel, by decide +kernel⟩
theorem f_pinit2 {C f : Addr} {fd : FuncData} (PC : SlotC K C) (F : FunAt K "__init__" "Prices.__init__" (inClass (top 26) 1) [] f fd) (B : Blt mg) (c_are_prices : Cal P w K mg base 3 "are_prices" spAreP2) : FnOk P w K mg base CX0 4 f fd ["self", "put", "out", "swap"] (spPInit2 C) := by
  refine fnok_of F sc_pinit2 (fun vs H Q E h => ?_) (fun cdv A outer s H vs Q E hr h => ?_)
  · obtain ⟨_, _, _, _, _, _, _, _, _, _, rfl, _⟩ := h; rfl
  · obtain ⟨x, dx, a, b, c, zs, zs2, g, o, ps, rfl, hx, hdx, dxx, ha, hb, hc, N, hQ⟩ := h
    obtain ⟨p0, s0⟩ := PC.s0
    obtain ⟨p1, s1⟩ := PC.s1
    obtain ⟨p2, s2⟩ := PC.s2
    refine ⟨_, pss_cons (ps_if (pt_not (pt_val (pe_c c_are_prices hr (by decide) (by rfl) (pa_cons (pv 1) (pa_cons (pv 2) (pa_cons (pv 3) pa_nil)))))) (pss_one ps_never) pss_nil)
      (pss_cons (SlX.ps_sl (pv 0) (pe_dp1 (own := [("sign", 4)]) (o0 := .dK []) (g := gName 4) (tt := tYes) rfl (hu_of hr) sc_pinit2.nd (pi_list (pe_callB cr_sortedS (by rfl) B.sorted (by decide +kernel) (pa_cons (pe_callTy (call_list_dK rfl) (by rfl) B.list (by decide +kernel) (pa_cons (pv 1) pa_nil)) pa_nil)))
        (blkOk_by (own := [("sign", 4)]) (N := N_pinit2) (sc := defScope (inClass (top 26) 1)) (by decide +kernel)) (fun _ _ _ _ _ => (pg_name (i := 4) sc_pinit2.nd rfl (Or.inl rfl))) (fun _ _ _ _ _ => pts_nil) (fun _ _ _ _ _ => pv 4) (fun _ _ _ _ _ => pe_dget (hu_of hr) (pv 1) (pv 4) (fun _ _ => rfl)) (.inl rfl)))
      (pss_cons (SlX.ps_sl (pv 0) (pe_dp1 (own := [("sign", 4)]) (o0 := .dK []) (g := gName 4) (tt := tYes) rfl (hu_of hr) sc_pinit2.nd (pi_list (pe_callB cr_sortedS (by rfl) B.sorted (by decide +kernel) (pa_cons (pe_callTy (call_list_dK rfl) (by rfl) B.list (by decide +kernel) (pa_cons (pv 1) pa_nil)) pa_nil)))
        (blkOk_by (own := [("sign", 4)]) (N := N_pinit2) (sc := defScope (inClass (top 26) 1)) (by decide +kernel)) (fun _ _ _ _ _ => (pg_name (i := 4) sc_pinit2.nd rfl (Or.inl rfl))) (fun _ _ _ _ _ => pts_nil) (fun _ _ _ _ _ => pv 4) (fun _ _ _ _ _ => pe_dget (hu_of hr) (pv 2) (pv 4) (fun _ _ => rfl)) (.inl rfl)))
      (pss_one (SlX.ps_sl (pv 0) (pe_dp1 (own := [("pair", 5)]) (o0 := .dT []) (g := gName 5) (tt := tYes) rfl (hu_of hr) sc_pinit2.nd (pi_list (pe_callB (cr_sortedD hr.units) (by rfl) B.sorted (by decide +kernel) (pa_cons (pe_callTy (call_list_dT rfl) (by rfl) B.list (by decide +kernel) (pa_cons (pv 3) pa_nil)) pa_nil)))
        (blkOk_by (own := [("pair", 5)]) (N := N_pinit2) (sc := defScope (inClass (top 26) 1)) (by decide +kernel)) (fun _ _ _ _ _ => (pg_name (i := 5) sc_pinit2.nd rfl (Or.inl rfl))) (fun _ _ _ _ _ => pts_nil) (fun _ _ _ _ _ => pv 5) (fun _ _ _ _ _ => pe_dget (hu_of hr) (pv 3) (pv 5) (fun _ _ => rfl)) (.inr rfl)))))), ?_⟩
    refine ⟨_, rfl, _, rfl, _, rfl, a, b, c, zs, zs2, g, o, ps, rfl, ha, hb, hc, N, fun H1 e1 => ⟨_, rfl, iteF ?_⟩⟩
    have keyz : ∀ f : Str → Int, (dkF zs f).map (fun kv => kV kv.1) = zs.map V.str := fun f => by unfold dkF; rw [List.map_map]; rfl
    have l64 : zs.length < 64 := by have := N.le; omega
    have apart : ∀ {t : Addr} {kvs : List (Key × V)}, H t = some (.dK kvs) → t ≠ x ∧ t ≠ dx := fun h => ⟨fun z => (by rw [z, hx] at h; cases h), fun z => (by rw [z, hdx] at h; cases h)⟩
    have cx : c ≠ x := fun z => by rw [z, hx] at hc; cases hc
    have cd : c ≠ dx := fun z => by rw [z, hdx] at hc; cases hc
    obtain ⟨ax, ad⟩ := apart ha
    obtain ⟨bx, bd⟩ := apart hb
    have k1 : Kp x dx H H1 := fun b o _ _ q => e1 _ _ q
    -- own_put
    refine ⟨_, rfl, a, _, rfl, k1 _ _ ax ad ha, fun q hq => ⟨q, zs, rfl, .inl (.inl (by rw [keyz]; exact upd_same)), l64, fun ys p hys hso hp => ?_⟩⟩
    refine ⟨p, rfl, ⟨_, .inl (.inl upd_same)⟩, fun D hD => ?_⟩
    have e2 : Same H1 (upd (upd H1 q (.lst ((dkF zs g).map fun kv => kV kv.1))) p (.lst (ys.map V.str))) := (same_new hq).trans (same_new hp)
    refine dp_signs (.inl (.inl upd_same)) (hys.nodup_iff.mpr N.nd) (by have := hys.length_eq; omega) hD g (fun _ _ => rfl) (fun y _ H2 _ Q q => ⟨_, rfl, q⟩) (fun y hy H2 e Q q => ⟨_, rfl, _, rfl, a, .int (g y), rfl, .inl ⟨_, .inr y, .inl (e _ _ (e2 _ _ (k1 _ _ ax ad ha))), rfl, (dkF_val N.nd g (hys.mem_iff.mp hy)).symm⟩, q _ (Same.refl _)⟩) (fun H2 e3 hD2 => ?_)
    have e4 := e2.trans e3
    refine ⟨_, rfl, x, C, dx, p1, [], 1, rfl, .inl ⟨e4 _ _ (e1 _ _ hx), rfl⟩, PC.sc, s1, ?_⟩
    have fD : H1 D = none := e2.free hD
    have Dx : D ≠ x := (ne_of_none (e1 _ _ hx) fD).symm
    have Dd : D ≠ dx := (ne_of_none (e1 _ _ hdx) fD).symm
    have k3 : Kp x dx H (SlX.slH H2 x C dx (SlX.putS 1 (.ref D) [])) := (k1.same e4).sl
    have z3 : Sl2 (SlX.slH H2 x C dx (SlX.putS 1 (.ref D) [])) x C dx (SlX.putS 1 (.ref D) []) := slH_sl2 dxx
    have w3 : (SlX.putS 1 (.ref D) [])[1]? = some (some (.ref D)) := SlX.putS_get _ _ _
    have hD3 : SlX.slH H2 x C dx (SlX.putS 1 (.ref D) []) D = some (.dK (dkF ys g)) := by rw [SlX.slH_ne Dx Dd]; exact hD2
    generalize SlX.putS 1 (.ref D) [] = v3 at *
    generalize SlX.slH H2 x C dx v3 = H3 at *
    clear hD hD2 fD hp hq e2 e3 e4 k1 e1
    -- own_out
    refine ⟨_, rfl, a, _, rfl, k3 _ _ ax ad ha, fun q hq => ⟨q, zs, rfl, .inl (.inl (by rw [keyz]; exact upd_same)), l64, fun ys2 p hys2 _ hp => ?_⟩⟩
    refine ⟨p, rfl, ⟨_, .inl (.inl upd_same)⟩, fun D5 hD5 => ?_⟩
    have e2 : Same H3 (upd (upd H3 q (.lst ((dkF zs g).map fun kv => kV kv.1))) p (.lst (ys2.map V.str))) := (same_new hq).trans (same_new hp)
    refine dp_signs (.inl (.inl upd_same)) (hys2.nodup_iff.mpr N.nd) (by have := hys2.length_eq; omega) hD5 o (fun _ _ => rfl) (fun y _ H2 _ Q q => ⟨_, rfl, q⟩) (fun y hy H2 e Q q => ⟨_, rfl, _, rfl, b, .int (o y), rfl, .inl ⟨_, .inr y, .inl (e _ _ (e2 _ _ (k3 _ _ bx bd hb))), rfl, (dkF_val (N.pm.nodup_iff.mpr N.nd) o (N.pm.mem_iff.mpr (hys2.mem_iff.mp hy))).symm⟩, q _ (Same.refl _)⟩) (fun H4 e3 hD6 => ?_)
    have e4 := e2.trans e3
    refine ⟨_, rfl, x, C, dx, p0, v3, 0, rfl, slt_same e4 (.inr z3), PC.sc, s0, ?_⟩
    have fD : H3 D5 = none := e2.free hD5
    have D5x : D5 ≠ x := (ne_of_none z3.1 fD).symm
    have D5d : D5 ≠ dx := (ne_of_none z3.2 fD).symm
    have n5 : D ≠ D5 := ne_of_none hD3 fD
    have k5 : Kp x dx H (SlX.slH H4 x C dx (SlX.putS 0 (.ref D5) v3)) := (k3.same e4).sl
    have z5 : Sl2 (SlX.slH H4 x C dx (SlX.putS 0 (.ref D5) v3)) x C dx (SlX.putS 0 (.ref D5) v3) := slH_sl2 dxx
    have w5 : (SlX.putS 0 (.ref D5) v3)[0]? = some (some (.ref D5)) := SlX.putS_get _ _ _
    have w5' : (SlX.putS 0 (.ref D5) v3)[1]? = some (some (.ref D)) := (SlX.putS_ne (by decide)).mpr w3
    have hD7 : SlX.slH H4 x C dx (SlX.putS 0 (.ref D5) v3) D5 = some (.dK (dkF ys2 o)) := by rw [SlX.slH_ne D5x D5d]; exact hD6
    have hD8 : SlX.slH H4 x C dx (SlX.putS 0 (.ref D5) v3) D = some (.dK (dkF ys g)) := by rw [SlX.slH_ne Dx Dd]; exact e4 _ _ hD3
    generalize SlX.putS 0 (.ref D5) v3 = v5 at *
    generalize SlX.slH H4 x C dx v5 = H5 at *
    clear hD5 hD6 fD hp hq e2 e3 e4 k3 z3 w3 hD3
    -- own_swap
    refine ⟨_, rfl, c, _, rfl, .inl (k5 _ _ cx cd hc), fun q bs hq hbs => ?_⟩
    obtain ⟨F0, f1, f2, f3⟩ := keys_zip hbs
    have up1 := same_new (o := .lst (bs.map V.ref)) hq
    refine ⟨q, F0.map fun e => (V.ref e.2, PyData.tuple [.str e.1.1.1, .str e.1.1.2]), rfl, .inl (.inl ?_), fun y hy => ?_, fun d1 h1 d2 h2 => ?_, .inl fun d hd => ?_, fun y hy => ?_, fun p hp => ?_⟩
    · rw [upd_same, List.map_map, ← f2, List.map_map]; rfl
    · obtain ⟨e, he, rfl⟩ := List.mem_map.mp hy
      exact dpT (zs := [e.1.1.1, e.1.1.2]) (.inl (.inl (up1 _ _ (f3 e he))))
    · rw [List.map_map] at h1 h2
      obtain ⟨e1, _, rfl⟩ := List.mem_map.mp h1
      obtain ⟨e2, _, rfl⟩ := List.mem_map.mp h2
      rfl
    · rw [List.map_map] at hd
      obtain ⟨e1, _, rfl⟩ := List.mem_map.mp hd
      exact ⟨_, _, rfl⟩
    · obtain ⟨e, he, rfl⟩ := List.mem_map.mp hy
      show PyData.depth _ ≤ 8
      simp [PyData.depth, PyData.depthAll]
    obtain ⟨F', pF, eF⟩ := perm_map_ex (List.mergeSort_perm (F0.map fun e => (V.ref e.2, PyData.tuple [.str e.1.1.1, .str e.1.1.2])) (PySem.W.dataLe false Prod.snd))
    rw [eF, List.map_map] at *
    have pq : (F'.map Prod.fst).Perm ps := by rw [← f1]; exact pF.map _
    have up2 := up1.trans (same_new (o := .lst (F'.map (Prod.fst ∘ fun e : ((Str × Str) × Int) × Addr => (V.ref e.2, PyData.tuple [.str e.1.1.1, .str e.1.1.2])))) hp)
    refine ⟨p, rfl, ⟨_, .inl (.inl upd_same)⟩, fun D9 hD9 => ?_⟩
    refine dp_pairs (F := F') (.inl (.inl upd_same)) ((pq.map _).nodup_iff.mpr N.sn) ?_ (fun e he => up2 _ _ (f3 e (pF.mem_iff.mp he))) hD9 (fun _ _ => rfl) (fun y _ H2 _ Q q => ⟨_, rfl, q⟩) (fun y hy H2 e Q q => ⟨_, rfl, _, rfl, c, .int y.1.2, rfl, .inr ⟨_, [.inr y.1.1.1, .inr y.1.1.2], y.2, .inl (e _ _ (up2 _ _ (k5 _ _ cx cd hc))), rfl, e _ _ (up2 _ _ (f3 y (pF.mem_iff.mp hy))), (dtF_val N.sn (pq.mem_iff.mp (List.mem_map.mpr ⟨y, hy, rfl⟩))).symm⟩, q _ (Same.refl _)⟩) (fun H6 e6 hD6 => ?_)
    · have := N.sl
      have := pq.length_eq
      rw [List.length_map] at this
      omega
    have e7 := up2.trans e6
    have z7 := z5
    refine ⟨_, rfl, x, C, dx, p2, v5, 2, rfl, slt_same e7 (.inr z5), PC.sc, s2, ?_⟩
    have fD : H5 D9 = none := up2.free hD9
    have D9x : D9 ≠ x := (ne_of_none z5.1 fD).symm
    have D9d : D9 ≠ dx := (ne_of_none z5.2 fD).symm
    refine hQ _ ys ys2 (F'.map Prod.fst) (k5.same e7).sl ⟨D, D5, D9, _, slH_sl2 dxx, (SlX.putS_ne (by decide)).mpr w5', (SlX.putS_ne (by decide)).mpr w5, SlX.putS_get _ _ _, n5, ?_, ?_, ?_⟩ (N.perm hys hys2 pq) hys hso pq
    · rw [SlX.slH_ne Dx Dd]; exact e7 _ _ hD8
    · rw [SlX.slH_ne D5x D5d]; exact e7 _ _ hD7
    · rw [SlX.slH_ne D9x D9d]; exact hD6
end
end MN
/-! are_prices of prices that may be too great (made of part Are25) -/
namespace MN
open PySem PySem.Spec PyProof.Rows L2
/-- prices, with no greatest one -/
structure PrM (zs zs2 : List Str) (g o : Str → Int) (ps : List ((Str × Str) × Int)) : Prop where
  sg : ∀ z ∈ zs, ∃ c ∈ ("abcde" : Str).cps.toList, z = ⟨#[c]⟩
  nd : zs.Nodup
  pos : 0 < zs.length
  le : zs.length ≤ 5
  pm : zs2.Perm zs
  pg : ∀ z ∈ zs, 1 ≤ g z
  po : ∀ z ∈ zs, 1 ≤ o z
  sn : (ps.map Prod.fst).Nodup
  sp : ∀ x ∈ ps, x.1.1 ∈ zs ∧ x.1.2 ∈ zs ∧ x.1.1 ≠ x.1.2 ∧ 1 ≤ x.2
  sl : ps.length ≤ 100
/-- none is too great -/
def fitsP (zs zs2 : List Str) (g o : Str → Int) (ps : List ((Str × Str) × Int)) : Bool := (zs.map g ++ zs2.map o).all (fun n => decide (n ≤ 9)) && ps.all (fun x => decide (x.2 ≤ 18))
def fit9 : V → V
  | .int n => .bl (decide (n ≤ 9))
  | _ => .bl true
theorem fit_one {n m : Int} (h : 1 ≤ n) (hm : m ≤ 18) : (isInt n && (decide (1 ≤ n) && decide (n ≤ m))) = decide (n ≤ m) := by
  rw [decide_eq_true h, Bool.true_and]
  by_cases q : n ≤ m
  · rw [isInt_of (by omega) (by omega), decide_eq_true q]; rfl
  · rw [decide_eq_false q, Bool.and_false]
section
variable {P : Program} {w : World} {K : PySem.W.Frag} {mg : Str → Option Value} {base : Heap}
def spAreP3 : Sp := fun vs H Q _ => ∃ a b c zs zs2 g o ps, vs = [.ref a, .ref b, .ref c] ∧ H a = some (.dK (dkF zs g)) ∧ H b = some (.dK (dkF zs2 o)) ∧ H c = some (.dT (dtF ps)) ∧ PrM zs zs2 g o ps ∧ ∀ H', Same H H' → Q (.bl (fitsP zs zs2 g o ps)) H'
abbrev N_are_prices3 : List Str := ["put", "out", "swap", "table", "sign", "price", "pair"]
theorem sc_are_prices3 : FnScope N_are_prices3 ["put", "out", "swap"] (defScope (top 24)) := ⟨rfl, rfl, rfl, by decide +kernel, rfl, by decide +kernel, by decide +kernel⟩
theorem c_are_prices3 (A : At K mg "are_prices" (top 24)) (B : Blt mg) (G1 : GlC mg "MAX_PRICE" (.int 9)) (G2 : GlC mg "MAX_SWAP" (.int 18)) (c_is_sign : Cal P w K mg base 1 "is_sign" (spIsSign K)) (c_is_price : Cal P w K mg base 2 "is_price" (spIsPrice K)) (c_is_pair : Cal P w K mg base 2 "is_pair" (spIsPair K)) : Cal P w K mg base 3 "are_prices" spAreP3 := by
  refine cal_of A sc_are_prices3 (fun _ _ _ _ _ _ us hl => match us, hl with | [_, _, _], _ => rfl) (fun vs H Q E h => ?_) (fun f cdv A outer s H vs Q E hr h => ?_)
  · obtain ⟨_, _, _, _, _, _, _, _, rfl, _⟩ := h; rfl
  · obtain ⟨a, b, c, zs, zs2, g, o, ps, rfl, ha, hb, hc, N, hQ⟩ := h
    refine ⟨_, (pss_cons (ps_if (PW.pt (pw_or (pt_not (pt_val (pe_callB (cr_all rfl) (by rfl) B.all (by decide +kernel) (pa_cons (pe_lc (own := [("table", 3)]) (g := gName 3) (tt := tYes) (by rfl) sc_are_prices3.nd (pi_tup (pe_tup (pa_cons (pv 0) (pa_cons (pv 1) (pa_cons (pv 2) pa_nil))))) (blkOk_by (own := [("table", 3)]) (N := N_are_prices3) (sc := defScope (top 24)) (by decide +kernel)) (fun _ _ _ _ _ => (pg_name (i := 3) sc_are_prices3.nd rfl (Or.inl rfl))) (fun _ _ _ _ _ => pts_nil) (fun _ _ _ _ _ => (pe_callB (isSK (K := K) rfl) (by rfl) B.isinstance (by decide +kernel) (pa_cons (pv 3) (pa_cons (pe_bltn (v := .ty "dict") (by rfl) B.dict (by decide +kernel) rfl) pa_nil))))) pa_nil)))) (pw_or1 (pt_cmpR op_eq (pe_callB call_lenD (by rfl) B.len (by decide +kernel) (pa_cons (pv 0) pa_nil)) pe_int (nomark _)))))
      (pss_one (ps_ret pe_bl))
      pss_nil)
      (pss_cons (ps_if (PW.pt (pw_or (pt_not (pt_val (pe_callB (cr_all rfl) (by rfl) B.all (by decide +kernel) (pa_cons (pe_lock (pe_lc (own := [("sign", 4)]) (g := gName 4) (tt := tYes) (by rfl) sc_are_prices3.nd (pi_keys (pv 0)) (blkOk_by (own := [("sign", 4)]) (N := N_are_prices3) (sc := defScope (top 24)) (by decide +kernel)) (fun _ _ _ _ _ => (pg_name (i := 4) sc_are_prices3.nd rfl (Or.inl rfl))) (fun _ _ _ _ _ => pts_nil) (fun _ _ _ _ _ => (pe_c c_is_sign hr (by decide) (by rfl) (pa_cons (pv 4) pa_nil))))) pa_nil)))) (pw_or (pt_cmpR op_ne (pe_callB call_lenD (by rfl) B.len (by decide +kernel) (pa_cons (pv 0) pa_nil)) (pe_callB call_lenD (by rfl) B.len (by decide +kernel) (pa_cons (pv 1) pa_nil)) (nomark _)) (pw_or1 (pt_not (pt_val (pe_callB (cr_all rfl) (by rfl) B.all (by decide +kernel) (pa_cons (pe_lock (pe_lc (own := [("sign", 4)]) (g := gName 4) (tt := tYes) (by rfl) sc_are_prices3.nd (pi_keys (pv 0)) (blkOk_by (own := [("sign", 4)]) (N := N_are_prices3) (sc := defScope (top 24)) (by decide +kernel)) (fun _ _ _ _ _ => (pg_name (i := 4) sc_are_prices3.nd rfl (Or.inl rfl))) (fun _ _ _ _ _ => pts_nil) (fun _ _ _ _ _ => (pe_cmp (pc_din (hu_of hr) (pv 4) (pv 1)))))) pa_nil))))))))
        (pss_one (ps_ret pe_bl))
        pss_nil)
      (pss_cons (ps_if (pt_not (pt_val (pe_callB (cr_all rfl) (by rfl) B.all (by decide +kernel) (pa_cons (pe_lc (own := [("price", 5)]) (g := gName 5) (tt := tYes) (by rfl) sc_are_prices3.nd (pi_list (pe_op op_cat (pe_listVals rfl (pv 0) (by rfl) B.list) (pe_listVals rfl (pv 1) (by rfl) B.list))) (blkOk_by (own := [("price", 5)]) (N := N_are_prices3) (sc := defScope (top 24)) (by decide +kernel)) (fun _ _ _ _ _ => (pg_name (i := 5) sc_are_prices3.nd rfl (Or.inl rfl))) (fun _ _ _ _ _ => pts_nil) (fun _ _ _ _ _ => (pe_c c_is_price hr (by decide) (by rfl) (pa_cons (pv 5) (pa_cons (pe_gl (by rfl) G1) pa_nil))))) pa_nil))))
        (pss_one (ps_ret pe_bl))
        pss_nil)
      (pss_one (ps_ret (pe_callB (cr_all rfl) (by rfl) B.all (by decide +kernel) (pa_cons (pe_lock (pe_lc (own := [("pair", 6), ("price", 5)]) (tt := tYes) (by rfl) sc_are_prices3.nd (pi_itemsT (pv 2)) (blkOk_by (own := [("pair", 6), ("price", 5)]) (N := N_are_prices3) (sc := defScope (top 24)) (by decide +kernel)) (fun _ _ _ _ _ => (pg_tupK (K := K) (n := 2) rfl rfl (pgs_cons (pg_name (i := 6) sc_are_prices3.nd rfl (Or.inl rfl)) (pgs_cons (pg_name (i := 5) sc_are_prices3.nd rfl (Or.inl rfl)) pgs_nil)))) (fun _ _ _ _ _ => pts_nil) (fun _ _ _ _ _ => pe_and (pe_c c_is_pair hr (by decide) (by rfl) (pa_cons (pv 6) (pa_cons (pv 0) pa_nil))) (pe_one (pe_c c_is_price hr (by decide) (by rfl) (pa_cons (pv 5) (pa_cons (pe_gl (by rfl) G2) pa_nil))))))) pa_nil))))))), ?_⟩
    have lz : (dkF zs g).length = zs.length := by simp [dkF]
    have lz2 : (dkF zs2 o).length = zs.length := by simp [dkF, N.pm.length_eq]
    -- all are dicts
    refine ⟨_, rfl, _, rfl, _, rfl, (show 3 ≤ sizeLine by decide), fun p hp => ⟨p, rfl, ⟨_, .inl (.inl upd_same)⟩, fun D hD => ?_⟩⟩
    have e1 : Same H (upd H p (.tup [.ref a, .ref b, .ref c])) := same_new hp
    refine lc_tplE (.inl (.inl upd_same)) hD (show 3 ≤ 1000000 by decide) (fun _ => true) (fun x => .bl true) (fun x _ => rfl) (fun x _ H2 e2 Q q => q _ (Same.refl _)) (fun x hx _ H2 e2 Q q => ?_) (fun H2 e2 h2 => ?_)
    · refine ⟨_, rfl, x, "dict", true, rfl, ?_, q _ (Same.refl _)⟩
      have ea := e2 _ _ (e1 _ _ ha)
      have eb := e2 _ _ (e1 _ _ hb)
      have ec := e2 _ _ (e1 _ _ hc)
      have hx' : x = .ref a ∨ x = .ref b ∨ x = .ref c := by simpa using hx
      rcases hx' with rfl | rfl | rfl
      · exact .ty (.base (.dK ea)) (by decide +kernel)
      · exact .ty (.base (.dK eb)) (by decide +kernel)
      · exact .ty (.base (.dT ec)) (by decide +kernel)
    refine ⟨D, [true, true, true], rfl, .inl (.inl h2), _, rfl, iteF ?_⟩
    have e2 := e1.trans e2
    refine ⟨_, rfl, a, _, rfl, e2 _ _ ha, rfl, _, rfl, ?_⟩
    rw [show decide (V.int ((dkF zs g).length : Nat) = V.int 0) = false from decide_eq_false fun z => by have := N.pos; injection z with z; omega]
    refine iteF ?_
    have ks : ∀ x ∈ (dkF zs g).map (fun kv => kV kv.1), ∃ z ∈ zs, x = .str z := fun x hx => by
      unfold dkF at hx
      rw [List.map_map] at hx
      obtain ⟨z, hz, rfl⟩ := List.mem_map.mp hx
      exact ⟨z, hz, rfl⟩
    have kl : (dkF zs g).length ≤ 1000000 := by have := N.le; omega
    have bs : ((((dkF zs g).map fun kv => kV kv.1).filter fun _ => true).map fun _ => V.bl true) = (List.replicate zs.length true).map V.bl := by
      unfold dkF
      rw [filter_all, List.map_map, List.map_map, List.map_replicate]
      exact List.map_const' ..
    have ball : ∀ n, (List.replicate n true).all id = true := fun n => by simp
    -- all keys are signs
    refine ⟨a, _, e2 _ _ ha, trivial, fun od => ⟨_, rfl, a, od, rfl, .inl ⟨_, upd_same, fun D2 hD2 => ?_⟩⟩⟩
    refine lc_keysL (e2 _ _ ha) hD2 kl (fun _ => true) (fun x => .bl true) (fun x _ => rfl) (fun x _ H3 _ _ Q q => q) (fun x hx _ H3 f3 _ Q q => ?_) (fun H3 f3 e3 h3 => ⟨f3, ?_⟩)
    · obtain ⟨z, hz, rfl⟩ := ks x hx
      refine ⟨_, rfl, _, rfl, .str (by rw [len_one (N.sg z hz)]; decide), ?_⟩
      rw [isSign_one (N.sg z hz)]
      exact q
    generalize upd H3 a (.dK (dkF zs g)) = H3' at *
    rw [bs] at h3
    refine ⟨D2, _, rfl, .inl (.inl h3), _, rfl, ?_⟩
    rw [ball]
    refine iteF ?_
    have e3 := e2.trans e3
    refine ⟨_, rfl, a, _, rfl, e3 _ _ ha, _, rfl, b, _, rfl, e3 _ _ hb, rfl, _, rfl, ?_⟩
    rw [lz, lz2, show (!decide (V.int (zs.length : Nat) = V.int (zs.length : Nat))) = false by simp]
    refine iteF ?_
    -- all keys in out
    refine ⟨a, _, e3 _ _ ha, trivial, fun od => ⟨_, rfl, a, od, rfl, .inl ⟨_, upd_same, fun D3 hD3 => ?_⟩⟩⟩
    refine lc_keysL (e3 _ _ ha) hD3 kl (fun _ => true) (fun x => .bl true) (fun x _ => rfl) (fun x _ H3 _ _ Q q => q) (fun x hx _ H3 f3 k3 Q q => ?_) (fun H4 f4 e4 h4 => ⟨f4, ?_⟩)
    · obtain ⟨z, hz, rfl⟩ := ks x hx
      have rb : Rd H3 b (.dK (dkF zs2 o)) := by
        by_cases zz : b = a
        · have h1 := e3 _ _ hb
          rw [zz, e3 _ _ ha] at h1
          have h2 := Option.some.inj h1
          rw [← h2, zz]
          exact .inr ⟨od, f3⟩
        · exact .inl (k3 b _ zz (e3 _ _ hb))
      refine ⟨_, rfl, _, rfl, b, some (.int (o z)), rfl, .inl ⟨_, .inr z, rb, rfl, ?_⟩, q⟩
      exact (dkF_val (N.pm.nodup_iff.mpr N.nd) o (N.pm.mem_iff.mpr hz)).symm
    generalize upd H4 a (.dK (dkF zs g)) = H4' at *
    rw [bs] at h4
    refine ⟨D3, _, rfl, .inl (.inl h4), _, rfl, ?_⟩
    rw [ball]
    refine iteF ?_
    have e4 := e3.trans e4
    -- prices
    refine ⟨_, rfl, a, _, rfl, e4 _ _ ha, fun p1 hp1 => ?_⟩
    have e5 := e4.trans (same_new (o := .lst ((dkF zs g).map (·.2))) hp1)
    refine ⟨_, rfl, b, _, rfl, e5 _ _ hb, fun p2 hp2 => ⟨p1, p2, (dkF zs g).map (·.2), (dkF zs2 o).map (·.2), rfl, rfl, ?_, upd_same, ?_, fun p3 hp3 => ?_⟩⟩
    · rw [upd_ne (ne_of_none upd_same hp2), upd_same]
    · have := N.le
      have : 1000 ≤ sizeLine := by decide
      simp only [List.length_map, lz, lz2]
      omega
    have e6 := e5.trans (same_new (o := .lst ((dkF zs2 o).map (·.2))) hp2)
    have e7 := e6.trans (same_new (o := .lst ((dkF zs g).map (·.2) ++ (dkF zs2 o).map (·.2))) hp3)
    refine ⟨p3, rfl, ⟨_, .inl (.inl upd_same)⟩, fun D4 hD4 => ?_⟩
    refine lc_lstE (.inl (.inl upd_same)) hD4 (by have := N.le; simp only [List.length_append, List.length_map, lz, lz2]; omega) (fun _ => true) fit9 (fun x _ => rfl) (fun x _ H2 e2 Q q => q _ (Same.refl _)) (fun x hx _ H2 e2 Q q => ?_) (fun H8 e8 h8 => ?_)
    · have hx' : ∃ n, x = .int n ∧ 1 ≤ n := by
        rcases List.mem_append.mp hx with hx | hx
        · unfold dkF at hx
          rw [List.map_map] at hx
          obtain ⟨z, hz, rfl⟩ := List.mem_map.mp hx
          exact ⟨_, rfl, N.pg z hz⟩
        · unfold dkF at hx
          rw [List.map_map] at hx
          obtain ⟨z, hz, rfl⟩ := List.mem_map.mp hx
          exact ⟨_, rfl, N.po z (N.pm.mem_iff.mp hz)⟩
      obtain ⟨n, rfl, n1⟩ := hx'
      refine ⟨_, rfl, .int n, 9, rfl, .inl ⟨n, rfl, ?_⟩⟩
      rw [fit_one n1 (by decide)]
      exact q _ (Same.refl _)
    have b8 : (((((dkF zs g).map (·.2) ++ (dkF zs2 o).map (·.2)).filter fun _ => true).map fit9)) = ((zs.map g ++ zs2.map o).map fun n => decide (n ≤ 9)).map V.bl := by
      rw [filter_all]
      unfold dkF
      simp only [List.map_append, List.map_map]
      rfl
    rw [b8] at h8
    refine ⟨D4, _, rfl, .inl (.inl h8), _, rfl, ?_⟩
    have e8 := e7.trans e8
    unfold fitsP at hQ
    rw [List.all_map] at *
    cases f8 : (zs.map g ++ zs2.map o).all (id ∘ fun n => decide (n ≤ 9)) with
    | false =>
      refine iteT ?_
      rw [show (zs.map g ++ zs2.map o).all (fun n => decide (n ≤ 9)) = false from f8, Bool.false_and] at hQ
      exact hQ _ e8
    | true =>
    rw [show (zs.map g ++ zs2.map o).all (fun n => decide (n ≤ 9)) = true from f8, Bool.true_and] at hQ
    refine iteF ?_
    -- swaps
    refine ⟨c, _, e8 _ _ hc, trivial, fun od => ⟨_, rfl, c, od, _, rfl, upd_same, fun D5 hD5 => ?_⟩⟩
    have nDc : D5 ≠ c := fun z => by rw [z, upd_same] at hD5; cases hD5
    have hD5' : H8 D5 = none := by rw [upd_ne nDc] at hD5; exact hD5
    have nca : c ≠ a := fun z => by rw [z, ha] at hc; cases hc
    refine lc_it walk_itemsT (fun i H' => Same H8 (upd H' c (.dT (dtF ps))) ∧ H' c = some (.frz od (.dT (dtF ps))) ∧ H' D5 = some (.lst (((ps.take i).map fun x => decide (x.2 ≤ 18)).map V.bl))) ⟨?_, by rw [upd_ne nDc.symm, upd_same], by rw [List.take_zero]; exact upd_same⟩ (fun i H' _ e => e.2.1) (fun i x H1 H2 hi e y => ?_) (fun H9 e => ?_)
    · exact (same_lock (e8 _ _ hc) hD5).1
    · obtain ⟨e9, f9, h9⟩ := e
      obtain ⟨T, k, v, q, hkv, rfl, hT, hq, rfl⟩ := y
      have nT : T ≠ c := fun z => by rw [z, f9] at hT; cases hT
      have nTD : T ≠ D5 := fun z => by rw [z, h9] at hT; cases hT
      unfold dtF at hkv
      rw [List.getElem?_map] at hkv
      obtain ⟨⟨⟨z1, z2⟩, n⟩, hx, ekv⟩ := Option.map_eq_some_iff.mp hkv
      cases ekv
      obtain ⟨i1, i2, ne, n1⟩ := N.sp _ (List.mem_of_getElem? hx)
      refine ⟨T, [.ref q, .int n], rfl, .inl (.inl upd_same), rfl, _, _, rfl, _, _, rfl, rfl, rfl, yes_q (iteT ?_)⟩
      have hq2 : upd H1 T (.tup [.ref q, .int n]) q = some (.tup [.str z1, .str z2]) := by rw [upd_ne (ne_of_none hq hT)]; exact hq
      have ha2 : upd H1 T (.tup [.ref q, .int n]) a = some (.dK (dkF zs g)) := by
        have z := e9 _ _ (e8 _ _ ha)
        rw [upd_ne nca.symm] at z
        rw [upd_ne (ne_of_none z hT)]
        exact z
      refine ⟨_, rfl, _, rfl, q, a, z1, z2, _, rfl, .inl (.inl hq2), ha2, isSign_one (N.sg _ i1), isSign_one (N.sg _ i2), ⟨_, dkF_val N.nd g i1⟩, ⟨_, dkF_val N.nd g i2⟩, ne, fun H3 e3 => ⟨_, rfl, iteT ?_⟩⟩
      refine ⟨_, rfl, .int n, 18, rfl, .inl ⟨n, rfl, ?_⟩⟩
      rw [fit_one n1 (by decide)]
      have D3 : H3 D5 = some (.lst (((ps.take i).map fun x => decide (x.2 ≤ 18)).map V.bl)) := e3 _ _ (by rw [upd_ne nTD.symm]; exact h9)
      refine ⟨_, D3, ?_, ?_, ?_, ?_⟩
      · have : 1000 ≤ sizeLine := by decide
        have := N.sl
        have hi' : i < (dtF ps).length := hi
        simp [dtF] at hi' ⊢
        omega
      · intro y u hu
        have hu2 := e9 _ _ hu
        by_cases yc : y = c
        · subst yc; rw [upd_same] at hu2 ⊢; exact hu2
        · rw [upd_ne yc] at hu2 ⊢
          have yD : y ≠ D5 := fun z => by rw [z, hD5'] at hu; cases hu
          rw [upd_ne yD]
          exact e3 _ _ (by rw [upd_ne (ne_of_none hu2 hT)]; exact hu2)
      · rw [upd_ne nDc.symm]
        exact e3 _ _ (by rw [upd_ne nT.symm]; exact f9)
      · rw [upd_same, List.take_add_one, hx, List.map_append, List.map_append]
        rfl
    · obtain ⟨e9, f9, h9⟩ := e
      have ll : (dtF ps).length = ps.length := by simp [dtF]
      rw [ll, List.take_length] at h9
      refine ⟨f9, D5, _, rfl, .inl (.inl (show upd H9 c (.dT (dtF ps)) D5 = some (.lst ((ps.map fun x => decide (x.2 ≤ 18)).map V.bl)) by rw [upd_ne nDc]; exact h9)), ?_⟩
      rw [List.all_map]
      exact hQ _ (e8.trans e9)
end
end MN
/-! Prices.__init__: the order in which the own dicts stand -/
namespace MN
open PySem PySem.Spec PyProof.Rows L2
theorem sortKeysBy {α : Type} (key : α → Str × Str) {l : List α} (nd : (l.map key).Nodup) : (l.mergeSort (PySem.W.dataLe false fun e => .tuple [.str (key e).1, .str (key e).2])).Pairwise fun a b => kLt (key a) (key b) := by
  have h := msort_of (R := kLt) (le := PySem.W.dataLe false fun q : Str × Str => .tuple [.str q.1, .str q.2]) (fun a b => by
    show (!PySem.W.dataLt _ _) = true ↔ _
    rw [dataLt_ss, Bool.not_eq_true', decide_eq_false_iff_not]
    exact Iff.rfl) kLt_asym (fun a b c => kLt_trans) kLt_tri nd
  rw [← List.map_mergeSort (f := key) (l := l) (r := PySem.W.dataLe false fun e : α => .tuple [.str (key e).1, .str (key e).2]) (s := PySem.W.dataLe false fun q : Str × Str => .tuple [.str q.1, .str q.2]) (fun a _ b _ => rfl), List.pairwise_map] at h
  exact h
theorem sorted_sL {ys : List Str} (sg : ∀ z ∈ ys, ∃ c ∈ ("abcde" : Str).cps.toList, z = ⟨#[c]⟩) (nd : ys.Nodup) (hs : sortedS ys = true) : ys.Pairwise fun a b => sL a < sL b := by
  obtain ⟨cs, rfl⟩ : ∃ cs : List Nat, ys = cs.map one := by
    refine ⟨ys.map fun z => z.cps.toList.headD 0, ?_⟩
    rw [List.map_map]
    have : ys.map (one ∘ fun z => z.cps.toList.headD 0) = ys.map id := by
      apply List.map_congr_left
      intro z hz
      obtain ⟨c, _, rfl⟩ := sg z hz
      rfl
    rw [this, List.map_id]
  have h1 := sorted1 cs hs
  have h2 : cs.Pairwise (· ≠ ·) := by
    rw [List.Nodup, List.pairwise_map] at nd
    exact nd.imp fun {a b} h e => h (by rw [e])
  rw [List.pairwise_map]
  refine List.Pairwise.imp₂ (fun a b h h' => ?_) h1 h2
  show [a] < [b]
  exact List.cons_lt_cons_iff.mpr (.inl (Nat.lt_of_le_of_ne h h'))
section
variable {P : Program} {w : World} {K : PySem.W.Frag} {mg : Str → Option Value} {base : Heap}
def spPInit3 (C : Addr) : Sp := fun vs H Q _ => ∃ x dx a b c zs zs2 g o ps, vs = [.ref x, .ref a, .ref b, .ref c] ∧ H x = some (.ins C dx []) ∧ H dx = some (.own x) ∧ dx ≠ x ∧
  H a = some (.dK (dkF zs g)) ∧ H b = some (.dK (dkF zs2 o)) ∧ H c = some (.dT (dtF ps)) ∧ PrN zs zs2 g o ps ∧
  ∀ H' ys qs, Kp x dx H H' → PrAt C H' x dx ys ys g o qs → PrN ys ys g o qs → ys.Perm zs → (ys.Pairwise fun a b => sL a < sL b) → qs.Perm ps → (qs.Pairwise fun a b => kLt a.1 b.1) → Q .non H'
abbrev N_pinit3 : List Str := ["self", "put", "out", "swap", "sign", "pair"]
theorem sc_pinit3 : FnScope N_pinit3 ["self", "put", "out", "swap"] (defScope (inClass (top 26) 1)) := ⟨rfl, rfl, rfl, by decide +kernel, rfl, by decide +kernel, by decide +kernel⟩
theorem f_pinit3 {C f : Addr} {fd : FuncData} (PC : SlotC K C) (F : FunAt K "__init__" "Prices.__init__" (inClass (top 26) 1) [] f fd) (B : Blt mg) (c_are_prices : Cal P w K mg base 3 "are_prices" spAreP2) : FnOk P w K mg base CX0 4 f fd ["self", "put", "out", "swap"] (spPInit3 C) := by
  refine fnok_of F sc_pinit3 (fun vs H Q E h => ?_) (fun cdv A outer s H vs Q E hr h => ?_)
  · obtain ⟨_, _, _, _, _, _, _, _, _, _, rfl, _⟩ := h; rfl
  · obtain ⟨x, dx, a, b, c, zs, zs2, g, o, ps, rfl, hx, hdx, dxx, ha, hb, hc, N, hQ⟩ := h
    obtain ⟨p0, s0⟩ := PC.s0
    obtain ⟨p1, s1⟩ := PC.s1
    obtain ⟨p2, s2⟩ := PC.s2
    refine ⟨_, pss_cons (ps_if (pt_not (pt_val (pe_c c_are_prices hr (by decide) (by rfl) (pa_cons (pv 1) (pa_cons (pv 2) (pa_cons (pv 3) pa_nil)))))) (pss_one ps_never) pss_nil)
      (pss_cons (SlX.ps_sl (pv 0) (pe_dp1 (own := [("sign", 4)]) (o0 := .dK []) (g := gName 4) (tt := tYes) rfl (hu_of hr) sc_pinit3.nd (pi_list (pe_callB cr_sortedS (by rfl) B.sorted (by decide +kernel) (pa_cons (pe_callTy (call_list_dK rfl) (by rfl) B.list (by decide +kernel) (pa_cons (pv 1) pa_nil)) pa_nil)))
        (blkOk_by (own := [("sign", 4)]) (N := N_pinit3) (sc := defScope (inClass (top 26) 1)) (by decide +kernel)) (fun _ _ _ _ _ => (pg_name (i := 4) sc_pinit3.nd rfl (Or.inl rfl))) (fun _ _ _ _ _ => pts_nil) (fun _ _ _ _ _ => pv 4) (fun _ _ _ _ _ => pe_dget (hu_of hr) (pv 1) (pv 4) (fun _ _ => rfl)) (.inl rfl)))
      (pss_cons (SlX.ps_sl (pv 0) (pe_dp1 (own := [("sign", 4)]) (o0 := .dK []) (g := gName 4) (tt := tYes) rfl (hu_of hr) sc_pinit3.nd (pi_list (pe_callB cr_sortedS (by rfl) B.sorted (by decide +kernel) (pa_cons (pe_callTy (call_list_dK rfl) (by rfl) B.list (by decide +kernel) (pa_cons (pv 1) pa_nil)) pa_nil)))
        (blkOk_by (own := [("sign", 4)]) (N := N_pinit3) (sc := defScope (inClass (top 26) 1)) (by decide +kernel)) (fun _ _ _ _ _ => (pg_name (i := 4) sc_pinit3.nd rfl (Or.inl rfl))) (fun _ _ _ _ _ => pts_nil) (fun _ _ _ _ _ => pv 4) (fun _ _ _ _ _ => pe_dget (hu_of hr) (pv 2) (pv 4) (fun _ _ => rfl)) (.inl rfl)))
      (pss_one (SlX.ps_sl (pv 0) (pe_dp1 (own := [("pair", 5)]) (o0 := .dT []) (g := gName 5) (tt := tYes) rfl (hu_of hr) sc_pinit3.nd (pi_list (pe_callB (cr_sortedD hr.units) (by rfl) B.sorted (by decide +kernel) (pa_cons (pe_callTy (call_list_dT rfl) (by rfl) B.list (by decide +kernel) (pa_cons (pv 3) pa_nil)) pa_nil)))
        (blkOk_by (own := [("pair", 5)]) (N := N_pinit3) (sc := defScope (inClass (top 26) 1)) (by decide +kernel)) (fun _ _ _ _ _ => (pg_name (i := 5) sc_pinit3.nd rfl (Or.inl rfl))) (fun _ _ _ _ _ => pts_nil) (fun _ _ _ _ _ => pv 5) (fun _ _ _ _ _ => pe_dget (hu_of hr) (pv 3) (pv 5) (fun _ _ => rfl)) (.inr rfl)))))), ?_⟩
    refine ⟨_, rfl, _, rfl, _, rfl, a, b, c, zs, zs2, g, o, ps, rfl, ha, hb, hc, N, fun H1 e1 => ⟨_, rfl, iteF ?_⟩⟩
    have keyz : ∀ f : Str → Int, (dkF zs f).map (fun kv => kV kv.1) = zs.map V.str := fun f => by unfold dkF; rw [List.map_map]; rfl
    have l64 : zs.length < 64 := by have := N.le; omega
    have apart : ∀ {t : Addr} {kvs : List (Key × V)}, H t = some (.dK kvs) → t ≠ x ∧ t ≠ dx := fun h => ⟨fun z => (by rw [z, hx] at h; cases h), fun z => (by rw [z, hdx] at h; cases h)⟩
    have cx : c ≠ x := fun z => by rw [z, hx] at hc; cases hc
    have cd : c ≠ dx := fun z => by rw [z, hdx] at hc; cases hc
    obtain ⟨ax, ad⟩ := apart ha
    obtain ⟨bx, bd⟩ := apart hb
    have k1 : Kp x dx H H1 := fun b o _ _ q => e1 _ _ q
    -- own_put
    refine ⟨_, rfl, a, _, rfl, k1 _ _ ax ad ha, fun q hq => ⟨q, zs, rfl, .inl (.inl (by rw [keyz]; exact upd_same)), l64, fun ys p hys hso hp => ?_⟩⟩
    refine ⟨p, rfl, ⟨_, .inl (.inl upd_same)⟩, fun D hD => ?_⟩
    have e2 : Same H1 (upd (upd H1 q (.lst ((dkF zs g).map fun kv => kV kv.1))) p (.lst (ys.map V.str))) := (same_new hq).trans (same_new hp)
    refine dp_signs (.inl (.inl upd_same)) (hys.nodup_iff.mpr N.nd) (by have := hys.length_eq; omega) hD g (fun _ _ => rfl) (fun y _ H2 _ Q q => ⟨_, rfl, q⟩) (fun y hy H2 e Q q => ⟨_, rfl, _, rfl, a, .int (g y), rfl, .inl ⟨_, .inr y, .inl (e _ _ (e2 _ _ (k1 _ _ ax ad ha))), rfl, (dkF_val N.nd g (hys.mem_iff.mp hy)).symm⟩, q _ (Same.refl _)⟩) (fun H2 e3 hD2 => ?_)
    have e4 := e2.trans e3
    refine ⟨_, rfl, x, C, dx, p1, [], 1, rfl, .inl ⟨e4 _ _ (e1 _ _ hx), rfl⟩, PC.sc, s1, ?_⟩
    have fD : H1 D = none := e2.free hD
    have Dx : D ≠ x := (ne_of_none (e1 _ _ hx) fD).symm
    have Dd : D ≠ dx := (ne_of_none (e1 _ _ hdx) fD).symm
    have k3 : Kp x dx H (SlX.slH H2 x C dx (SlX.putS 1 (.ref D) [])) := (k1.same e4).sl
    have z3 : Sl2 (SlX.slH H2 x C dx (SlX.putS 1 (.ref D) [])) x C dx (SlX.putS 1 (.ref D) []) := slH_sl2 dxx
    have w3 : (SlX.putS 1 (.ref D) [])[1]? = some (some (.ref D)) := SlX.putS_get _ _ _
    have hD3 : SlX.slH H2 x C dx (SlX.putS 1 (.ref D) []) D = some (.dK (dkF ys g)) := by rw [SlX.slH_ne Dx Dd]; exact hD2
    generalize SlX.putS 1 (.ref D) [] = v3 at *
    generalize SlX.slH H2 x C dx v3 = H3 at *
    clear hD hD2 fD hp hq e2 e3 e4 k1 e1
    -- own_out
    refine ⟨_, rfl, a, _, rfl, k3 _ _ ax ad ha, fun q hq => ⟨q, zs, rfl, .inl (.inl (by rw [keyz]; exact upd_same)), l64, fun ys2 p hys2 hso2 hp => ?_⟩⟩
    have asc := sorted_sL (fun z hz => N.sg z (hys.mem_iff.mp hz)) (hys.nodup_iff.mpr N.nd) hso
    obtain rfl : ys2 = ys := pairwise_one (R := fun a b : Str => sL a < sL b) (fun a b h q => List.lt_asymm h q) (sorted_sL (fun z hz => N.sg z (hys2.mem_iff.mp hz)) (hys2.nodup_iff.mpr N.nd) hso2) asc fun z => by rw [hys2.mem_iff, hys.mem_iff]
    refine ⟨p, rfl, ⟨_, .inl (.inl upd_same)⟩, fun D5 hD5 => ?_⟩
    have e2 : Same H3 (upd (upd H3 q (.lst ((dkF zs g).map fun kv => kV kv.1))) p (.lst (ys2.map V.str))) := (same_new hq).trans (same_new hp)
    refine dp_signs (.inl (.inl upd_same)) (hys2.nodup_iff.mpr N.nd) (by have := hys2.length_eq; omega) hD5 o (fun _ _ => rfl) (fun y _ H2 _ Q q => ⟨_, rfl, q⟩) (fun y hy H2 e Q q => ⟨_, rfl, _, rfl, b, .int (o y), rfl, .inl ⟨_, .inr y, .inl (e _ _ (e2 _ _ (k3 _ _ bx bd hb))), rfl, (dkF_val (N.pm.nodup_iff.mpr N.nd) o (N.pm.mem_iff.mpr (hys2.mem_iff.mp hy))).symm⟩, q _ (Same.refl _)⟩) (fun H4 e3 hD6 => ?_)
    have e4 := e2.trans e3
    refine ⟨_, rfl, x, C, dx, p0, v3, 0, rfl, slt_same e4 (.inr z3), PC.sc, s0, ?_⟩
    have fD : H3 D5 = none := e2.free hD5
    have D5x : D5 ≠ x := (ne_of_none z3.1 fD).symm
    have D5d : D5 ≠ dx := (ne_of_none z3.2 fD).symm
    have n5 : D ≠ D5 := ne_of_none hD3 fD
    have k5 : Kp x dx H (SlX.slH H4 x C dx (SlX.putS 0 (.ref D5) v3)) := (k3.same e4).sl
    have z5 : Sl2 (SlX.slH H4 x C dx (SlX.putS 0 (.ref D5) v3)) x C dx (SlX.putS 0 (.ref D5) v3) := slH_sl2 dxx
    have w5 : (SlX.putS 0 (.ref D5) v3)[0]? = some (some (.ref D5)) := SlX.putS_get _ _ _
    have w5' : (SlX.putS 0 (.ref D5) v3)[1]? = some (some (.ref D)) := (SlX.putS_ne (by decide)).mpr w3
    have hD7 : SlX.slH H4 x C dx (SlX.putS 0 (.ref D5) v3) D5 = some (.dK (dkF ys2 o)) := by rw [SlX.slH_ne D5x D5d]; exact hD6
    have hD8 : SlX.slH H4 x C dx (SlX.putS 0 (.ref D5) v3) D = some (.dK (dkF ys2 g)) := by rw [SlX.slH_ne Dx Dd]; exact e4 _ _ hD3
    generalize SlX.putS 0 (.ref D5) v3 = v5 at *
    generalize SlX.slH H4 x C dx v5 = H5 at *
    clear hD5 hD6 fD hp hq e2 e3 e4 k3 z3 w3 hD3
    -- own_swap
    refine ⟨_, rfl, c, _, rfl, .inl (k5 _ _ cx cd hc), fun q bs hq hbs => ?_⟩
    obtain ⟨F0, f1, f2, f3⟩ := keys_zip hbs
    have up1 := same_new (o := .lst (bs.map V.ref)) hq
    refine ⟨q, F0.map fun e => (V.ref e.2, PyData.tuple [.str e.1.1.1, .str e.1.1.2]), rfl, .inl (.inl ?_), fun y hy => ?_, fun d1 h1 d2 h2 => ?_, .inl fun d hd => ?_, fun y hy => ?_, fun p hp => ?_⟩
    · rw [upd_same, List.map_map, ← f2, List.map_map]; rfl
    · obtain ⟨e, he, rfl⟩ := List.mem_map.mp hy
      exact dpT (zs := [e.1.1.1, e.1.1.2]) (.inl (.inl (up1 _ _ (f3 e he))))
    · rw [List.map_map] at h1 h2
      obtain ⟨e1, _, rfl⟩ := List.mem_map.mp h1
      obtain ⟨e2, _, rfl⟩ := List.mem_map.mp h2
      rfl
    · rw [List.map_map] at hd
      obtain ⟨e1, _, rfl⟩ := List.mem_map.mp hd
      exact ⟨_, _, rfl⟩
    · obtain ⟨e, he, rfl⟩ := List.mem_map.mp hy
      show PyData.depth _ ≤ 8
      simp [PyData.depth, PyData.depthAll]
    have ndk : (F0.map fun e => e.1.1).Nodup := by
      have : F0.map (fun e : ((Str × Str) × Int) × Addr => e.1.1) = ps.map Prod.fst := by rw [← f1, List.map_map]; rfl
      rw [this]; exact N.sn
    obtain ⟨F', pF, eF, sF⟩ : ∃ F' : List (((Str × Str) × Int) × Addr), F'.Perm F0 ∧ (F0.map fun e => (V.ref e.2, PyData.tuple [.str e.1.1.1, .str e.1.1.2])).mergeSort (PySem.W.dataLe false Prod.snd) = F'.map (fun e => (V.ref e.2, PyData.tuple [.str e.1.1.1, .str e.1.1.2])) ∧ F'.Pairwise (fun a b => kLt a.1.1 b.1.1) :=
      ⟨F0.mergeSort (PySem.W.dataLe false fun e => .tuple [.str e.1.1.1, .str e.1.1.2]), List.mergeSort_perm .., (List.map_mergeSort (f := fun e : ((Str × Str) × Int) × Addr => (V.ref e.2, PyData.tuple [.str e.1.1.1, .str e.1.1.2])) (l := F0) (r := PySem.W.dataLe false fun e : ((Str × Str) × Int) × Addr => .tuple [.str e.1.1.1, .str e.1.1.2]) (s := PySem.W.dataLe false Prod.snd) (fun a _ b _ => rfl)).symm, sortKeysBy (fun e : ((Str × Str) × Int) × Addr => e.1.1) ndk⟩
    rw [eF, List.map_map] at *
    have pq : (F'.map Prod.fst).Perm ps := by rw [← f1]; exact pF.map _
    have up2 := up1.trans (same_new (o := .lst (F'.map (Prod.fst ∘ fun e : ((Str × Str) × Int) × Addr => (V.ref e.2, PyData.tuple [.str e.1.1.1, .str e.1.1.2])))) hp)
    refine ⟨p, rfl, ⟨_, .inl (.inl upd_same)⟩, fun D9 hD9 => ?_⟩
    refine dp_pairs (F := F') (.inl (.inl upd_same)) ((pq.map _).nodup_iff.mpr N.sn) ?_ (fun e he => up2 _ _ (f3 e (pF.mem_iff.mp he))) hD9 (fun _ _ => rfl) (fun y _ H2 _ Q q => ⟨_, rfl, q⟩) (fun y hy H2 e Q q => ⟨_, rfl, _, rfl, c, .int y.1.2, rfl, .inr ⟨_, [.inr y.1.1.1, .inr y.1.1.2], y.2, .inl (e _ _ (up2 _ _ (k5 _ _ cx cd hc))), rfl, e _ _ (up2 _ _ (f3 y (pF.mem_iff.mp hy))), (dtF_val N.sn (pq.mem_iff.mp (List.mem_map.mpr ⟨y, hy, rfl⟩))).symm⟩, q _ (Same.refl _)⟩) (fun H6 e6 hD6 => ?_)
    · have := N.sl
      have := pq.length_eq
      rw [List.length_map] at this
      omega
    have e7 := up2.trans e6
    have z7 := z5
    refine ⟨_, rfl, x, C, dx, p2, v5, 2, rfl, slt_same e7 (.inr z5), PC.sc, s2, ?_⟩
    have fD : H5 D9 = none := up2.free hD9
    have D9x : D9 ≠ x := (ne_of_none z5.1 fD).symm
    have D9d : D9 ≠ dx := (ne_of_none z5.2 fD).symm
    refine hQ _ ys2 (F'.map Prod.fst) (k5.same e7).sl ⟨D, D5, D9, _, slH_sl2 dxx, (SlX.putS_ne (by decide)).mpr w5', (SlX.putS_ne (by decide)).mpr w5, SlX.putS_get _ _ _, n5, ?_, ?_, ?_⟩ (N.perm hys hys2 pq) hys asc pq (by rw [List.pairwise_map]; exact sF)
    · rw [SlX.slH_ne Dx Dd]; exact e7 _ _ hD8
    · rw [SlX.slH_ne D5x D5d]; exact e7 _ _ hD7
    · rw [SlX.slH_ne D9x D9d]; exact hD6
end
end MN
/-! put, out, swap, signs, length of prices (no class Closed) -/
namespace MN
open PySem PySem.Spec PyProof.Rows L2
theorem peSlK0 {X : Cx} {K : PySem.W.Frag} (hK : X.K = K) {e : Expr} {ta : TE} {f : Str} {pos : Pos} (he : PE X e ta) (hb : attributeBase e f X.env (eval e X.env) = eval e X.env := by rfl) : PE X (.Attribute e f pos) (SlX.tSl K ta f) := hK ▸ SlX.pe_sl he hb
section
variable {P : Program} {w : World} {K : PySem.W.Frag} {mg : Str → Option Value} {base : Heap} {Cp : Addr}
/-! ### put, out, swap -/
def spGet0 (Cp : Addr) (R : List Str → List Str → (Str → Int) → (Str → Int) → List ((Str × Str) × Int) → HO) : Sp := fun vs H Q _ => ∃ x dx ys ys2 g o qs, vs = [.ref x] ∧ PrAt Cp H x dx ys ys2 g o qs ∧ PrN ys ys2 g o qs ∧ ∀ d H', H d = none → Same H H' → H' d = some (R ys ys2 g o qs) → Q (.ref d) H'
abbrev spPut0 (Cp : Addr) : Sp := spGet0 Cp fun ys _ g _ _ => .dK (dkF ys g)
abbrev spOut0 (Cp : Addr) : Sp := spGet0 Cp fun _ ys2 _ o _ => .dK (dkF ys2 o)
abbrev spSwap0 (Cp : Addr) : Sp := spGet0 Cp fun _ _ _ _ qs => .dT (dtF qs)
theorem sc_pput0 : FnScope ["self"] ["self"] (defScope (inClass (top 26) 4)) := ⟨rfl, rfl, rfl, by decide +kernel, rfl, by decide +kernel, by decide +kernel⟩
theorem sc_pout0 : FnScope ["self"] ["self"] (defScope (inClass (top 26) 5)) := ⟨rfl, rfl, rfl, by decide +kernel, rfl, by decide +kernel, by decide +kernel⟩
abbrev N_pswap0 : List Str := ["self", "pair"]
theorem sc_pswap0 : FnScope N_pswap0 ["self"] (defScope (inClass (top 26) 6)) := ⟨rfl, rfl, rfl, by decide +kernel, rfl, by decide +kernel, by decide +kernel⟩
theorem f_pput0 {f : Addr} {fd : FuncData} (SP : SlotC K Cp) (F : FunAt K "put" "Prices.put" (inClass (top 26) 4) [] f fd) (B : Blt mg) : FnOk P w K mg base CX0 1 f fd ["self"] (spPut0 Cp) := by
  refine fnok_of F sc_pput0 (fun vs H Q E h => ?_) (fun cdv A outer s H vs Q E hr h => ?_)
  · obtain ⟨_, _, _, _, _, _, _, rfl, _⟩ := h; rfl
  · obtain ⟨x, dx, ys, ys2, g, o, qs, rfl, hP, N, hQ⟩ := h
    obtain ⟨p1, s1⟩ := SP.s1
    refine ⟨_, pss_one (ps_ret (pe_callTy call_dictD (by rfl) B.dict (by decide +kernel) (pa_cons (SlX.pe_sl (pv 0)) pa_nil))), ?_⟩
    obtain ⟨PA, PB, PS, ws, hs, w1, w0, w2, nAB, hA, hB, hS⟩ := hP
    exact ⟨_, rfl, x, Cp, dx, p1, ws, 1, _, rfl, .inr hs, SP.sc, s1, w1, PA, _, rfl, .inl hA, fun d hd => hQ d _ hd (same_new hd) upd_same⟩
theorem f_pout0 {f : Addr} {fd : FuncData} (SP : SlotC K Cp) (F : FunAt K "out" "Prices.out" (inClass (top 26) 5) [] f fd) (B : Blt mg) : FnOk P w K mg base CX0 1 f fd ["self"] (spOut0 Cp) := by
  refine fnok_of F sc_pout0 (fun vs H Q E h => ?_) (fun cdv A outer s H vs Q E hr h => ?_)
  · obtain ⟨_, _, _, _, _, _, _, rfl, _⟩ := h; rfl
  · obtain ⟨x, dx, ys, ys2, g, o, qs, rfl, hP, N, hQ⟩ := h
    obtain ⟨p1, s1⟩ := SP.s0
    refine ⟨_, pss_one (ps_ret (pe_callTy call_dictD (by rfl) B.dict (by decide +kernel) (pa_cons (SlX.pe_sl (pv 0)) pa_nil))), ?_⟩
    obtain ⟨PA, PB, PS, ws, hs, w1, w0, w2, nAB, hA, hB, hS⟩ := hP
    exact ⟨_, rfl, x, Cp, dx, p1, ws, 0, _, rfl, .inr hs, SP.sc, s1, w0, PB, _, rfl, .inl hB, fun d hd => hQ d _ hd (same_new hd) upd_same⟩
theorem f_pswap0 {f : Addr} {fd : FuncData} (SP : SlotC K Cp) (F : FunAt K "swap" "Prices.swap" (inClass (top 26) 6) [] f fd) (B : Blt mg) : FnOk P w K mg base CX0 1 f fd ["self"] (spSwap0 Cp) := by
  refine fnok_of F sc_pswap0 (fun vs H Q E h => ?_) (fun cdv A outer s H vs Q E hr h => ?_)
  · obtain ⟨_, _, _, _, _, _, _, rfl, _⟩ := h; rfl
  · obtain ⟨x, dx, ys, ys2, g, o, qs, rfl, hP, N, hQ⟩ := h
    obtain ⟨p2, s2⟩ := SP.s2
    refine ⟨_, pss_one (ps_ret (pe_lock (pe_dp1 (own := [("pair", 1)]) (o0 := .dT []) (g := gName 1) (tt := tYes) rfl (hu_of hr) sc_pswap0.nd (pi_keys (SlX.pe_sl (pv 0)))
        (blkOk_by (own := [("pair", 1)]) (N := N_pswap0) (sc := defScope (inClass (top 26) 6)) (by decide +kernel)) (fun _ _ _ _ _ => (pg_name (i := 1) sc_pswap0.nd rfl (Or.inl rfl))) (fun _ _ _ _ _ => pts_nil) (fun _ _ _ _ _ => pv 1) (fun _ _ _ _ _ => pe_dget (hu_of hr) (peSlK0 (K := K) rfl (pv 0)) (pv 1) (fun _ _ => rfl)) (.inr rfl)))), ?_⟩
    obtain ⟨PA, PB, PS, ws, hs, w1, w0, w2, nAB, hA, hB, hS⟩ := hP
    refine ⟨PS, _, hS, trivial, fun od => ?_⟩
    have xS : x ≠ PS := fun z => by
      have q := hs.1
      rw [z, hS] at q
      injection q with q
      unfold SlX.SlO at q
      cases q
    have dS : dx ≠ PS := fun z => by
      have q := hs.2
      rw [z, hS] at q
      cases q
    have S1' : Sl2 (upd H PS (.frz od (.dT (dtF qs)))) x Cp dx ws := ⟨by rw [upd_ne xS]; exact hs.1, by rw [upd_ne dS]; exact hs.2⟩
    refine ⟨_, rfl, x, Cp, dx, p2, ws, 2, _, rfl, .inr S1', SP.sc, s2, w2, PS, od, rfl, .inr ⟨_, upd_same, fun T hT0 => ?_⟩⟩
    have TS : T ≠ PS := fun z => by rw [z, upd_same] at hT0; cases hT0
    refine dp_it walk_keysT (fun i H' => Same (upd H PS (.frz od (.dT (dtF qs)))) H' ∧ H' T = some (.dT (dtF (qs.take i)))) ⟨same_new hT0, by rw [List.take_zero]; exact upd_same⟩ (fun i H' _ e => e.1 _ _ upd_same) (fun i y Ha Hb hi e hy => ?_) (fun H2' e => ⟨e.1 _ _ upd_same, ?_⟩)
    · obtain ⟨rfl, k, v, b, hk, rfl, hb⟩ := hy
      obtain ⟨ea, eT⟩ := e
      unfold dtF at hk
      rw [List.getElem?_map] at hk
      obtain ⟨⟨⟨z1, z2⟩, n⟩, hz, ek⟩ := Option.map_eq_some_iff.mp hk
      cases ek
      refine ⟨rfl, yes_q (iteT ⟨_, rfl, _, rfl, x, Cp, dx, p2, ws, 2, _, rfl, slt_same ea (.inr S1'), SP.sc, s2, w2, _, rfl, PS, .int n, rfl, .inr ⟨_, [.inr z1, .inr z2], b, .inr ⟨od, ea _ _ upd_same⟩, rfl, hb, (dtF_val N.sn (List.mem_of_getElem? hz)).symm⟩, _, .inr ⟨_, [.inr z1, .inr z2], b, eT, rfl, hb, ?_, rfl⟩, fun c u q => ?_, ?_⟩)⟩
      · have : 100000 < sizeLine := by decide
        have := N.sl
        simp [dtF]
        omega
      · rw [upd_ne (ne_of_none q hT0)]; exact ea _ _ q
      · rw [upd_same, dtF_put N.sn hz]
    obtain ⟨ea, eT⟩ := e
    refine hQ T _ (by rw [upd_ne TS] at hT0; exact hT0) (fun b u q => ?_) ?_
    · by_cases z : b = PS
      · rw [z, upd_same]; rw [z, hS] at q; exact q
      · rw [upd_ne z]; exact ea _ _ (by rw [upd_ne z]; exact q)
    · have : (dtF qs).length = qs.length := by simp [dtF]
      rw [upd_ne TS, eT, this, List.take_length]
/-! ### signs, length -/
theorem sc_psigns : FnScope ["self"] ["self"] (defScope (inClass (top 26) 3)) := ⟨rfl, rfl, rfl, by decide +kernel, rfl, by decide +kernel, by decide +kernel⟩
def spSigns02 (K : PySem.W.Frag) (Cp : Addr) : Sp := fun vs H Q _ => ∃ x dx ys ys2 g o qs, vs = [.ref x] ∧ PrAt Cp H x dx ys ys2 g o qs ∧ ∀ d H', Same H H' → SqT K H' d (strsV ys) → Q (.ref d) H'
theorem f_psigns {f : Addr} {fd : FuncData} (SP : SlotC K Cp) (F : FunAt K "signs" "Prices.signs" (inClass (top 26) 3) [] f fd) (B : Blt mg) : FnOk P w K mg base CX0 1 f fd ["self"] (spSigns02 K Cp) := by
  refine fnok_of F sc_psigns (fun vs H Q E h => ?_) (fun cdv A outer s H vs Q E hr h => ?_)
  · obtain ⟨_, _, _, _, _, _, _, rfl, _⟩ := h; rfl
  · obtain ⟨x, dx, ys, ys2, g, o, qs, rfl, hP, hQ⟩ := h
    obtain ⟨p1, s1⟩ := SP.s1
    refine ⟨_, pss_one (ps_ret (pe_callTy call_tuple_of (by rfl) B.tuple (by decide +kernel) (pa_cons (pe_callTy (call_list_dK rfl) (by rfl) B.list (by decide +kernel) (pa_cons (SlX.pe_sl (pv 0)) pa_nil)) pa_nil))), ?_⟩
    obtain ⟨PA, PB, PS, ws, hs, w1, w0, w2, nAB, hA, hB, hS⟩ := hP
    refine ⟨_, rfl, x, Cp, dx, p1, ws, 1, _, rfl, .inr hs, SP.sc, s1, w1, PA, _, rfl, hA, fun q hq => ⟨q, _, rfl, .inl ⟨SqL.of upd_same, fun T hT => ?_⟩⟩⟩
    have e : (dkF ys g).map (fun kv => kV kv.1) = strsV ys := by unfold dkF; rw [List.map_map]; rfl
    rw [e] at hT ⊢
    obtain ⟨e1, u1⟩ := laid (.lst (strsV ys)) hq
    obtain ⟨e2, u2⟩ := laid (.tup (strsV ys)) hT
    exact hQ T _ (e1.trans e2) (.inl (.inl u2))
theorem sc_plen : FnScope ["self"] ["self"] (defScope (inClass (top 26) 15)) := ⟨rfl, rfl, rfl, by decide +kernel, rfl, by decide +kernel, by decide +kernel⟩
def spLen02 (Cp : Addr) : Sp := fun vs H Q _ => ∃ x dx ys ys2 g o qs, vs = [.ref x] ∧ PrAt Cp H x dx ys ys2 g o qs ∧ Q (.int ys.length) H
theorem f_plen {f : Addr} {fd : FuncData} (SP : SlotC K Cp) (F : FunAt K "__len__" "Prices.__len__" (inClass (top 26) 15) [] f fd) (B : Blt mg) : FnOk P w K mg base CX0 1 f fd ["self"] (spLen02 Cp) := by
  refine fnok_of F sc_plen (fun vs H Q E h => ?_) (fun cdv A outer s H vs Q E hr h => ?_)
  · obtain ⟨_, _, _, _, _, _, _, rfl, _⟩ := h; rfl
  · obtain ⟨x, dx, ys, ys2, g, o, qs, rfl, hP, hQ⟩ := h
    obtain ⟨p1, s1⟩ := SP.s1
    refine ⟨_, pss_one (ps_ret (pe_callB call_lenD (by rfl) B.len (by decide +kernel) (pa_cons (SlX.pe_sl (pv 0)) pa_nil))), ?_⟩
    obtain ⟨PA, PB, PS, ws, hs, w1, w0, w2, nAB, hA, hB, hS⟩ := hP
    refine ⟨_, rfl, x, Cp, dx, p1, ws, 1, _, rfl, .inr hs, SP.sc, s1, w1, PA, _, rfl, hA, ?_⟩
    have e : (dkF ys g).length = ys.length := by simp [dkF]
    rw [e]; exact hQ
end
end MN
/-! Prices.__eq__ of two prices -/
namespace MN
open PySem PySem.Spec PyProof.Rows L2
def kI (ys : List Str) (g : Str → Int) : List (Key × Int) := ys.map fun z => (Sum.inr z, g z)
def kT (qs : List ((Str × Str) × Int)) : List (List Key × Int) := qs.map fun e => ([Sum.inr e.1.1, Sum.inr e.1.2], e.2)
theorem dkF_kI (ys : List Str) (g : Str → Int) : dkF ys g = intKv (kI ys g) := by unfold dkF intKv kI; rw [List.map_map]; rfl
theorem dtF_kT (qs : List ((Str × Str) × Int)) : dtF qs = intKv (kT qs) := by unfold dtF intKv kT; rw [List.map_map]; rfl
/-- equal prices -/
def eqPr (ys ys2 : List Str) (g o : Str → Int) (qs : List ((Str × Str) × Int)) (zs zs2 : List Str) (g' o' : Str → Int) (ps : List ((Str × Str) × Int)) : Bool := eqKv (kI ys g) (kI zs g') && (eqKv (kI ys2 o) (kI zs2 o') && eqKv (kT qs) (kT ps))
section
variable {P : Program} {w : World} {K : PySem.W.Frag} {mg : Str → Option Value} {base : Heap} {Cp : Addr}
theorem sc_peq : FnScope ["self", "other"] ["self", "other"] (defScope (inClass (top 26) 16)) := ⟨rfl, rfl, rfl, by decide +kernel, rfl, by decide +kernel, by decide +kernel⟩
def spEq02 (Cp : Addr) : Sp := fun vs H Q _ => ∃ x dx y dy ys ys2 g o qs zs zs2 g' o' ps, vs = [.ref x, .ref y] ∧ PrAt Cp H x dx ys ys2 g o qs ∧ PrAt Cp H y dy zs zs2 g' o' ps ∧ Q (.bl (eqPr ys ys2 g o qs zs zs2 g' o' ps)) H
theorem f_peq {f : Addr} {fd : FuncData} (SP : SlotC K Cp) (si : SlX.SIsi K Cp) (isP : PySem.W.kitOne K (.ref Cp) (.ref Cp) = some true) (gp : mg "Prices" = some (.ref Cp)) (F : FunAt K "__eq__" "Prices.__eq__" (inClass (top 26) 16) [] f fd) (B : Blt mg) : FnOk P w K mg base CX0 1 f fd ["self", "other"] (spEq02 Cp) := by
  refine fnok_of F sc_peq (fun vs H Q E h => ?_) (fun cdv A outer s H vs Q E hr h => ?_)
  · obtain ⟨_, _, _, _, _, _, _, _, _, _, _, _, _, _, rfl, _⟩ := h; rfl
  · obtain ⟨x, dx, y, dy, ys, ys2, g, o, qs, zs, zs2, g', o', ps, rfl, hP, hP', hQ⟩ := h
    have GF : GlC mg "Prices" (.ref Cp) := ⟨_, gp, rfl⟩
    obtain ⟨p1, s1⟩ := SP.s1
    obtain ⟨p0, s0⟩ := SP.s0
    obtain ⟨p2, s2⟩ := SP.s2
    refine ⟨_, pss_one (ps_ret (pe_and (pe_callB (SlX.call_isiSl (.ref Cp)) (by rfl) B.isinstance (by decide +kernel) (pa_cons (pv 1) (pa_cons (pe_gl (by rfl) GF) pa_nil)))
      (pe_and (pe_cmpR (op_eqDK hr.units) (SlX.pe_sl (pv 0)) (SlX.pe_sl (pv 1)) (nomark _)) (pe_and (pe_cmpR (op_eqDK hr.units) (SlX.pe_sl (pv 0)) (SlX.pe_sl (pv 1)) (nomark _)) (pe_one (pe_cmpR (op_eqDT hr.units) (SlX.pe_sl (pv 0)) (SlX.pe_sl (pv 1)) (nomark _))))))), ?_⟩
    obtain ⟨PA, PB, PS, ws, hs, w1, w0, w2, nAB, hA, hB, hS⟩ := hP
    obtain ⟨PA', PB', PS', ws', hs', w1', w0', w2', nAB', hA', hB', hS'⟩ := hP'
    refine ⟨_, rfl, y, Cp, dy, ws', _, true, rfl, rfl, fun w e => e, .inr hs', SP.sc, si, isP, ?_⟩
    rw [dkF_kI] at hA hB hA' hB'
    rw [dtF_kT] at hS hS'
    refine ⟨true, rfl, ?_⟩
    rw [if_pos rfl]
    refine ⟨_, rfl, x, Cp, dx, p1, ws, 1, _, rfl, .inr hs, SP.sc, s1, w1, _, rfl, y, Cp, dy, p1, ws', 1, _, rfl, .inr hs', SP.sc, s1, w1', PA, PA', _, _, rfl, rfl, hA, hA', ?_⟩
    refine ⟨_, rfl, ?_⟩
    unfold eqPr at hQ
    cases e1 : eqKv (kI ys g) (kI zs g') with
    | false =>
      rw [e1, Bool.false_and] at hQ
      rw [if_neg (by decide)]
      exact hQ
    | true =>
      rw [e1, Bool.true_and] at hQ
      rw [if_pos rfl]
      refine ⟨_, rfl, x, Cp, dx, p0, ws, 0, _, rfl, .inr hs, SP.sc, s0, w0, _, rfl, y, Cp, dy, p0, ws', 0, _, rfl, .inr hs', SP.sc, s0, w0', PB, PB', _, _, rfl, rfl, hB, hB', ?_⟩
      refine ⟨_, rfl, ?_⟩
      cases e2 : eqKv (kI ys2 o) (kI zs2 o') with
      | false =>
        rw [e2, Bool.false_and] at hQ
        rw [if_neg (by decide)]
        exact hQ
      | true =>
        rw [e2, Bool.true_and] at hQ
        rw [if_pos rfl]
        exact ⟨_, rfl, x, Cp, dx, p2, ws, 2, _, rfl, .inr hs, SP.sc, s2, w2, _, rfl, y, Cp, dy, p2, ws', 2, _, rfl, .inr hs', SP.sc, s2, w2', PS, PS', _, _, rfl, rfl, hS, hS', hQ⟩
end
end MN
/-! list(d.values()) of a dict with tuple keys -/
namespace MN
open PySem PySem.Spec PyProof.Rows L2
section
variable {prog : Program} {w : World} {A : Around} {E : Value → Shared → Prop} {s : Shared}
theorem meetsValuesR {d : Addr} {es : Array DictEntry} {ep : Nat} (hd : (d == sysModules) = false) :
    MeetsIn prog w (Builtin.«dict.values» ⟨[.ref d], []⟩) (fun _ R s => DT.Raw s.heap d es ep ∧
      R (.ok (.ret (.ref s.heap.objs.size))) { s with heap := s.heap.push { cls := .type "dict_values", data := .fields #[.ref d] } }) :=
  .of_wp fun A R s ⟨hm, h⟩ => by
    refine wpAny_bind ?_
    unfold Builtin.Dict.noArgs
    refine wpAny_bind (wpAny_notOrdered_dict hm.typeIs ?_)
    show wpAny _ _ (pure d) _ _ s
    refine wpAny_pure ?_
    show wpAny _ _ (Builtin.Dict.showsAll d >>= _) _ _ s
    unfold Builtin.Dict.showsAll
    rw [if_neg (by rw [hd]; exact Bool.false_ne_true)]
    refine wpAny_bind (wpAny_pure ?_)
    exact wpAny_bind (wpAny_newObj_type (wpAny_pure ⟨_, rfl, h⟩))
theorem callValuesR {d : Addr} {es : Array DictEntry} {ep : Nat} {Q : Value → Shared → Prop} (hd : (d == sysModules) = false) (hm : DT.Raw s.heap d es ep)
    (h : Q (.ref s.heap.objs.size) { s with heap := s.heap.push { cls := .type "dict_values", data := .fields #[.ref d] } }) : wpAny (model prog w) A (call (.builtin "dict.values") [.ref d]) Q E s :=
  call_meetsIn PySem.F.slot_dict_values hm.typeIs PySem.F.entry_dict_values (PySem.F.args_dict_values_1 _) (meetsValuesR (es := es) (ep := ep) hd) ⟨hm, h⟩
end
section
variable {X : Cx} {e : Expr} {te : TE} {p apos cpos pos : Pos}
def tListValsT (te : TE) : TE := fun σ H Q => te σ H fun x H1 => ∃ (d : Addr) (kvs : List (List Key × V)), x = .ref d ∧ H1 d = some (.dT kvs) ∧ ∀ p, H1 p = none → Q (.ref p) (upd H1 p (.lst (kvs.map (·.2))))
theorem vals_at : ∀ {xs : List V} {us : List Value}, xs.length = us.length → (∀ (i : Nat) (x : V) (u : Value), xs[i]? = some x → us[i]? = some u → RelV x u) → Vals xs us
  | [], [], _, _ => .nil
  | x :: xs, u :: us, hl, h => .cons (h 0 x u rfl rfl) (vals_at (by simpa using hl) fun i x u a b => h (i + 1) x u a b)
  | [], _ :: _, hl, _ => by simp at hl
  | _ :: _, [], hl, _ => by simp at hl
theorem pe_listValsT (hc : X.calm = true) (he : PE X e te) (hg : Gl X "list") (hm : X.mg "list" = none) (hbase : attributeBase e "values" X.env (eval e X.env) = eval e X.env := by rfl) (hline : (apos.endLine == cpos.line) = true := by rfl)
    (hs : starEach [.Call (.Attribute e "values" apos) [] [] cpos] X.env = (false, eval (.Call (.Attribute e "values" apos) [] [] cpos) X.env) :: starEach [] X.env := by rfl) :
    PE X (.Call (.Name "list" p) [.Call (.Attribute e "values" apos) [] [] cpos] [] pos) (tListValsT te) := by
  refine ⟨fun pins s σ H Q I hq => ?_⟩
  refine wpAny_Call_Name_kw (ld_blt I hg hm boot_list ?_)
  refine PyProof.Rows.callWith_type1 ?_ hs rfl
  rw [hs]
  show wpAny _ _ (spliced ((false, eval (.Call (.Attribute e "values" apos) [] [] cpos) X.env) :: backTo pos (starEach [] X.env))) _ _ s
  refine Calls.spliced_cons ?_
  refine wpAny_Call_method (T := "dict") (id := "dict.values") hbase rfl hline F.plainAttrs_dict F.slot_dict_values F.type_dict_values (thn (he.run pins s σ H _ I hq) fun u s1 ⟨x, H1, I1, rx, d, kvs, ex, hd, q⟩ => ?_)
  subst ex
  obtain rfl : u = Value.ref d := rx
  obtain ⟨z, hs0, xs, rel, o, es, ep, ho, hx, hdat, hes, his, hnd⟩ := dt_of I1.hok hd
  have raw : DT.Raw s1.heap d es ep := ⟨o, ho, hx, hdat⟩
  have lx : kvs.length = xs.length := Paired.length rel
  have le : es.size = xs.length := size_of_entries hes
  have I2 : L2.Inv X pins σ H1 { s1 with heap := s1.heap.push { cls := .type "dict_values", data := .fields #[.ref d] } } := I1.kept (t' := s1.toks) fun b ob q => Heap.get?_push_of_some _ q
  refine ⟨raw.typeIs, dictOfH_noDict (knd := tupleKind (mixKind X.prog X.w)) ⟨o, es, ep, ho, hx, hdat, hes, his, hnd⟩, ?_⟩
  show wpAny _ _ (callWith cpos (.builtin "dict.values") [.ref d] [] []) _ X.xe s1
  refine Calls.callWith_builtin rfl (PySem.evalArgs_none (callValuesR hs0 raw ?_))
  refine Calls.spliced_nil ?_
  refine PySem.W.kdl_call (PySem.KdlSrc.rawValues (es := es) (ep := ep)) (I1.ok.hd hc) ⟨⟨_, Heap.get?_push_size _ rfl, rfl, rfl⟩, raw.push _⟩ (by omega) fun h' tk acc' c' hkeep hS hacc => ?_
  refine ⟨.ref _, upd H1 _ (.lst (kvs.map (·.2))), I2.laid hkeep (Nat.le_refl _) (show ObjOk X.prog X.w _ _ _ (.lst (kvs.map (·.2))) from ⟨?_, acc'.toList, c', ?_, ?_⟩), rfl, q _ (I2.hok.fresh (Nat.le_refl _))⟩
  · rw [List.length_map]; exact z
  · have la : acc'.toList.length = es.size := by rw [Array.length_toList]; exact hacc.1
    refine vals_at (by rw [List.length_map, la]; omega) fun i x u h1 h2 => ?_
    rw [List.getElem?_map] at h1
    obtain ⟨kv, h3, rfl⟩ := Option.map_eq_some_iff.mp h1
    obtain ⟨hi, rfl⟩ := hacc.2 i u (by rw [← Array.getElem?_toList]; exact h2)
    obtain ⟨x', g1, g2, g3, g4⟩ := LiI.paired_get rel h3
    have e3 := entry_at hes i
    rw [Array.getElem?_eq_getElem hi, g1] at e3
    rw [Option.some.inj e3]
    exact g4
  · rw [Array.toArray_toList]; exact hS
end
end MN
/-! Prices.smallest -/
namespace MN
open PySem PySem.Spec PyProof.Rows L2
section
variable {P : Program} {w : World} {K : PySem.W.Frag} {mg : Str → Option Value} {base : Heap} {Cp : Addr}
/-- all prices -/
def allN (ys ys2 : List Str) (g o : Str → Int) (qs : List ((Str × Str) × Int)) : List Int := ys.map g ++ ys2.map o ++ qs.map Prod.snd
theorem sc_psmall : FnScope ["self"] ["self"] (defScope (inClass (top 26) 7)) := ⟨rfl, rfl, rfl, by decide +kernel, rfl, by decide +kernel, by decide +kernel⟩
def spSmall02 (Cp : Addr) : Sp := fun vs H Q _ => ∃ x dx ys ys2 g o qs, vs = [.ref x] ∧ PrAt Cp H x dx ys ys2 g o qs ∧ PrN ys ys2 g o qs ∧ ∀ m H', Same H H' → m ∈ allN ys ys2 g o qs → (∀ y ∈ allN ys ys2 g o qs, m ≤ y) → Q (.int m) H'
theorem f_psmall {f : Addr} {fd : FuncData} (SP : SlotC K Cp) (F : FunAt K "smallest" "Prices.smallest" (inClass (top 26) 7) [] f fd) (B : Blt mg) : FnOk P w K mg base CX0 1 f fd ["self"] (spSmall02 Cp) := by
  refine fnok_of F sc_psmall (fun vs H Q E h => ?_) (fun cdv A outer s H vs Q E hr h => ?_)
  · obtain ⟨_, _, _, _, _, _, _, rfl, _⟩ := h; rfl
  · obtain ⟨x, dx, ys, ys2, g, o, qs, rfl, hP, N, hQ⟩ := h
    obtain ⟨p1, s1⟩ := SP.s1
    obtain ⟨p0, s0⟩ := SP.s0
    obtain ⟨p2, s2⟩ := SP.s2
    refine ⟨_, pss_one (ps_ret (pe_callB (cr_min rfl) (by rfl) B.min (by decide +kernel) (pa_cons (pe_op op_cat (pe_op op_cat (pe_listVals rfl (SlX.pe_sl (pv 0)) (by rfl) B.list) (pe_listVals rfl (SlX.pe_sl (pv 0)) (by rfl) B.list)) (pe_listValsT rfl (SlX.pe_sl (pv 0)) (by rfl) B.list)) pa_nil))), ?_⟩
    have hP0 := hP
    obtain ⟨PA, PB, PS, ws, hs, w1, w0, w2, nAB, hA, hB, hS⟩ := hP
    have l1 := N.le
    have l2 := N.pm.length_eq
    have l3 := N.sl
    have pos := N.pos
    have v1 : (dkF ys g).map (·.2) = (ys.map g).map V.int := by unfold dkF; rw [List.map_map, List.map_map]; rfl
    have v2 : (dkF ys2 o).map (·.2) = (ys2.map o).map V.int := by unfold dkF; rw [List.map_map, List.map_map]; rfl
    have v3 : (dtF qs).map (·.2) = (qs.map Prod.snd).map V.int := by unfold dtF; rw [List.map_map, List.map_map]; rfl
    refine ⟨_, rfl, x, Cp, dx, p1, ws, 1, _, rfl, .inr hs, SP.sc, s1, w1, PA, _, rfl, hA, fun a1 h1 => ?_⟩
    rw [v1]
    obtain ⟨e1, u1⟩ := laid (.lst ((ys.map g).map V.int)) h1
    generalize upd H a1 (.lst ((ys.map g).map V.int)) = H1 at e1 u1 ⊢
    refine ⟨_, rfl, x, Cp, dx, p0, ws, 0, _, rfl, .inr ⟨e1 _ _ hs.1, e1 _ _ hs.2⟩, SP.sc, s0, w0, PB, _, rfl, e1 _ _ hB, fun a2 h2 => ?_⟩
    rw [v2]
    obtain ⟨e2, u2⟩ := laid (.lst ((ys2.map o).map V.int)) h2
    generalize upd H1 a2 (.lst ((ys2.map o).map V.int)) = H2 at e2 u2 ⊢
    have big : 200 ≤ sizeLine := by decide
    refine ⟨a1, a2, _, _, rfl, rfl, e2 _ _ u1, u2, by rw [List.length_map, List.length_map, List.length_map, List.length_map]; omega, fun a3 h3 => ?_⟩
    rw [← List.map_append]
    obtain ⟨e3, u3⟩ := laid (.lst ((ys.map g ++ ys2.map o).map V.int)) h3
    generalize upd H2 a3 (.lst ((ys.map g ++ ys2.map o).map V.int)) = H3 at e3 u3 ⊢
    have e13 := (e1.trans e2).trans e3
    refine ⟨_, rfl, x, Cp, dx, p2, ws, 2, _, rfl, .inr ⟨e13 _ _ hs.1, e13 _ _ hs.2⟩, SP.sc, s2, w2, PS, _, rfl, e13 _ _ hS, fun a4 h4 => ?_⟩
    rw [v3]
    obtain ⟨e4, u4⟩ := laid (.lst ((qs.map Prod.snd).map V.int)) h4
    generalize upd H3 a4 (.lst ((qs.map Prod.snd).map V.int)) = H4 at e4 u4 ⊢
    refine ⟨a3, a4, _, _, rfl, rfl, e4 _ _ u3, u4, by rw [List.length_map, List.length_append, List.length_map, List.length_map, List.length_map, List.length_map]; omega, fun a5 h5 => ?_⟩
    rw [← List.map_append]
    obtain ⟨e5, u5⟩ := laid (.lst ((ys.map g ++ ys2.map o ++ qs.map Prod.snd).map V.int)) h5
    exact ⟨a5, _, rfl, SqL.of u5, by rw [List.length_append, List.length_append, List.length_map]; omega, fun m hm hle => hQ m _ ((e13.trans e4).trans e5) hm hle⟩
end
end MN
/-! a class of the module called by keywords (as in Pm06a, which wants class Closed) -/
namespace MN
open PySem PySem.Spec PyProof.Rows L2
section
variable {X : Cx} {CX : CXT} {k : Nat} {f C : Addr} {fd : FuncData} {ps ks : List Str} {sp : Sp} {E : XK} {x : Str} {p pos : Pos} {kws : List Keyword} {tk : TA} {g : List Value → List Value → List Value} {gV : List V → List V → List V}
/-- a class of the module, called by keywords alone -/
theorem pe_makeKG (M : Mk X.K C f) (F : FnOk X.prog X.w X.K X.mg X.base CX k f fd ps sp) (hr : Room (k + 1) X.A) (hg : Gl X x) (hm : X.mg x = some (.ref C)) (hb : KBn X.K fd ps 1 ks g gV) (hx : Passes CX X E) (hkw : PK X kws tk)
    (hall : (backToKw pos (keywordEach kws X.env)).all (·.1.isSome) = true := by rfl) (hks : (backToKw pos (keywordEach kws X.env)).filterMap (·.1) = ks := by rfl) (hdb : (x == ("__debug__" : Str)) = false := by decide)
    (hpl : ((backTo pos (starEach [] X.env)).any (·.1) || (backToKw pos (keywordEach kws X.env)).any (·.1.isNone)) = false := by rfl) :
    PE X (.Call (.Name x p) [] kws pos) (tMakeK C 0 ks.length sp gV E tNil tk) := by
  refine ⟨fun pins s σ H Q I h => ?_⟩
  refine wpAny_Call_Name_kw (ld_glob I hg hm ?_ hdb)
  refine PySem.W.callWith_KW0 (h₀ := X.base) I.ok.mod.kin M.kp hall ?_ hpl
  refine thn (hkw.run pos pins s σ _ _ I h) fun ws s2 ⟨zs, H2, I2, rz, l1, l2, q2⟩ => ⟨I2.kIn, ?_⟩
  rw [hks]
  exact run_makeK (us := []) (vs := []) M F hr hb hx I2 .nil rz rfl l2 q2
end
section
variable {P : Program} {w : World} {K : PySem.W.Frag} {mg : Str → Option Value} {base : Heap} {Cp Cc : Addr}
theorem kb_pinit {f : Addr} {fd : FuncData} (F : FunAt K "__init__" "Prices.__init__" (inClass (top 26) 1) [] f fd) : KBn K fd ["self", "put", "out", "swap"] 1 ["put", "out", "swap"] (fun us ws => us ++ ws) (fun us ws => us ++ ws) := by
  obtain ⟨oc, od, dV, kV, doc, pm, an, cdv, ct, osl, rfl, lk, hcd, hD, hK⟩ := F.ex
  rcases hD with ⟨_, rfl⟩ | ⟨e, _⟩
  · refine ⟨fun s us ws X l1 l2 => ?_, fun r1 r2 => r1.append r2⟩
    match us, ws, l1, l2 with
    | [_], [_, _, _], _, _ => exact .of_eq rfl
  · exact absurd rfl e
end
end MN
/-! Prices.even of any signs, with the orders of the own dicts (no class Closed) -/
namespace MN
open PySem PySem.Spec PyProof.Rows L2
section
variable {K : PySem.W.Frag} {a D : Addr} {H1 : Hp} {σ : L2.St} {vs : List Nat} {tk tv : TE} {j : Nat} {Qd : Hp → Prop}
/-- {y: g(y) for y in a tuple of signs} -/
theorem dp_signsT {ys : List Str} (hs : SqT K H1 a (ys.map V.str)) (nd : ys.Nodup) (hz : ys.length ≤ 1000) (hD : H1 D = none) (g : Str → Int) (hw : ∀ y ∈ ys, wipe ((wipe σ vs).set j (some (.str y))) vs = wipe σ vs)
    (hk : ∀ y ∈ ys, ∀ H2, Same H1 H2 → ∀ Q : VK, Q (.str y) H2 → tk ((wipe σ vs).set j (some (.str y))) H2 Q) (hv : ∀ y ∈ ys, ∀ H2, Same H1 H2 → ∀ Q : VK, (∀ H3, Same H2 H3 → Q (.int (g y)) H3) → tv ((wipe σ vs).set j (some (.str y))) H2 Q)
    (hd : ∀ H', Same H1 H' → H' D = some (.dK (dkF ys g)) → Qd H') : DcGoal (.dK []) (Itt K a) (gName j) tYes tk tv vs σ H1 D Qd := by
  refine dp_it walk_tup (fun i H' => Same H1 H' ∧ H' D = some (.dK (dkF (ys.take i) g))) ⟨same_new hD, by rw [List.take_zero]; exact upd_same⟩ (fun i H' _ e => Same.seqT e.1 hs) (fun i x H H' hi e y => ?_) (fun H' e => ?_)
  · obtain ⟨rfl, hx⟩ := y
    obtain ⟨e1, e2⟩ := e
    rw [List.getElem?_map] at hx
    obtain ⟨y, hy, rfl⟩ := Option.map_eq_some_iff.mp hx
    have hm := List.mem_of_getElem? hy
    refine ⟨hw y hm, yes_q (iteT (hk y hm _ e1 _ (hv y hm _ e1 _ fun H3 e3 => ⟨_, .inl ⟨_, .inr y, e3 _ _ e2, rfl, ?_, rfl⟩, fun b o q => ?_, ?_⟩)))⟩
    · have : 100000 < sizeLine := by decide
      simp [dkF]
      omega
    · rw [upd_ne (ne_of_none q hD)]; exact e3 _ _ (e1 _ _ q)
    · rw [upd_same, dkF_put g nd hy]
  · obtain ⟨e1, e2⟩ := e
    refine hd H' e1 ?_
    rw [List.length_map, List.take_length] at e2
    exact e2
end
section
variable {P : Program} {w : World} {K : PySem.W.Frag} {mg : Str → Option Value} {base : Heap} {Cp : Addr}
def EvnC (K : PySem.W.Frag) (Cp : Addr) : Prop := ∃ mc p g fd, ClX.CRead K Cp mc ∧ ClX.CMet K Cp mc "even" p g ∧ FunAt K "even" "Prices.even" (inClass (top 26) 2) [.int 1] g fd
def spEvn (K : PySem.W.Frag) (Cp : Addr) : Sp := fun vs H Q _ => ∃ t zs n, vs = [.ref Cp, .ref t, .int n] ∧ SqT K H t (zs.map V.str) ∧ areSigns zs = true ∧ (∀ z ∈ zs, ∃ c ∈ ("abcde" : Str).cps.toList, z = ⟨#[c]⟩) ∧ zs.Nodup ∧ 0 < zs.length ∧ zs.length ≤ 5 ∧ 1 ≤ n ∧ n ≤ 9 ∧
  ∀ x dx ys qs ps H', Same H H' → PrAt Cp H' x dx ys ys (fun _ => n) (fun _ => n) qs → PrN ys ys (fun _ => n) (fun _ => n) qs → ys.Perm zs → (ys.Pairwise fun a b => sL a < sL b) → AllP zs (fun _ _ => n) ps → qs.Perm ps → (qs.Pairwise fun a b => kLt a.1 b.1) → Q (.ref x) H'
abbrev N_even2 : List Str := ["cls", "signs", "price", "single", "sign", "swap", "one", "other"]
theorem sc_even2 : FnScope N_even2 ["cls", "signs", "price"] (defScope (inClass (top 26) 2)) := ⟨rfl, rfl, rfl, by decide +kernel, rfl, by decide +kernel, by decide +kernel⟩
theorem f_even2 {f : Addr} {fd : FuncData} (SP : SlotC K Cp) (ip : ∃ f fd, Mk K Cp f ∧ FunAt K "__init__" "Prices.__init__" (inClass (top 26) 1) [] f fd) (F : FunAt K "even" "Prices.even" (inClass (top 26) 2) [.int 1] f fd) (B : Blt mg) (G1 : GlC mg "MAX_PRICE" (.int 9)) (c_are_prices : Cal P w K mg base 3 "are_prices" spAreP2) (c_require_signs : Cal P w K mg base 3 "require_signs" (spReqSigns K)) (c_require_number : Cal P w K mg base 2 "require_number" spReqNumber) :
    FnOk P w K mg base CX0 6 f fd ["cls", "signs", "price"] (spEvn K Cp) := by
  refine fnok_of F sc_even2 (fun vs H Q E h => ?_) (fun cdv A outer s H vs Q E hr h => ?_)
  · obtain ⟨_, _, _, rfl, _⟩ := h; rfl
  · obtain ⟨t, zs, n, rfl, ht, ar, sg, nd, pos, l5, n1, n9, hQ⟩ := h
    obtain ⟨fi, fdi, M, Fi⟩ := ip
    refine ⟨_, pss_cons (ps_expr (pe_c c_require_signs hr (by decide) (by rfl) (pa_cons (pv 1) pa_nil)))
      (pss_cons (ps_expr (pe_c c_require_number hr (by decide) (by rfl) (pa_cons (pv 2) (pa_cons pe_int (pa_cons (pe_gl (by rfl) G1) pa_nil)))))
      (pss_cons (ps_setDp1 (i := 3) (o0 := .dK []) (own := [("sign", 4)]) (g := gName 4) (tt := tYes) rfl (hu_of hr) sc_even2.nd rfl rfl (swD_true rfl rfl rfl (by decide +kernel)) (pi_tup (pv 1))
        (blkOk_by (own := [("sign", 4)]) (N := N_even2) (sc := defScope (inClass (top 26) 2)) (by decide +kernel)) (fun _ _ _ _ _ => (pg_name (i := 4) sc_even2.nd rfl (Or.inl rfl))) (fun _ _ _ _ _ => pts_nil) (fun _ _ _ _ _ => pv 4) (fun _ _ _ _ _ => pv 2) (.inl rfl))
      (pss_cons (ps_setDp2 (i := 5) (o0 := .dT []) (own := [("one", 6), ("other", 7)]) (vs1 := [7]) (g := gName 6) (tt := tYes) (g1 := gName 7) rfl (hu_of hr) sc_even2.nd rfl rfl (swD_true rfl rfl rfl (by decide +kernel)) (pi_tup (pv 1))
        (blkOk_by (own := [("one", 6), ("other", 7)]) (N := N_even2) (sc := defScope (inClass (top 26) 2)) (by decide +kernel)) (by decide) (fun _ _ _ _ _ => (pg_name (i := 6) sc_even2.nd rfl (Or.inl rfl))) (fun _ _ _ _ _ => pts_nil)
        (fun _ _ _ _ _ => piTupK (K := K) rfl (pv 1)) (fun _ _ _ _ _ => (pg_name (i := 7) sc_even2.nd rfl (Or.inl rfl))) (fun _ _ _ _ _ => pts_one (pt_cmpR op_ne (pv 6) (pv 7) (nomark _))) (fun _ _ _ _ _ => pe_tup (pa_cons (pv 6) (pa_cons (pv 7) pa_nil))) (fun _ _ _ _ _ => pv 2) (.inr rfl))
      (pss_one (ps_ret (pe_makeKL (i := 0) M (f_pinit3 (P := P) (w := w) (mg := mg) (base := base) SP Fi B c_are_prices) (hr.mono (by decide)) (by rfl) (.inl rfl) (kb_pinit Fi) pass0 (pk_cons (pv 3) (pk_cons (pv 3) (pk_cons (pv 5) pk_nil))))))))), ?_⟩
    have two : 2 ≤ sizeLine := by decide
    have len1 : ∀ z ∈ zs, z.length ≤ 100000 := fun z hz => by rw [len_one (sg z hz)]; decide
    refine ⟨_, rfl, t, zs, rfl, ⟨ht, by omega, len1⟩, ar, fun H1 e1 => ?_⟩
    refine ⟨_, rfl, n, 1, 9, rfl, isInt_of (by omega) (by omega), n1, n9, ?_⟩
    have ht1 := Same.seqT e1 ht
    refine ⟨_, rfl, t, rfl, ⟨_, ht1⟩, fun D hD => dp_signsT ht1 nd (by omega) hD (fun _ => n) (fun _ _ => by kernel_rfl) (fun y _ H2 _ Q q => ⟨_, rfl, q⟩) (fun y hy H2 e Q q => ⟨_, rfl, q _ (Same.refl _)⟩) (fun H2 e2 hd2 => ?_)⟩
    have ht2 := Same.seqT e2 ht1
    have ly : (zs.map V.str).length = zs.length := List.length_map ..
    refine ⟨_, rfl, t, rfl, ⟨_, ht2⟩, fun D9 hD9 => ?_⟩
    have big : zs.length * zs.length ≤ 25 := Nat.mul_le_mul l5 l5
    refine ⟨fun i m H' => i + m = zs.length ∧ Same H2 H' ∧ ∃ qs, H' D9 = some (.dT (dtF qs)) ∧ PreP zs (fun _ _ => n) i 0 qs, ⟨zs.length, Nat.zero_add _, same_new hD9, [], upd_same, by simp, fun e => by simp⟩, fun i m H' e => ?_⟩
    obtain ⟨em, e6, qs, hq, Pp⟩ := e
    by_cases hi : i < zs.length
    · have hgi : i < (zs.map V.str).length := by omega
      have gi := List.getElem?_eq_getElem hi
      refine .inr ⟨walk_tup.goes i _ hgi (Same.seqT e6 ht2), fun H' => Same H2 H' ∧ ∃ qs, H' D9 = some (.dT (dtF qs)) ∧ PreP zs (fun _ _ => n) (i + 1) 0 qs, fun H'' e' => ⟨m - 1, by omega, by omega, e'⟩, fun y H'' hy => ?_⟩
      obtain ⟨rfl, hy2⟩ := walk_tup.yields i _ _ _ hgi (Same.seqT e6 ht2) hy
      rw [List.getElem?_map, gi] at hy2
      cases hy2
      refine ⟨rfl, yes_q (iteT ⟨_, rfl, t, rfl, ⟨_, Same.seqT e6 ht2⟩, fun j m H' => j + m = zs.length ∧ Same H2 H' ∧ ∃ qs, H' D9 = some (.dT (dtF qs)) ∧ PreP zs (fun _ _ => n) i j qs, ⟨zs.length, Nat.zero_add _, e6, qs, hq, Pp⟩, fun j m H' e => ?_⟩)⟩
      clear Pp hq e6 qs
      obtain ⟨em, e6, qs, hq, Pp⟩ := e
      by_cases hj : j < zs.length
      · have hgj : j < (zs.map V.str).length := by omega
        have gj := List.getElem?_eq_getElem hj
        refine .inr ⟨walk_tup.goes j _ hgj (Same.seqT e6 ht2), fun H' => Same H2 H' ∧ ∃ qs, H' D9 = some (.dT (dtF qs)) ∧ PreP zs (fun _ _ => n) i (j + 1) qs, fun H'' e' => ⟨m - 1, by omega, by omega, e'⟩, fun y H'' hy => ?_⟩
        obtain ⟨rfl, hy2⟩ := walk_tup.yields j _ _ _ hgj (Same.seqT e6 ht2) hy
        rw [List.getElem?_map, gj] at hy2
        cases hy2
        refine ⟨rfl, _, rfl, _, rfl, rfl, _, rfl, ?_⟩
        by_cases nq : zs[i] = zs[j]
        · rw [show (!decide (V.str zs[i] = V.str zs[j])) = false by simp [nq]]
          refine iteF ⟨e6, qs, hq, Pp.skip gi (by rw [gj, nq])⟩
        · rw [show (!decide (V.str zs[i] = V.str zs[j])) = true by simp [nq]]
          obtain ⟨P2, nw⟩ := Pp.new nd gi gj nq
          refine iteT ⟨_, rfl, _, rfl, two, fun t1 ht1' => ⟨_, rfl, ?_⟩⟩
          have s1 := same_new (o := .tup [.str zs[i], .str zs[j]]) ht1'
          refine ⟨_, .inr ⟨_, [.inr zs[i], .inr zs[j]], t1, s1 _ _ hq, rfl, upd_same, ?_, rfl⟩, fun b o q => ?_, qs ++ [((zs[i], zs[j]), n)], ?_, P2⟩
          · have : 100000 < sizeLine := by decide
            have := Pp.len
            simp [dtF]
            omega
          · rw [upd_ne (ne_of_none q hD9)]; exact s1 _ _ (e6 _ _ q)
          · rw [upd_same, dtF_new nw]
      · obtain rfl : j = zs.length := by omega
        exact .inl ⟨ly ▸ walk_tup.stops _ (Same.seqT e6 ht2), e6, qs, hq, Pp.row hi⟩
    · obtain rfl : i = zs.length := by omega
      refine .inl ⟨ly ▸ walk_tup.stops _ (Same.seqT e6 ht2), ?_⟩
      have AP := Pp.all
      have hd6 := e6 _ _ hd2
      have e16 := (e1.trans e2).trans e6
      have N : PrN zs zs (fun _ => n) (fun _ => n) qs := ⟨sg, nd, pos, l5, List.Perm.refl _, fun _ _ => ⟨n1, n9⟩, fun _ _ => ⟨n1, n9⟩, AP.nd, fun x hx => by obtain ⟨a1, a2, a3, a4⟩ := (AP.iff x).mp hx; exact ⟨a1, a2, a3, by omega, by omega⟩, by have := AP.len; omega⟩
      generalize H' = H3 at *
      refine ⟨rfl, _, rfl, _, rfl, _, rfl, rfl, rfl, fun x dx hx hdx nn => ?_⟩
      have nx : ∀ b o, H3 b = some o → b ≠ x ∧ b ≠ dx := fun b o e => ⟨ne_of_none e hx, ne_of_none e hdx⟩
      have up : ∀ b o, H3 b = some o → upd (upd H3 dx (.own x)) x (.ins Cp dx []) b = some o := fun b o e => by
        rw [upd_ne (nx b o e).1, upd_ne (nx b o e).2]; exact e
      refine ⟨x, dx, D, D, D9, zs, zs, _, _, qs, rfl, upd_same, by rw [upd_ne nn, upd_same], nn, up _ _ hd6, up _ _ hd6, up _ _ hq, N, fun H4 ys qs2 k4 PA PN pm asc pq srt => ⟨rfl, hQ x dx ys qs2 qs H4 (fun b o q => ?_) PA PN pm asc AP pq srt⟩⟩
      have q3 := e16 _ _ q
      exact k4 b o (nx _ _ q3).1 (nx _ _ q3).2 (up _ _ q3)
theorem r_even2 (SP : SlotC K Cp) (ip : ∃ f fd, Mk K Cp f ∧ FunAt K "__init__" "Prices.__init__" (inClass (top 26) 1) [] f fd) (EV : EvnC K Cp) (B : Blt mg) (G1 : GlC mg "MAX_PRICE" (.int 9)) (c_are_prices : Cal P w K mg base 3 "are_prices" spAreP2) (c_require_signs : Cal P w K mg base 3 "require_signs" (spReqSigns K)) (c_require_number : Cal P w K mg base 2 "require_number" spReqNumber) :
    ∃ mc p g, ClX.CRead K Cp mc ∧ ClX.CMet K Cp mc "even" p g ∧ FnR P w K mg base CX0 6 g (fun vs H Q E => spEvn K Cp (vs ++ [.int 1]) H Q E) := by
  obtain ⟨mc, p, g, fd, r, c, F⟩ := EV
  obtain ⟨ds, hd, hb⟩ := F.binds1 (ps := ["cls", "signs", "price"]) 2 0 (by simp) rfl fun T kV doc pm an cdv ct us its l1 l2 => by
    match us, its, l1, l2 with
    | [_, _], [_], _, _ => exact ⟨_, rfl, rfl⟩
  exact ⟨mc, p, g, r, c, (f_even2 SP ip F B G1 c_are_prices c_require_signs c_require_number).raw hb hd⟩
end
end MN
/-! the plain record of prices; _law_signs, _law_made -/
namespace MN
open PySem PySem.Spec PyProof.Rows L2
/-- a record: three dicts in a list -/
def Rec (H : Hp) (t : Addr) (zs zs2 : List Str) (g o : Str → Int) (ps : List ((Str × Str) × Int)) : Prop := ∃ A B S, H t = some (.lst [.ref A, .ref B, .ref S]) ∧ H A = some (.dK (dkF zs g)) ∧ H B = some (.dK (dkF zs2 o)) ∧ H S = some (.dT (dtF ps))
theorem Rec.same {H H' : Hp} {t : Addr} {zs zs2 : List Str} {g o : Str → Int} {ps : List ((Str × Str) × Int)} (h : Rec H t zs zs2 g o ps) (e : Same H H') : Rec H' t zs zs2 g o ps := by
  obtain ⟨A, B, S, h1, h2, h3, h4⟩ := h
  exact ⟨A, B, S, e _ _ h1, e _ _ h2, e _ _ h3, e _ _ h4⟩
/-- prices that stand as a record says -/
def PrS (Cp : Addr) (H : Hp) (x : Addr) (zs : List Str) (g o : Str → Int) (ps : List ((Str × Str) × Int)) : Prop := ∃ dx ys qs, PrAt Cp H x dx ys ys g o qs ∧ PrN ys ys g o qs ∧ ys.Perm zs ∧ (ys.Pairwise fun a b => sL a < sL b) ∧ qs.Perm ps ∧ qs.Pairwise fun a b => kLt a.1 b.1
theorem PrS.same {Cp : Addr} {H H' : Hp} {x : Addr} {zs : List Str} {g o : Str → Int} {ps : List ((Str × Str) × Int)} (h : PrS Cp H x zs g o ps) (e : Same H H') : PrS Cp H' x zs g o ps := by
  obtain ⟨dx, ys, qs, h1, h2⟩ := h
  exact ⟨dx, ys, qs, h1.same e, h2⟩
section
variable {P : Program} {w : World} {K : PySem.W.Frag} {mg : Str → Option Value} {base : Heap} {Cp : Addr}
def spSignsL : Sp := fun vs H Q _ => ∃ p, vs = [.ref p] ∧ Pot H p ∧ ∀ q zs H', SgnOk zs → H q = none → Ex p H H' → H' q = some (.lst (strsV zs)) → Q (.ref q) H'
theorem sc_law_signs02 : FnScope ["_law_pot"] ["_law_pot"] (defScope (top 32)) := ⟨rfl, rfl, rfl, by decide +kernel, rfl, by decide +kernel, by decide +kernel⟩
theorem c_law_signs02 (A : At K mg "_law_signs" (top 32)) (B : Blt mg) (c_law_dip : Cal P w K mg base 1 "_law_dip" spDip) (c_law_shuffled : Cal P w K mg base 2 "_law_shuffled" (spShufI K)) : Cal P w K mg base 3 "_law_signs" spSignsL := by
  refine cal_of A sc_law_signs02 (fun _ _ _ _ _ _ us hl => match us, hl with | [_], _ => rfl) (fun vs H Q E h => ?_) (fun _ cdv A outer s H vs Q E hr h => ?_)
  · obtain ⟨_, rfl, _⟩ := h; rfl
  · obtain ⟨p, rfl, hp, hQ⟩ := h
    refine ⟨_, pss_one (ps_ret (pe_callB cr_sortedS (by rfl) B.sorted (by decide +kernel) (pa_cons (pe_slice sl_list (pe_c c_law_shuffled hr (by decide) (by rfl) (pa_cons (pv 0) (pa_cons pe_str pa_nil))) po_none (po_some (pe_op op_add pe_int (pe_c c_law_dip hr (by decide) (by rfl) (pa_cons (pv 0) (pa_cons pe_int pa_nil)))))) pa_nil))), ?_⟩
    refine ⟨_, rfl, p, _, _, rfl, hp, .inr ⟨"abcde", rfl, rfl⟩, by decide, fun ys q1 H1 hperm hq1 ex1 h1 => ?_⟩
    rw [signsOf_one] at hperm
    obtain ⟨ws, rfl, hws⟩ := perm_strsP hperm
    obtain ⟨a1, b1, c1, hp1⟩ := ex1.pot
    have nqp : q1 ≠ p := by obtain ⟨_, _, _, e⟩ := hp; exact (ne_of_none e hq1).symm
    refine ⟨_, rfl, p, _, a1, b1, c1, rfl, hp1, by omega, by omega, fun r a2 b2 c2 r0 r1 => ?_⟩
    have hq1' : upd H1 p (potO a2 b2 c2) q1 = some (.lst (strsV ws)) := by rw [upd_ne nqp]; exact h1
    have ex2 : Ex p H (upd H1 p (potO a2 b2 c2)) := ex1.trans Ex.turn
    generalize upd H1 p (potO a2 b2 c2) = H2 at ex2 hq1' ⊢
    refine ⟨_, _, rfl, rfl, _, rfl, q1, strsV ws, rfl, SqL.of hq1', fun l hl => ?_⟩
    have ex3 := ex2.new (o := .lst (cutV (strsV ws) none (some (1 + r)))) hl
    have hl3 : upd H2 l (.lst (cutV (strsV ws) none (some (1 + r)))) l = some (.lst (strsV (ws.take (1 + r).toNat))) := by rw [upd_same, cut_to ws (by omega)]
    generalize upd H2 l (.lst (cutV (strsV ws) none (some (1 + r)))) = H3 at ex3 hl3 ⊢
    have hwl : ws.length = 5 := hws.length_eq
    refine ⟨l, ws.take (1 + r).toNat, rfl, SqL.of hl3, ?_, fun zs S hzp hzs hS => ?_⟩
    · rw [List.length_take]; omega
    have ok : SgnOk zs := sgn_drawn hws (by omega) hzp hzs
    exact hQ S zs _ ok (ex3.free hp hS) (ex3.new (o := .lst (strsV zs)) hS) upd_same
def spMade02 (Cp : Addr) : Sp := fun vs H Q _ => ∃ t zs zs2 g o ps, vs = [.ref t] ∧ Rec H t zs zs2 g o ps ∧ PrN zs zs2 g o ps ∧ ∀ x H', Same H H' → PrS Cp H' x zs g o ps → Q (.ref x) H'
theorem sc_law_made02 : FnScope ["_law_tables_here"] ["_law_tables_here"] (defScope (top 34)) := ⟨rfl, rfl, rfl, by decide +kernel, rfl, by decide +kernel, by decide +kernel⟩
theorem c_law_made02 (A : At K mg "_law_made" (top 34)) (B : Blt mg) (SP : SlotC K Cp) (gp : mg "Prices" = some (.ref Cp)) (ip : ∃ f fd, Mk K Cp f ∧ FunAt K "__init__" "Prices.__init__" (inClass (top 26) 1) [] f fd) (c_are_prices2 : Cal P w K mg base 3 "are_prices" spAreP2) : Cal P w K mg base 6 "_law_made" (spMade02 Cp) := by
  obtain ⟨fi, fdi, M, Fi⟩ := ip
  refine cal_of A sc_law_made02 (fun _ _ _ _ _ _ us hl => match us, hl with | [_], _ => rfl) (fun vs H Q E h => ?_) (fun _ cdv A outer s H vs Q E hr h => ?_)
  · obtain ⟨_, _, _, _, _, _, rfl, _⟩ := h; rfl
  · obtain ⟨t, zs, zs2, g, o, ps, rfl, ⟨TA, TB, TS, ht, hA, hB, hS⟩, N, hQ⟩ := h
    refine ⟨_, pss_one (ps_ret (pe_makeKG M (f_pinit3 (P := P) (w := w) (mg := mg) (base := base) SP Fi B c_are_prices2) (hr.mono (by decide)) (by rfl) gp (kb_pinit Fi) pass0
      (pk_cons (pe_ix ix_list (pv 0) pe_int (fun _ _ => rfl)) (pk_cons (pe_ix ix_list (pv 0) pe_int (fun _ _ => rfl)) (pk_cons (pe_ix ix_list (pv 0) pe_int (fun _ _ => rfl)) pk_nil))))), ?_⟩
    refine ⟨_, rfl, t, _, _, _, rfl, rfl, SqL.of ht, rfl, _, rfl, t, _, _, _, rfl, rfl, SqL.of ht, rfl, _, rfl, t, _, _, _, rfl, rfl, SqL.of ht, rfl, rfl, rfl, fun y dy hy hdy n => ?_⟩
    have nx : ∀ b u, H b = some u → b ≠ y ∧ b ≠ dy := fun b u e => ⟨ne_of_none e hy, ne_of_none e hdy⟩
    have up : ∀ b u, H b = some u → upd (upd H dy (.own y)) y (.ins Cp dy []) b = some u := fun b u e => by
      rw [upd_ne (nx b u e).1, upd_ne (nx b u e).2]; exact e
    refine ⟨y, dy, TA, TB, TS, zs, zs2, g, o, ps, rfl, upd_same, by rw [upd_ne n, upd_same], n, up _ _ hA, up _ _ hB, up _ _ hS, N, fun H6 ys qs k2 hP2 N2 pm asc pq srt => ⟨rfl, hQ y H6 (fun b u z => ?_) ⟨dy, ys, qs, hP2, N2, pm, asc, pq, srt⟩⟩⟩
    exact k2 b u (nx _ _ z).1 (nx _ _ z).2 (up _ _ z)
end
end MN
/-! Prices.__str__ -/
namespace MN
open PySem PySem.Spec PyProof.Rows L2
theorem log_small {n : Nat} (h : n ≤ 1000) : ((n : Int)).natAbs.log2 < 1920 := by
  show n.log2 < 1920
  by_cases h0 : n = 0
  · subst h0; decide
  · rw [Nat.log2_lt h0]
    exact Nat.lt_of_le_of_lt h (Nat.lt_of_lt_of_le (by decide : 1000 < 2 ^ 10) (Nat.pow_le_pow_right (by decide) (by decide)))
/-- what str tells of prices -/
def textP (n m : Nat) : Str := ((((Str.empty ++ "prices of ") ++ Str.ofString (toString (n : Int))) ++ " signs, ") ++ Str.ofString (toString (m : Int))) ++ " swaps"
section
variable {P : Program} {w : World} {K : PySem.W.Frag} {mg : Str → Option Value} {base : Heap} {Cp : Addr}
theorem sc_pstr : FnScope ["self"] ["self"] (defScope (inClass (top 26) 17)) := ⟨rfl, rfl, rfl, by decide +kernel, rfl, by decide +kernel, by decide +kernel⟩
def spStr02 (Cp : Addr) : Sp := fun vs H Q _ => ∃ x dx ys ys2 g o qs, vs = [.ref x] ∧ PrAt Cp H x dx ys ys2 g o qs ∧ PrN ys ys2 g o qs ∧ Q (.str (textP ys.length qs.length)) H
theorem f_pstr {f : Addr} {fd : FuncData} (SP : SlotC K Cp) (F : FunAt K "__str__" "Prices.__str__" (inClass (top 26) 17) [] f fd) (B : Blt mg) : FnOk P w K mg base CX0 1 f fd ["self"] (spStr02 Cp) := by
  refine fnok_of F sc_pstr (fun vs H Q E h => ?_) (fun cdv A outer s H vs Q E hr h => ?_)
  · obtain ⟨_, _, _, _, _, _, _, rfl, _⟩ := h; rfl
  · obtain ⟨x, dx, ys, ys2, g, o, qs, rfl, hP, N, hQ⟩ := h
    obtain ⟨p1, s1⟩ := SP.s1
    obtain ⟨p2, s2⟩ := SP.s2
    refine ⟨_, pss_one (ps_ret (pe_joined (.cons pe_str (.cons (pe_fmt (pe_callB call_lenD (by rfl) B.len (by decide +kernel) (pa_cons (SlX.pe_sl (pv 0)) pa_nil))) (.cons pe_str (.cons (pe_fmt (pe_callB call_len_dT (by rfl) B.len (by decide +kernel) (pa_cons (SlX.pe_sl (pv 0)) pa_nil))) (.cons pe_str .nil))))))), ?_⟩
    obtain ⟨PA, PB, PS, ws, hs, w1, w0, w2, nAB, hA, hB, hS⟩ := hP
    have l1 := N.le
    have l3 := N.sl
    have la : (dkF ys g).length = ys.length := by simp [dkF]
    have lb : (dtF qs).length = qs.length := by simp [dtF]
    have g1 := log_small (n := ys.length) (by omega)
    have g2 := log_small (n := qs.length) (by omega)
    have t1 := int_text_len_1921 g1
    have t2 := int_text_len_1921 g2
    have big : 100000 ≤ sizeLine := by decide
    have c0 : (Str.empty ++ ("prices of " : Str)).length = 10 := by decide +kernel
    have c1 : (" signs, " : Str).length = 8 := by decide +kernel
    have c2 : (" swaps" : Str).length = 6 := by decide +kernel
    refine ⟨_, rfl, by rw [c0]; omega, _, rfl, x, Cp, dx, p1, ws, 1, _, rfl, .inr hs, SP.sc, s1, w1, PA, _, rfl, hA, ?_⟩
    rw [la]
    refine .inr ⟨_, rfl, g1, _, rfl, by rw [strLen_app, c0]; omega, _, rfl, by rw [strLen_app, strLen_app, c0, c1]; omega, _, rfl, x, Cp, dx, p2, ws, 2, _, rfl, .inr hs, SP.sc, s2, w2, PS, _, rfl, hS, ?_⟩
    rw [lb]
    refine .inr ⟨_, rfl, g2, _, rfl, by rw [strLen_app, strLen_app, strLen_app, c0, c1]; omega, _, rfl, by rw [strLen_app, strLen_app, strLen_app, strLen_app, c0, c1, c2]; omega, hQ⟩
end
end MN
/-! Prices.__contains__ of any value -/
namespace MN
open PySem PySem.Spec PyProof.Rows L2
theorem dkF_no {zs : List Str} (g : Str → Int) {z : Str} (h : z ∉ zs) : valV (dkF zs g) (.inr z) = none := by
  unfold valV dkF
  cases e : (zs.map fun z => ((Sum.inr z : Key), V.int (g z))).find? (fun x => decide (x.1 = Sum.inr z)) with
  | none => rfl
  | some x =>
    have h1 := List.find?_some e
    obtain ⟨y, hy, rfl⟩ := List.mem_map.mp (List.mem_of_find?_eq_some e)
    have h2 : (Sum.inr y : Key) = Sum.inr z := of_decide_eq_true h1
    rw [Sum.inr.inj h2] at hy
    exact absurd hy h
section
variable {P : Program} {w : World} {K : PySem.W.Frag} {mg : Str → Option Value} {base : Heap} {Cp : Addr}
theorem sc_has02 : FnScope ["self", "value"] ["self", "value"] (defScope (inClass (top 26) 14)) := ⟨rfl, rfl, rfl, by decide +kernel, rfl, by decide +kernel, by decide +kernel⟩
def hasP (ys : List Str) : V → Bool
  | .str z => decide (z ∈ ys)
  | _ => false
def spHas02 (K : PySem.W.Frag) (Cp : Addr) : Sp := fun vs H Q _ => ∃ x dx ys ys2 g o qs v, vs = [.ref x, v] ∧ PrAt Cp H x dx ys ys2 g o qs ∧ PrN ys ys2 g o qs ∧ ValOk K H v ∧ Q (.bl (hasP ys v)) H
theorem f_has02 {f : Addr} {fd : FuncData} (SP : SlotC K Cp) (F : FunAt K "__contains__" "Prices.__contains__" (inClass (top 26) 14) [] f fd) (c_is_sign : Cal P w K mg base 1 "is_sign" (spIsSign K)) : FnOk P w K mg base CX0 2 f fd ["self", "value"] (spHas02 K Cp) := by
  refine fnok_of F sc_has02 (fun vs H Q E h => ?_) (fun cdv A outer s H vs Q E hr h => ?_)
  · obtain ⟨_, _, _, _, _, _, _, _, rfl, _⟩ := h; rfl
  · obtain ⟨x, dx, ys, ys2, g, o, qs, v, rfl, hP, N, hv, hQ⟩ := h
    obtain ⟨p1, s1⟩ := SP.s1
    refine ⟨_, pss_one (ps_ret (pe_and (pe_c c_is_sign hr (by decide) (by rfl) (pa_cons (pv 1) pa_nil)) (pe_one (pe_cmp (pc_din (hu_of hr) (pv 1) (SlX.pe_sl (pv 0))))))), ?_⟩
    obtain ⟨PA, PB, PS, ws, hs, w1, w0, w2, nAB, hA, hB, hS⟩ := hP
    refine ⟨_, rfl, _, rfl, hv, _, rfl, ?_⟩
    cases e : isSign v with
    | false =>
      have : hasP ys v = false := by
        unfold hasP
        split
        · rename_i z
          refine decide_eq_false fun m => ?_
          rw [isSign_one (N.sg z m)] at e
          cases e
        · rfl
      rw [this] at hQ
      exact iteF hQ
    | true =>
      obtain ⟨z, rfl⟩ : ∃ z, v = .str z := by
        cases v <;> first | exact ⟨_, rfl⟩ | (unfold isSign at e; cases e)
      by_cases hz : z ∈ ys
      · have : hasP ys (.str z) = true := decide_eq_true hz
        rw [this] at hQ
        exact iteT ⟨_, rfl, _, rfl, x, Cp, dx, p1, ws, 1, _, rfl, .inr hs, SP.sc, s1, w1, PA, some (.int (g z)), rfl, .inl ⟨_, .inr z, .inl hA, rfl, (dkF_val N.nd g hz).symm⟩, hQ⟩
      · have : hasP ys (.str z) = false := decide_eq_false hz
        rw [this] at hQ
        exact iteT ⟨_, rfl, _, rfl, x, Cp, dx, p1, ws, 1, _, rfl, .inr hs, SP.sc, s1, w1, PA, none, rfl, .inl ⟨_, .inr z, .inl hA, rfl, (dkF_no g hz).symm⟩, hQ⟩
end
end MN
/-! dict comprehensions over the items of a dict; one of two readings -/
namespace MN
open PySem PySem.Spec PyProof.Rows L2
def tOr (t1 t2 : TE) : TE := fun σ H Q => t1 σ H Q ∨ t2 σ H Q
theorem pe_or2 {X : Cx} {e : Expr} {t1 t2 : TE} (h1 : PE X e t1) (h2 : PE X e t2) : PE X e (tOr t1 t2) := ⟨fun pins s σ H Q I h => h.elim (h1.run pins s σ H Q I) (h2.run pins s σ H Q I)⟩
section
variable {K : PySem.W.Frag} {d D : Addr} {ob : Obj} {H1 : Hp} {σ : L2.St} {vs : List Nat} {tk tv : TE} {j1 j2 : Nat} {Qd : Hp → Prop}
/-- {key: f(price) for key, price in items}, the keys being signs -/
theorem dp_itemsK {ys : List Str} {g : Str → Int} (f : Int → Int) (hs : H1 d = some (.frz ob (.dK (dkF ys g)))) (nd : ys.Nodup) (hz : ys.length ≤ 1000) (hD : H1 D = none)
    (hw : ∀ x y : V, wipe (((wipe σ vs).set j1 (some x)).set j2 (some y)) vs = wipe σ vs)
    (hk : ∀ y ∈ ys, ∀ H2, Same H1 H2 → ∀ Q : VK, Q (.str y) H2 → tk (((wipe σ vs).set j1 (some (.str y))).set j2 (some (.int (g y)))) H2 Q)
    (hv : ∀ y ∈ ys, ∀ H2, Same H1 H2 → ∀ Q : VK, (∀ H3, Same H2 H3 → Q (.int (f (g y))) H3) → tv (((wipe σ vs).set j1 (some (.str y))).set j2 (some (.int (g y)))) H2 Q)
    (hd : ∀ H', Same H1 H' → H' D = some (.dK (dkF ys fun y => f (g y))) → Qd H') : DcGoal (.dK []) (Iti d ob (dkF ys g)) (gTup K 2 (gCons (gName j1) (gCons (gName j2) gNil))) tYes tk tv vs σ H1 D Qd := by
  refine dp_it walk_items (fun i H' => Same H1 H' ∧ H' D = some (.dK (dkF (ys.take i) fun y => f (g y)))) ⟨same_new hD, by rw [List.take_zero]; exact upd_same⟩ (fun i H' _ e => e.1 _ _ hs) (fun i x H H' hi e y => ?_) (fun H' e => ?_)
  · obtain ⟨T, x1, y1, rfl, hT, rfl, h1, h2⟩ := y
    obtain ⟨e1, e2⟩ := e
    obtain ⟨z, hzi, rfl, rfl⟩ : ∃ z, ys[i]? = some z ∧ x1 = .str z ∧ y1 = .int (g z) := by
      replace h1 : (ys.map fun z => ((Sum.inr z : Key), V.int (g z)))[i]?.map (fun kv => kV kv.1) = some x1 := h1
      replace h2 : (ys.map fun z => ((Sum.inr z : Key), V.int (g z)))[i]?.map Prod.snd = some y1 := h2
      rw [List.getElem?_map] at h1 h2
      cases q : ys[i]? with
      | none => rw [q] at h1; cases h1
      | some z =>
        rw [q] at h1 h2
        exact ⟨z, rfl, (Option.some.inj h1).symm, (Option.some.inj h2).symm⟩
    have hm : z ∈ ys := List.mem_of_getElem? hzi
    have sT := same_new (o := .tup [.str z, .int (g z)]) hT
    have s1 := e1.trans sT
    refine ⟨T, _, rfl, .inl (.inl upd_same), rfl, _, _, rfl, _, _, rfl, rfl, hw _ _, yes_q (iteT (hk z hm _ s1 _ (hv z hm _ s1 _ fun H3 e3 => ⟨_, .inl ⟨_, .inr z, e3 _ _ (sT _ _ e2), rfl, ?_, rfl⟩, fun b o q => ?_, ?_⟩)))⟩
    · have : 100000 < sizeLine := by decide
      simp [dkF]
      omega
    · rw [upd_ne (ne_of_none q hD)]; exact e3 _ _ (s1 _ _ q)
    · rw [upd_same, dkF_put (fun y => f (g y)) nd hzi]
  · obtain ⟨e1, e2⟩ := e
    refine hd H' e1 ?_
    rw [show (dkF ys g).length = ys.length by simp [dkF], List.take_length] at e2
    exact e2
/-- the keys being pairs of signs -/
theorem dp_itemsT {ps : List ((Str × Str) × Int)} (f : Int → Int) (hs : H1 d = some (.frz ob (.dT (dtF ps)))) (nd : (ps.map Prod.fst).Nodup) (hz : ps.length ≤ 1000) (hD : H1 D = none)
    (hw : ∀ x y : V, wipe (((wipe σ vs).set j1 (some x)).set j2 (some y)) vs = wipe σ vs)
    (hk : ∀ p ∈ ps, ∀ q, ∀ H2, Same H1 H2 → ∀ Q : VK, Q (.ref q) H2 → tk (((wipe σ vs).set j1 (some (.ref q))).set j2 (some (.int p.2))) H2 Q)
    (hv : ∀ p ∈ ps, ∀ q, ∀ H2, Same H1 H2 → ∀ Q : VK, (∀ H3, Same H2 H3 → Q (.int (f p.2)) H3) → tv (((wipe σ vs).set j1 (some (.ref q))).set j2 (some (.int p.2))) H2 Q)
    (hd : ∀ H', Same H1 H' → H' D = some (.dT (dtF (ps.map fun p => (p.1, f p.2)))) → Qd H') : DcGoal (.dT []) (Itit d ob (dtF ps)) (gTup K 2 (gCons (gName j1) (gCons (gName j2) gNil))) tYes tk tv vs σ H1 D Qd := by
  have nd' : ((ps.map fun p => (p.1, f p.2)).map Prod.fst).Nodup := by rw [List.map_map]; exact nd
  refine dp_it walk_itemsT (fun i H' => Same H1 H' ∧ H' D = some (.dT (dtF ((ps.map fun p => (p.1, f p.2)).take i)))) ⟨same_new hD, by rw [List.take_zero]; exact upd_same⟩ (fun i H' _ e => e.1 _ _ hs) (fun i x H H' hi e y => ?_) (fun H' e => ?_)
  · obtain ⟨T, k1, v1, q, h1, rfl, hT, hq, rfl⟩ := y
    obtain ⟨e1, e2⟩ := e
    obtain ⟨⟨⟨x, y⟩, n⟩, hpi, rfl, rfl⟩ : ∃ p : (Str × Str) × Int, ps[i]? = some p ∧ k1 = [.inr p.1.1, .inr p.1.2] ∧ v1 = .int p.2 := by
      unfold dtF at h1
      rw [List.getElem?_map] at h1
      obtain ⟨p, hp, e⟩ := Option.map_eq_some_iff.mp h1
      exact ⟨p, hp, (congrArg Prod.fst e).symm, (congrArg Prod.snd e).symm⟩
    have hm : ((x, y), n) ∈ ps := List.mem_of_getElem? hpi
    have hi2 : (ps.map fun p => (p.1, f p.2))[i]? = some ((x, y), f n) := by rw [List.getElem?_map, hpi]; rfl
    have sT := same_new (o := .tup [.ref q, .int n]) hT
    have s1 := e1.trans sT
    refine ⟨T, _, rfl, .inl (.inl upd_same), rfl, _, _, rfl, _, _, rfl, rfl, hw _ _, yes_q (iteT (hk _ hm q _ s1 _ (hv _ hm q _ s1 _ fun H3 e3 => ⟨_, .inr ⟨_, [.inr x, .inr y], q, e3 _ _ (sT _ _ e2), rfl, e3 _ _ (sT _ _ hq), ?_, rfl⟩, fun b o z => ?_, ?_⟩)))⟩
    · have : 100000 < sizeLine := by decide
      simp [dtF]
      omega
    · rw [upd_ne (ne_of_none z hD)]; exact e3 _ _ (s1 _ _ z)
    · rw [upd_same, dtF_put nd' hi2]
  · obtain ⟨e1, e2⟩ := e
    refine hd H' e1 ?_
    rw [show (dtF ps).length = (ps.map fun p => (p.1, f p.2)).length by simp [dtF], List.take_length] at e2
    exact e2
end
end MN
/-! comprehensions each item of which is a new object (from Mat26) -/
namespace MN
open PySem PySem.Spec PyProof.Rows L2
/-- a comprehension each item of which is a new object -/
theorem lc_newF {J : It} {n : Nat} {G : Hp → Prop} {Y : Nat → Hp → V → Hp → Prop} (w : Walk J n G Y) (xs : List V) (hn : xs.length = n) (hz : n ≤ 1000) (hY : ∀ i H x H', i < n → Y i H x H' → H' = H ∧ xs[i]? = some x)
    {j : Nat} {te : TE} {vs : List Nat} {σ : L2.St} {H1 : Hp} {D : Addr} {Qd : Hp → Prop} (hD : H1 D = none) (hG : ∀ H', Same H1 H' → G H')
    (hw : ∀ x ∈ xs, wipe ((wipe σ vs).set j (some x)) vs = wipe σ vs)
    (R : Nat → Addr → Hp → Prop) (hR : ∀ k v H H', (∀ b o, b ≠ D → H b = some o → H' b = some o) → v ≠ D → R k v H → R k v H') (hE : ∀ k v H, R k v H → ∃ o, H v = some o)
    (he : ∀ (i : Nat) (x : V), xs[i]? = some x → ∀ H2, Same H1 H2 → (∃ o, H2 D = some o) → ∀ Q : VK, (∀ y H3, H2 y = none → Same H2 H3 → R i y H3 → Q (.ref y) H3) → te ((wipe σ vs).set j (some x)) H2 Q)
    (hd : ∀ (H' : Hp) (qs : List Addr), Same H1 H' → H' D = some (.lst (qs.map V.ref)) → qs.Nodup → D ∉ qs → qs.length = n → (∀ (k : Nat) (q : Addr), qs[k]? = some q → R k q H') → Qd H') : LcGoal J (gName j) tYes te vs σ H1 D Qd := by
  refine lc_it w (fun i H' => Same H1 H' ∧ ∃ qs : List Addr, H' D = some (.lst (qs.map V.ref)) ∧ qs.Nodup ∧ D ∉ qs ∧ qs.length = i ∧ ∀ (k : Nat) (v : Addr), qs[k]? = some v → R k v H') ⟨same_new hD, [], upd_same, List.nodup_nil, by simp, rfl, fun k v z => by simp at z⟩ (fun i H' _ e => hG _ e.1) (fun i x H H' hi e y => ?_) (fun H' e => ?_)
  · obtain ⟨rfl, hx⟩ := hY i H x H' hi y
    obtain ⟨e1, qs, e2, nd, nD, e3, e4⟩ := e
    refine ⟨hw _ (List.mem_of_getElem? hx), yes_q (iteT ?_)⟩
    refine he i _ hx _ e1 ⟨_, e2⟩ _ fun y H3 fy s3 r3 => ⟨qs.map V.ref, s3 _ _ e2, ?_, fun b o q => ?_, qs ++ [y], by rw [upd_same, List.map_append]; rfl, ?_, ?_, by rw [List.length_append, e3]; rfl, fun k v z => ?_⟩
    · have : 1000000 < sizeLine := by decide
      rw [List.length_map]
      omega
    · rw [upd_ne (ne_of_none q hD)]
      exact s3 _ _ (e1 _ _ q)
    · rw [List.nodup_append]
      refine ⟨nd, by simp, fun q hq q' hq' z => ?_⟩
      rw [List.mem_singleton.mp hq'] at z
      obtain ⟨k, hk⟩ := List.mem_iff_getElem?.mp hq
      obtain ⟨o, ho⟩ := hE _ _ _ (e4 k q hk)
      rw [z, fy] at ho
      cases ho
    · intro z
      rcases List.mem_append.mp z with z | z
      · exact nD z
      · rw [← List.mem_singleton.mp z, e2] at fy
        cases fy
    · have up : ∀ b o, b ≠ D → H3 b = some o → upd H3 D (.lst (qs.map V.ref ++ [.ref y])) b = some o := fun b o n q => by rw [upd_ne n]; exact q
      have yD : y ≠ D := fun z => by rw [z, e2] at fy; cases fy
      rcases Nat.lt_or_ge k qs.length with hk | hk
      · rw [List.getElem?_append_left hk] at z
        exact hR _ _ _ _ (fun b o n q => up b o n (s3 _ _ q)) (fun q => nD (by rw [← q]; exact List.mem_of_getElem? z)) (e4 k v z)
      · rw [List.getElem?_append_right hk] at z
        have hk2 : k - qs.length = 0 := by
          have := (List.getElem?_eq_some_iff.mp z).1
          simp at this
          omega
        rw [hk2] at z
        obtain rfl : y = v := by simpa using z
        obtain rfl : k = i := by omega
        exact hR _ _ _ _ up yD r3
  · obtain ⟨e1, qs, e2, nd, nD, e3, e4⟩ := e
    exact hd H' qs e1 e2 nd nD e3 e4
end MN
/-! records: one price more, one swap less, fewer signs, so many times (plain law) -/
namespace MN
open PySem PySem.Spec PyProof.Rows L2
abbrev SP2 : Type := (Str × Str) × Int
def putG (g : Str → Int) (z : Str) (n : Int) : Str → Int := fun y => if y = z then n else g y
def putP (ps : List SP2) (k : Str × Str) (n : Int) : List SP2 := if k ∈ ps.map Prod.fst then ps.map (fun e => if e.1 = k then (k, n) else e) else ps ++ [(k, n)]
def dropP (ps : List SP2) (k : Str × Str) : List SP2 := ps.filter fun e => decide (e.1 ≠ k)
def withinP (zs : List Str) (ps : List SP2) : List SP2 := ps.filter fun e => decide (e.1.1 ∈ zs) && decide (e.1.2 ∈ zs)
def timeP (m : Int) (ps : List SP2) : List SP2 := ps.map fun p => (p.1, p.2 * m)
theorem dkF_set {zs : List Str} (g : Str → Int) {z : Str} (hz : z ∈ zs) (n : Int) : putK (dkF zs g) (.inr z) (.int n) = dkF zs (putG g z n) := by
  have h1 : ((dkF zs g).any fun kv => decide (kv.1 = Sum.inr z)) = true := List.any_eq_true.mpr ⟨(Sum.inr z, V.int (g z)), List.mem_map.mpr ⟨z, hz, rfl⟩, decide_eq_true rfl⟩
  unfold putK
  rw [if_pos h1]
  unfold dkF
  rw [List.map_map]
  refine List.map_congr_left fun y _ => ?_
  show (if (Sum.inr y : Key) = Sum.inr z then _ else _) = _
  unfold putG
  by_cases e : y = z
  · rw [if_pos (by rw [e]), if_pos e]
  · rw [if_neg (fun q => e (Sum.inr.inj q)), if_neg e]
theorem kT_iff (e : Str × Str) (a b : Str) : ([Sum.inr e.1, Sum.inr e.2] : List Key) = [.inr a, .inr b] ↔ e = (a, b) := by
  constructor
  · intro h
    injection h with h1 h2
    injection h2 with h2 _
    exact Prod.ext (Sum.inr.inj h1) (Sum.inr.inj h2)
  · rintro rfl; rfl
theorem dtF_set (ps : List SP2) (a b : Str) (n : Int) : putK (dtF ps) [.inr a, .inr b] (.int n) = dtF (putP ps (a, b) n) := by
  unfold putK putP
  by_cases h : (a, b) ∈ ps.map Prod.fst
  · rw [if_pos h, if_pos]
    · unfold dtF
      rw [List.map_map, List.map_map]
      refine List.map_congr_left fun e _ => ?_
      show (if ([Sum.inr e.1.1, Sum.inr e.1.2] : List Key) = [.inr a, .inr b] then _ else _) = _
      by_cases q : e.1 = (a, b)
      · rw [if_pos ((kT_iff e.1 a b).mpr q)]
        simp [q]
      · rw [if_neg (fun z => q ((kT_iff e.1 a b).mp z))]
        simp [q]
    · obtain ⟨e, he, q⟩ := List.mem_map.mp h
      exact List.any_eq_true.mpr ⟨_, List.mem_map.mpr ⟨e, he, rfl⟩, decide_eq_true ((kT_iff e.1 a b).mpr q)⟩
  · rw [if_neg h, if_neg]
    · simp [dtF]
    · intro q
      obtain ⟨kv, h1, h2⟩ := List.any_eq_true.mp q
      obtain ⟨e, he, rfl⟩ := List.mem_map.mp h1
      exact h (List.mem_map.mpr ⟨e, he, (kT_iff e.1 a b).mp (of_decide_eq_true h2)⟩)
theorem dtF_drop (ps : List SP2) (a b : Str) : dropK (dtF ps) [.inr a, .inr b] = dtF (dropP ps (a, b)) := by
  unfold dropK dropP dtF
  rw [List.filter_map]
  congr 1
  refine List.filter_congr fun e _ => ?_
  show decide (([Sum.inr e.1.1, Sum.inr e.1.2] : List Key) ≠ [.inr a, .inr b]) = _
  exact decide_eq_decide.mpr (not_congr (kT_iff e.1 a b))
theorem dropP_no {ps : List SP2} {k : Str × Str} (h : k ∉ ps.map Prod.fst) : dropP ps k = ps :=
  List.filter_eq_self.mpr fun e he => decide_eq_true fun q => h (List.mem_map.mpr ⟨e, he, q⟩)
theorem putP_perm {ps qs : List SP2} (h : ps.Perm qs) (k : Str × Str) (n : Int) : (putP ps k n).Perm (putP qs k n) := by
  unfold putP
  by_cases q : k ∈ ps.map Prod.fst
  · rw [if_pos q, if_pos ((h.map _).mem_iff.mp q)]; exact h.map _
  · rw [if_neg q, if_neg fun z => q ((h.map _).mem_iff.mpr z)]; exact h.append_right _
theorem putP_keys (ps : List SP2) (k : Str × Str) (n : Int) : (putP ps k n).map Prod.fst = if k ∈ ps.map Prod.fst then ps.map Prod.fst else ps.map Prod.fst ++ [k] := by
  unfold putP
  by_cases q : k ∈ ps.map Prod.fst
  · rw [if_pos q, if_pos q, List.map_map]
    refine List.map_congr_left fun e _ => ?_
    show (if e.1 = k then (k, n) else e).1 = e.1
    by_cases z : e.1 = k
    · rw [if_pos z]; exact z.symm
    · rw [if_neg z]
  · rw [if_neg q, if_neg q, List.map_append]; rfl
theorem putP_nd {ps : List SP2} (nd : (ps.map Prod.fst).Nodup) (k : Str × Str) (n : Int) : ((putP ps k n).map Prod.fst).Nodup := by
  rw [putP_keys]
  by_cases q : k ∈ ps.map Prod.fst
  · rw [if_pos q]; exact nd
  · rw [if_neg q]
    exact List.nodup_append.mpr ⟨nd, List.nodup_cons.mpr ⟨List.not_mem_nil, List.nodup_nil⟩, fun a ha b hb e => q (by rw [List.mem_singleton.mp hb] at e; rw [← e]; exact ha)⟩
theorem putP_mem {ps : List SP2} {k : Str × Str} {n : Int} {x : SP2} (h : x ∈ putP ps k n) : x = (k, n) ∨ x ∈ ps := by
  unfold putP at h
  by_cases q : k ∈ ps.map Prod.fst
  · rw [if_pos q] at h
    obtain ⟨e, he, r⟩ := List.mem_map.mp h
    by_cases z : e.1 = k
    · rw [if_pos z] at r; exact .inl r.symm
    · rw [if_neg z] at r; rw [← r]; exact .inr he
  · rw [if_neg q] at h
    rcases List.mem_append.mp h with h | h
    · exact .inr h
    · exact .inl (List.mem_singleton.mp h)
theorem filt_nd {ps : List SP2} (nd : (ps.map Prod.fst).Nodup) (f : SP2 → Bool) : ((ps.filter f).map Prod.fst).Nodup := nd.sublist (List.filter_sublist.map _)
theorem len25 {zs : List Str} {ps : List SP2} (h5 : zs.length ≤ 5) (nd : (ps.map Prod.fst).Nodup) (h : ∀ x ∈ ps, x.1.1 ∈ zs ∧ x.1.2 ∈ zs) : ps.length ≤ 100 := by
  have h1 := len_sub (m := zs.flatMap fun x => zs.map fun y => (x, y)) nd fun e he => by
    obtain ⟨x, hx, rfl⟩ := List.mem_map.mp he
    exact List.mem_flatMap.mpr ⟨x.1.1, (h x hx).1, List.mem_map.mpr ⟨x.1.2, (h x hx).2, rfl⟩⟩
  have e : ∀ (l m : List Str), (l.flatMap fun x => m.map fun y => (x, y)).length = l.length * m.length := by
    intro l m
    induction l with
    | nil => simp
    | cons a l ih => rw [List.flatMap_cons, List.length_append, ih, List.length_map, List.length_cons, Nat.add_mul, Nat.one_mul, Nat.add_comm]
  rw [e, List.length_map] at h1
  have := Nat.mul_le_mul h5 h5
  omega
section
variable {zs zs2 : List Str} {g o : Str → Int} {ps : List SP2}
theorem PrN.setG (N : PrN zs zs2 g o ps) {z : Str} {n : Int} (n1 : 1 ≤ n) (n9 : n ≤ 9) : PrN zs zs2 (putG g z n) o ps :=
by
  refine { N with pg := fun y hy => ?_ }
  unfold putG
  by_cases e : y = z
  · rw [if_pos e]; exact ⟨n1, n9⟩
  · rw [if_neg e]; exact N.pg y hy
theorem PrN.setO (N : PrN zs zs2 g o ps) {z : Str} {n : Int} (n1 : 1 ≤ n) (n9 : n ≤ 9) : PrN zs zs2 g (putG o z n) ps :=
by
  refine { N with po := fun y hy => ?_ }
  unfold putG
  by_cases e : y = z
  · rw [if_pos e]; exact ⟨n1, n9⟩
  · rw [if_neg e]; exact N.po y hy
theorem PrN.setP (N : PrN zs zs2 g o ps) {a b : Str} {n : Int} (ha : a ∈ zs) (hb : b ∈ zs) (ne : a ≠ b) (n1 : 1 ≤ n) (n9 : n ≤ 18) : PrN zs zs2 g o (putP ps (a, b) n) := by
  have sp : ∀ x ∈ putP ps (a, b) n, x.1.1 ∈ zs ∧ x.1.2 ∈ zs ∧ x.1.1 ≠ x.1.2 ∧ 1 ≤ x.2 ∧ x.2 ≤ 18 := fun x hx => by
    rcases putP_mem hx with rfl | h
    · exact ⟨ha, hb, ne, n1, n9⟩
    · exact N.sp x h
  exact { N with sn := putP_nd N.sn _ _, sp := sp, sl := len25 N.le (putP_nd N.sn _ _) fun x hx => ⟨(sp x hx).1, (sp x hx).2.1⟩ }
theorem PrN.filtP (N : PrN zs zs2 g o ps) (f : SP2 → Bool) : PrN zs zs2 g o (ps.filter f) :=
  { N with sn := filt_nd N.sn f, sp := fun x hx => N.sp x ((List.mem_filter.mp hx).1), sl := Nat.le_trans (List.length_filter_le ..) N.sl }
theorem PrN.within (N : PrN zs zs2 g o ps) {ws : List Str} (hs : ∀ z ∈ ws, z ∈ zs) (nd : ws.Nodup) (pos : 0 < ws.length) : PrN ws ws g o (withinP ws ps) := by
  have l5 : ws.length ≤ 5 := Nat.le_trans (len_sub nd hs) N.le
  exact ⟨fun z h => N.sg z (hs z h), nd, pos, l5, List.Perm.refl _, fun z h => N.pg z (hs z h), fun z h => N.po z (hs z h), filt_nd N.sn _, fun x hx => by
    unfold withinP at hx
    obtain ⟨h1, h2⟩ := List.mem_filter.mp hx
    rw [Bool.and_eq_true] at h2
    exact ⟨of_decide_eq_true h2.1, of_decide_eq_true h2.2, (N.sp x h1).2.2⟩, Nat.le_trans (List.length_filter_le ..) N.sl⟩
theorem timeP_keys (m : Int) (ps : List SP2) : (timeP m ps).map Prod.fst = ps.map Prod.fst := by unfold timeP; rw [List.map_map]; rfl
theorem PrN.time (N : PrN zs zs2 g o ps) {m : Int} (m1 : 1 ≤ m) (hg : ∀ z ∈ zs, g z * m ≤ 9) (ho : ∀ z ∈ zs, o z * m ≤ 9) (hp : ∀ x ∈ ps, x.2 * m ≤ 18) : PrN zs zs2 (fun z => g z * m) (fun z => o z * m) (timeP m ps) := by
  have up : ∀ n : Int, 1 ≤ n → 1 ≤ n * m := fun n h => by
    have := Int.mul_le_mul h m1 (by decide) (by omega)
    omega
  refine { N with pg := fun z h => ⟨up _ (N.pg z h).1, hg z h⟩, po := fun z h => ⟨up _ (N.po z h).1, ho z h⟩, sn := by rw [timeP_keys]; exact N.sn, sp := fun x hx => ?_, sl := by unfold timeP; rw [List.length_map]; exact N.sl }
  unfold timeP at hx
  obtain ⟨e, he, rfl⟩ := List.mem_map.mp hx
  obtain ⟨a, b, c, d, _⟩ := N.sp e he
  exact ⟨a, b, c, up _ d, hp e he⟩
end
end MN
/-! the class Prices of k02; __eq__ with a list or an int; str(x) by an own __str__ -/
namespace MN
open PySem PySem.Spec PyProof.Rows L2
section
variable {prog : Program} {w : World} {A : Around} {E : Value → Shared → Prop} {s : Shared} {K : PySem.W.Frag} {x C f : Addr} {ox : Obj} {od : Option Obj}
theorem strOf_own {Q : Value → Shared → Prop} (u : A.units < cLine) (X : K.In s.heap) (I : PySem.W.InstAt s.heap x ox C od) (hs : PySem.W.findIn K (.ref C) "__str__" = some (some (.ref f))) (hf : PySem.W.isFn K (.ref f) = true)
    (h : wpAny (model prog w) A (call (.ref f) [.ref x]) (fun r s' => ∃ z t, r = .str z t ∧ Q (.str z t) s') E s) : wpAny (model prog w) A (Builtin.Str.strOf (.ref x)) Q E s := by
  unfold Builtin.Str.strOf
  show wpAny _ _ (if false = true then _ else _) _ _ _
  rw [if_neg (by decide)]
  refine wpAny_bind (m := cRoomFor _ _) (wpAny_cRoomFor u ?_)
  refine wpAny_bind (m := callSpecial? (.ref x) (Str.ofString "__str__")) (PySem.W.special_fn X I hs (beq_iff_eq.mp hf) (wpAny_mono h (fun r s' hr => ?_) fun _ _ y => y))
  obtain ⟨z, t, rfl, q⟩ := hr
  exact wpAny_bind (wpAny_pure (wpAny_pure q))
theorem str_own {Q : Value → Shared → Prop} (u : A.in1.in1.units < cLine) (X : K.In s.heap) (I : PySem.W.InstAt s.heap x ox C od) (hs : PySem.W.findIn K (.ref C) "__str__" = some (some (.ref f))) (hf : PySem.W.isFn K (.ref f) = true)
    (h : wpAny (model prog w) A.in1.in1 (call (.ref f) [.ref x]) (fun r s' => ∃ z t, r = .str z t ∧ Q (.str z t) s') E s) : wpAny (model prog w) A (call (.type "str") [.ref x]) Q E s := by
  refine callType_newIn (S := fun A R s => wpAny (model prog w) A.in1 (Builtin.Str.strOf (.ref x)) (fun r s' => R (.ok (.ret r)) s') (fun e s' => R (.error e) s') s) F.called_str (by decide) (F.typeCall_str_1 _) (F.newCall_str_1 _) (fun obj => F.args_object_init_2 obj _) F.entry_str_new ?_ ?_
  · refine MeetsIn.of_wp fun A R s h => ?_
    rw [str_new_tree (.ref x)]
    refine wpAny_bind (wpAny_pure ?_)
    refine wpAny_bind (wpAny_of_eq isSubtype_str_str ?_)
    exact wpAny_bind (wpAny_mono h (fun r s' h' => wpAny_pure ⟨_, rfl, h'⟩) fun _ _ e => e)
  · refine strOf_own u X I hs hf (wpAny_mono h (fun r s' hr => ?_) fun _ _ y => y)
    obtain ⟨z, t, rfl, q⟩ := hr
    exact ⟨z, t, rfl, typeIs_str _ _ _, q⟩
end
section
variable {X : Cx}
def rStrOwn (C : Addr) (sp : Sp) (E : XK) : List V → Hp → VK → Prop := fun xs H Q => ∃ a dx vs, xs = [.ref a] ∧ SlX.Slt H a C dx vs ∧ sp [.ref a] H (fun v H' => ∃ z, v = .str z ∧ Q (.str z) H') E
theorem call_strOwn {CX : CXT} {n : Nat} {C g : Addr} {sp : Sp} {E : XK} (hs : PySem.W.findIn X.K (.ref C) "__str__" = some (some (.ref g))) (hf : PySem.W.isFn X.K (.ref g) = true) (F : FnR X.prog X.w X.K X.mg X.base CX n g sp) (hr : Room (n + 2) X.A) (hx : Passes CX X E) : CallR X (.type "str") (rStrOwn C sp E) := by
  intro pins s σ H xs us Q I r h
  obtain ⟨a, dx, vs, rfl, hsl, q⟩ := h
  obtain ⟨u, rfl, ru⟩ := r.one
  cases (show u = Value.ref a from ru)
  obtain ⟨sl, od, _, J, _⟩ := SlX.slt_inst I hsl
  have hr1 : Room (n + 1) X.A.in1 := Room.in1 hr
  have hr2 : Room n X.A.in1.in1 := Room.in1 hr1
  refine str_own hr2.units0 I.kIn J hs hf (wpAny_mono (wpAny_call (SlX.run_at (us := [.ref a]) (ws := [.ref a]) F hr2 I.env0.in1.in1 hx I (.cons rfl .nil) q)) (fun w s' z => ?_) fun _ _ x => x)
  obtain ⟨z', H', I', rz, i, ei, qz⟩ := z
  subst ei
  obtain ⟨t, e⟩ := (show ∃ t, w = Value.str i t from rz)
  cases e
  exact ⟨i, t, rfl, .str i, H', I', ⟨_, rfl⟩, qz⟩
end
/-- the class Prices of k02 -/
structure PrD (K : PySem.W.Frag) (mg : Str → Option Value) (Cp : Addr) : Prop where
  sp : SlotC K Cp
  gp : mg "Prices" = some (.ref Cp)
  ip : ∃ f fd, Mk K Cp f ∧ FunAt K "__init__" "Prices.__init__" (inClass (top 26) 1) [] f fd
  si : SlX.SIsi K Cp
  isP : PySem.W.kitOne K (.ref Cp) (.ref Cp) = some true
  isL : PySem.W.kitOne K (.type "list") (.ref Cp) = some false
  isI : PySem.W.kitOne K (.type "int") (.ref Cp) = some false
  pput : ∃ p g fd, PropOf K Cp "put" p g ∧ FunAt K "put" "Prices.put" (inClass (top 26) 4) [] g fd
  pout : ∃ p g fd, PropOf K Cp "out" p g ∧ FunAt K "out" "Prices.out" (inClass (top 26) 5) [] g fd
  pswap : ∃ p g fd, PropOf K Cp "swap" p g ∧ FunAt K "swap" "Prices.swap" (inClass (top 26) 6) [] g fd
  psig : ∃ p g fd, PropOf K Cp "signs" p g ∧ FunAt K "signs" "Prices.signs" (inClass (top 26) 3) [] g fd
  psml : ∃ p g fd, PropOf K Cp "smallest" p g ∧ FunAt K "smallest" "Prices.smallest" (inClass (top 26) 7) [] g fd
  eq : ∃ g fd, PySem.W.findIn K (.ref Cp) "__eq__" = some (some (.ref g)) ∧ PySem.W.isFn K (.ref g) = true ∧ FunAt K "__eq__" "Prices.__eq__" (inClass (top 26) 16) [] g fd
  ne : PySem.W.findIn K (.ref Cp) "__ne__" = some (some (.builtin "object.__ne__"))
  ob : PySem.W.subIn K (.ref Cp) (.type "object") = some true
  nfl : PySem.W.notFirst K Cp (.type "list") = true
  nfi : PySem.W.notFirst K Cp (.type "int") = true
  nfp : PySem.W.notFirst K Cp (.ref Cp) = true
  len : ∃ g fd, PySem.W.findIn K (.ref Cp) "__len__" = some (some (.ref g)) ∧ PySem.W.isFn K (.ref g) = true ∧ FunAt K "__len__" "Prices.__len__" (inClass (top 26) 15) [] g fd
  con : ∃ g fd, PySem.W.findIn K (.ref Cp) "__contains__" = some (some (.ref g)) ∧ PySem.W.isFn K (.ref g) = true ∧ FunAt K "__contains__" "Prices.__contains__" (inClass (top 26) 14) [] g fd
  st : ∃ g fd, PySem.W.findIn K (.ref Cp) "__str__" = some (some (.ref g)) ∧ PySem.W.isFn K (.ref g) = true ∧ FunAt K "__str__" "Prices.__str__" (inClass (top 26) 17) [] g fd
  wp : ∃ g fd, Meth K Cp "with_price" g ∧ FunAt K "with_price" "Prices.with_price" (inClass (top 26) 11) [] g fd
  lim : ∃ g fd, Meth K Cp "limited" g ∧ FunAt K "limited" "Prices.limited" (inClass (top 26) 12) [] g fd
  tim : ∃ g fd, Meth K Cp "times" g ∧ FunAt K "times" "Prices.times" (inClass (top 26) 13) [] g fd
  ev : EvnC K Cp
section
variable {P : Program} {w : World} {K : PySem.W.Frag} {mg : Str → Option Value} {base : Heap} {Cp : Addr}
/-- == with prices, a list, an int -/
def spEqA (K : PySem.W.Frag) (Cp : Addr) : Sp := fun vs H Q _ => ∃ x dx ys ys2 g o qs v, vs = [.ref x, v] ∧ PrAt Cp H x dx ys ys2 g o qs ∧ ((∃ y dy zs zs2 g' o' ps, v = .ref y ∧ PrAt Cp H y dy zs zs2 g' o' ps ∧ Q (.bl (eqPr ys ys2 g o qs zs zs2 g' o' ps)) H) ∨
  (∃ t, (t = Value.type "list" ∨ t = Value.type "int") ∧ TyX K H v t ∧ Q (.bl false) H))
theorem f_peqA {f : Addr} {fd : FuncData} (PD : PrD K mg Cp) (F : FunAt K "__eq__" "Prices.__eq__" (inClass (top 26) 16) [] f fd) (B : Blt mg) : FnOk P w K mg base CX0 1 f fd ["self", "other"] (spEqA K Cp) := by
  have SP := PD.sp
  refine fnok_of F sc_peq (fun vs H Q E h => ?_) (fun cdv A outer s H vs Q E hr h => ?_)
  · obtain ⟨_, _, _, _, _, _, _, _, rfl, _⟩ := h; rfl
  · obtain ⟨x, dx, ys, ys2, g, o, qs, v, rfl, hP, hQ⟩ := h
    have GF : GlC mg "Prices" (.ref Cp) := ⟨_, PD.gp, rfl⟩
    obtain ⟨p1, s1⟩ := SP.s1
    obtain ⟨p0, s0⟩ := SP.s0
    obtain ⟨p2, s2⟩ := SP.s2
    refine ⟨_, pss_one (ps_ret (pe_and (pe_or2 (pe_callB (SlX.call_isiSl (.ref Cp)) (by rfl) B.isinstance (by decide +kernel) (pa_cons (pv 1) (pa_cons (pe_gl (by rfl) GF) pa_nil))) (pe_callB call_isi (by rfl) B.isinstance (by decide +kernel) (pa_cons (pv 1) (pa_cons (pe_gl (by rfl) GF) pa_nil))))
      (pe_and (pe_cmpR (op_eqDK hr.units) (SlX.pe_sl (pv 0)) (SlX.pe_sl (pv 1)) (nomark _)) (pe_and (pe_cmpR (op_eqDK hr.units) (SlX.pe_sl (pv 0)) (SlX.pe_sl (pv 1)) (nomark _)) (pe_one (pe_cmpR (op_eqDT hr.units) (SlX.pe_sl (pv 0)) (SlX.pe_sl (pv 1)) (nomark _))))))), ?_⟩
    rcases hQ with ⟨y, dy, zs, zs2, g', o', ps, rfl, hP', hQ⟩ | ⟨t, ht, ty, hQ⟩
    · obtain ⟨PA, PB, PS, ws, hs, w1, w0, w2, nAB, hA, hB, hS⟩ := hP
      obtain ⟨PA', PB', PS', ws', hs', w1', w0', w2', nAB', hA', hB', hS'⟩ := hP'
      refine .inl ⟨_, rfl, y, Cp, dy, ws', _, true, rfl, rfl, fun w e => e, .inr hs', SP.sc, PD.si, PD.isP, ?_⟩
      rw [dkF_kI] at hA hB hA' hB'
      rw [dtF_kT] at hS hS'
      refine ⟨true, rfl, ?_⟩
      rw [if_pos rfl]
      refine ⟨_, rfl, x, Cp, dx, p1, ws, 1, _, rfl, .inr hs, SP.sc, s1, w1, _, rfl, y, Cp, dy, p1, ws', 1, _, rfl, .inr hs', SP.sc, s1, w1', PA, PA', _, _, rfl, rfl, hA, hA', ?_⟩
      refine ⟨_, rfl, ?_⟩
      unfold eqPr at hQ
      cases e1 : eqKv (kI ys g) (kI zs g') with
      | false =>
        rw [e1, Bool.false_and] at hQ
        rw [if_neg (by decide)]
        exact hQ
      | true =>
        rw [e1, Bool.true_and] at hQ
        rw [if_pos rfl]
        refine ⟨_, rfl, x, Cp, dx, p0, ws, 0, _, rfl, .inr hs, SP.sc, s0, w0, _, rfl, y, Cp, dy, p0, ws', 0, _, rfl, .inr hs', SP.sc, s0, w0', PB, PB', _, _, rfl, rfl, hB, hB', ?_⟩
        refine ⟨_, rfl, ?_⟩
        cases e2 : eqKv (kI ys2 o) (kI zs2 o') with
        | false =>
          rw [e2, Bool.false_and] at hQ
          rw [if_neg (by decide)]
          exact hQ
        | true =>
          rw [e2, Bool.true_and] at hQ
          rw [if_pos rfl]
          exact ⟨_, rfl, x, Cp, dx, p2, ws, 2, _, rfl, .inr hs, SP.sc, s2, w2, _, rfl, y, Cp, dy, p2, ws', 2, _, rfl, .inr hs', SP.sc, s2, w2', PS, PS', _, _, rfl, rfl, hS, hS', hQ⟩
    · refine .inr ⟨_, rfl, v, .ref Cp, t, .ref Cp, false, rfl, .own Cp, ty, ?_, false, rfl, iteF hQ⟩
      rcases ht with rfl | rfl
      · exact PD.isL
      · exact PD.isI
end
end MN
/-! is_kind_of_change of what is one -/
namespace MN
open PySem PySem.Spec PyProof.Rows L2
theorem iteDT {p : Prop} [Decidable p] {Q R : Prop} (h : p) (q : Q) : if decide p = true then Q else R := by rw [if_pos (decide_eq_true h)]; exact q
theorem iteDF {p : Prop} [Decidable p] {Q R : Prop} (h : ¬ p) (r : R) : if decide p = true then Q else R := by rw [if_neg (by rw [decide_eq_false h]; decide)]; exact r
section
variable {P : Program} {w : World} {K : PySem.W.Frag} {mg : Str → Option Value} {base : Heap}
def KindV (K : PySem.W.Frag) (H : Hp) (t : Addr) (kvs : List (Key × V)) : Prop := (∃ c z, SqT K H t [.str c, .str z] ∧ (c = "put" ∨ c = "out") ∧ isSign (.str z) = true ∧ ∃ v, valV kvs (.inr z) = some v) ∨
  ∃ x y, SqT K H t [.str "swap", .str x, .str y] ∧ isSign (.str x) = true ∧ isSign (.str y) = true ∧ (∃ v, valV kvs (.inr x) = some v) ∧ (∃ v, valV kvs (.inr y) = some v) ∧ x ≠ y
def spKic (K : PySem.W.Frag) : Sp := fun vs H Q _ => ∃ t d kvs, vs = [.ref t, .ref d] ∧ KindV K H t kvs ∧ H d = some (.dK kvs) ∧ ∀ H', Same H H' → Q (.bl true) H'
theorem sc_kic : FnScope ["value", "signs"] ["value", "signs"] (defScope (top 25)) := ⟨rfl, rfl, rfl, by decide +kernel, rfl, by decide +kernel, by decide +kernel⟩
theorem c_kic (A : At K mg "is_kind_of_change" (top 25)) (B : Blt mg) (GS : GlC mg "SWAP" (.str "swap")) (GP : GlC mg "PUT" (.str "put")) (GO : GlC mg "OUT" (.str "out")) (c_is_sign : Cal P w K mg base 1 "is_sign" (spIsSign K)) (c_is_pair : Cal P w K mg base 2 "is_pair" (spIsPair K)) : Cal P w K mg base 3 "is_kind_of_change" (spKic K) := by
  refine cal_of A sc_kic (fun _ _ _ _ _ _ us hl => match us, hl with | [_, _], _ => rfl) (fun vs H Q E h => ?_) (fun f cdv A outer s H vs Q E hr h => ?_)
  · obtain ⟨_, _, _, rfl, _⟩ := h; rfl
  · obtain ⟨t, d, kvs, rfl, hk, hd, hQ⟩ := h
    refine ⟨_, (pss_cons (ps_if (PW.pt (pw_or (pt_not (pt_val (pe_callB call_isS (by rfl) B.isinstance (by decide +kernel) (pa_cons (pv 0) (pa_cons (pe_bltn (v := .ty "tuple") (by rfl) B.tuple (by decide +kernel) rfl) pa_nil))))) (pw_or (pt_cmpR op_eq (pe_callB call_len_seq (by rfl) B.len (by decide +kernel) (pa_cons (pv 0) pa_nil)) pe_int (nomark _)) (pw_or1 (pt_not (pt_val (pe_callB call_isS (by rfl) B.isinstance (by decide +kernel) (pa_cons (pe_ix ix_tup (pv 0) pe_int (fun _ _ => rfl)) (pa_cons (pe_bltn (v := .ty "str") (by rfl) B.str (by decide +kernel) rfl) pa_nil)))))))))
      (pss_one (ps_ret pe_bl))
      pss_nil)
      (pss_cons (ps_if (pt_cmpR op_eq (pe_ix ix_tup (pv 0) pe_int (fun _ _ => rfl)) (pe_gl (by rfl) GS) (nomark _))
      (pss_one (ps_ret (pe_c c_is_pair hr (by decide) (by rfl) (pa_cons (pe_slice sl_tup (pv 0) (po_some pe_int) po_none) (pa_cons (pv 1) pa_nil)))))
      pss_nil)
      (pss_one (ps_ret (pe_and (pe_cmpR op_in_seq (pe_ix ix_tup (pv 0) pe_int (fun _ _ => rfl)) (pe_tup (pa_cons (pe_gl (by rfl) GP) (pa_cons (pe_gl (by rfl) GO) pa_nil))) (by rfl)) (pe_and (pe_cmpR op_eq (pe_callB call_len_seq (by rfl) B.len (by decide +kernel) (pa_cons (pv 0) pa_nil)) pe_int (nomark _)) (pe_and (pe_c c_is_sign hr (by decide) (by rfl) (pa_cons (pe_ix ix_tup (pv 0) pe_int (fun _ _ => rfl)) pa_nil)) (pe_one (pe_cmp (pc_din (hu_of hr) (pe_ix ix_tup (pv 0) pe_int (fun _ _ => rfl)) (pv 1)) rfl))))))))), ?_⟩
    rcases hk with ⟨c, z, ht, hc, sz, ⟨v1, g1⟩⟩ | ⟨x, y, ht, sx, sy, g1, g2, ne⟩
    · refine ⟨_, rfl, .ref t, "tuple", true, rfl, .ty (tyT ht) (by decide +kernel), _, rfl, iteF ?_⟩
      refine ⟨_, rfl, t, _, rfl, .inr ht, rfl, _, rfl, iteF ?_⟩
      refine ⟨_, rfl, t, _, _, _, rfl, rfl, ht, rfl, _, "str", true, rfl, IsX.str, _, rfl, iteF ?_⟩
      refine ⟨_, rfl, t, _, _, _, rfl, rfl, ht, rfl, rfl, _, rfl, ?_⟩
      refine iteDF (fun q => by injection q with q; subst q; revert hc; decide +kernel) ?_
      refine ⟨_, rfl, t, _, _, _, rfl, rfl, ht, rfl, (by show 2 ≤ sizeLine; decide), fun p hp => ?_⟩
      have e1 := same_new (o := .tup [.str "put", .str "out"]) hp
      have ht1 := Same.seqT e1 ht
      refine ⟨p, _, rfl, .inr (.inl (.inl upd_same)), rfl, rfl, true, ?_, iteT ?_⟩
      · rcases hc with rfl | rfl <;> congr 1
      refine ⟨_, rfl, t, _, rfl, .inr ht1, rfl, true, rfl, iteT ?_⟩
      refine ⟨_, rfl, t, _, _, _, rfl, rfl, ht1, rfl, _, rfl, .str (by rw [(show z.length = 1 by simp [isSign] at sz; exact sz.1)]; decide), ?_⟩
      rw [sz]
      refine ⟨true, rfl, iteT ?_⟩
      refine ⟨_, rfl, t, _, _, _, rfl, rfl, ht1, rfl, _, rfl, d, some v1, rfl, .inl ⟨kvs, .inr z, .inl (e1 _ _ hd), rfl, g1.symm⟩, ?_⟩
      exact hQ _ e1
    · refine ⟨_, rfl, .ref t, "tuple", true, rfl, .ty (tyT ht) (by decide +kernel), _, rfl, iteF ?_⟩
      refine ⟨_, rfl, t, _, rfl, .inr ht, rfl, _, rfl, iteF ?_⟩
      refine ⟨_, rfl, t, _, _, _, rfl, rfl, ht, rfl, _, "str", true, rfl, IsX.str, _, rfl, iteF ?_⟩
      refine ⟨_, rfl, t, _, _, _, rfl, rfl, ht, rfl, rfl, _, rfl, iteDT rfl ?_⟩
      refine ⟨_, rfl, _, rfl, t, _, rfl, ht, (fun q => absurd (show HT.sIx 3 0 (some 1) = 0 from q.1) (by decide)), fun p hp => ?_⟩
      have e1 := same_new (o := .tup (cutV [.str "swap", .str x, .str y] (some 1) none)) hp
      have u1 : upd H p (.tup (cutV [.str "swap", .str x, .str y] (some 1) none)) p = some (.tup [.str x, .str y]) := upd_same
      exact ⟨_, rfl, p, d, x, y, kvs, rfl, .inl (.inl u1), e1 _ _ hd, sx, sy, g1, g2, ne, fun H' e' => hQ _ (e1.trans e')⟩
end
end MN
/-! Prices.with_price of right kinds and prices -/
namespace MN
open PySem PySem.Spec PyProof.Rows L2
theorem PrS.mk' {Cp : Addr} {H : Hp} {x dx : Addr} {ys zs : List Str} {g o : Str → Int} {qs ps : List SP2} (h1 : PrAt Cp H x dx ys ys g o qs) (h2 : PrN ys ys g o qs) (h3 : ys.Perm zs) (h4 : ys.Pairwise fun a b => sL a < sL b) (h5 : qs.Perm ps) (h6 : qs.Pairwise fun a b => kLt a.1 b.1) : PrS Cp H x zs g o ps := ⟨dx, ys, qs, h1, h2, h3, h4, h5, h6⟩
theorem perm_sorted {ys zs : List Str} (h : ys.Perm zs) {ys' : List Str} (h' : ys'.Perm ys) : ys'.Perm zs := h'.trans h
def tabs3 (d1 d2 d3 : Addr) : List (Key × V) := [(.inr "put", .ref d1), (.inr "out", .ref d2), (.inr "swap", .ref d3)]
section
variable {P : Program} {w : World} {K : PySem.W.Frag} {mg : Str → Option Value} {base : Heap} {Cp : Addr}
/-- the properties, as they are read -/
theorem r_props2 (PD : PrD K mg Cp) (B : Blt mg) : (∃ p g, PropOf K Cp "put" p g ∧ FnR P w K mg base CX0 1 g (fun vs H Q E => spPut0 Cp (vs ++ []) H Q E)) ∧ (∃ p g, PropOf K Cp "out" p g ∧ FnR P w K mg base CX0 1 g (fun vs H Q E => spOut0 Cp (vs ++ []) H Q E)) ∧ ∃ p g, PropOf K Cp "swap" p g ∧ FnR P w K mg base CX0 1 g (fun vs H Q E => spSwap0 Cp (vs ++ []) H Q E) := by
  obtain ⟨p1, g1, fd1, h1, F1⟩ := PD.pput
  obtain ⟨p2, g2, fd2, h2, F2⟩ := PD.pout
  obtain ⟨p3, g3, fd3, h3, F3⟩ := PD.pswap
  have b1 := FunD.bindsN (ps := ["self"]) F1 fun _ _ _ _ _ _ us hl => match us, hl with | [_], _ => rfl
  have b2 := FunD.bindsN (ps := ["self"]) F2 fun _ _ _ _ _ _ us hl => match us, hl with | [_], _ => rfl
  have b3 := FunD.bindsN (ps := ["self"]) F3 fun _ _ _ _ _ _ us hl => match us, hl with | [_], _ => rfl
  exact ⟨⟨p1, g1, h1, (f_pput0 PD.sp F1 B).raw b1 .nil⟩, ⟨p2, g2, h2, (f_pout0 PD.sp F2 B).raw b2 .nil⟩, ⟨p3, g3, h3, (f_pswap0 PD.sp F3 B).raw b3 .nil⟩⟩
def spWith02 (K : PySem.W.Frag) (Cp : Addr) : Sp := fun vs H Q _ => ∃ x t v zs g o ps, vs = [.ref x, .ref t, v] ∧ PrS Cp H x zs g o ps ∧ (
  (∃ z n, SqT K H t [.str "put", .str z] ∧ v = .int n ∧ z ∈ zs ∧ 1 ≤ n ∧ n ≤ 9 ∧ ∀ y H', Same H H' → PrS Cp H' y zs (putG g z n) o ps → Q (.ref y) H') ∨
  (∃ z n, SqT K H t [.str "out", .str z] ∧ v = .int n ∧ z ∈ zs ∧ 1 ≤ n ∧ n ≤ 9 ∧ ∀ y H', Same H H' → PrS Cp H' y zs g (putG o z n) ps → Q (.ref y) H') ∨
  (∃ a b n, SqT K H t [.str "swap", .str a, .str b] ∧ v = .int n ∧ a ∈ zs ∧ b ∈ zs ∧ a ≠ b ∧ 1 ≤ n ∧ n ≤ 18 ∧ ∀ y H', Same H H' → PrS Cp H' y zs g o (putP ps (a, b) n) → Q (.ref y) H') ∨
  (∃ a b, SqT K H t [.str "swap", .str a, .str b] ∧ v = .non ∧ a ∈ zs ∧ b ∈ zs ∧ a ≠ b ∧ ∀ y H', Same H H' → PrS Cp H' y zs g o (dropP ps (a, b)) → Q (.ref y) H'))
abbrev N_pwith : List Str := ["self", "change", "price", "is_swap", "tables", "key"]
theorem sc_pwith : FnScope N_pwith ["self", "change", "price"] (defScope (inClass (top 26) 11)) := ⟨rfl, rfl, rfl, by decide +kernel, rfl, by decide +kernel, by decide +kernel⟩
theorem f_pwith {f : Addr} {fd : FuncData} (PD : PrD K mg Cp) (F : FunAt K "with_price" "Prices.with_price" (inClass (top 26) 11) [] f fd) (B : Blt mg) (GS : GlC mg "SWAP" (.str "swap")) (GP : GlC mg "PUT" (.str "put")) (GO : GlC mg "OUT" (.str "out")) (GM : GlC mg "MAX_PRICE" (.int 9)) (GW : GlC mg "MAX_SWAP" (.int 18))
    (c_kic : Cal P w K mg base 3 "is_kind_of_change" (spKic K)) (c_is_price : Cal P w K mg base 2 "is_price" (spIsPrice K)) (c_are_prices2 : Cal P w K mg base 3 "are_prices" spAreP2) : FnOk P w K mg base CX0 6 f fd ["self", "change", "price"] (spWith02 K Cp) := by
  have SP := PD.sp
  obtain ⟨fi, fdi, M, Fi⟩ := PD.ip
  obtain ⟨⟨pp1, pg1, hpp, Fp⟩, ⟨pp2, pg2, hpo, Fo⟩, ⟨pp3, pg3, hpw, Fw⟩⟩ := r_props2 (P := P) (w := w) (base := base) PD B
  refine fnok_of F sc_pwith (fun vs H Q E h => ?_) (fun cdv A outer s H vs Q E hr h => ?_)
  · obtain ⟨_, _, _, _, _, _, _, rfl, _⟩ := h; rfl
  · obtain ⟨x, t, v, zs, g, o, ps, rfl, ⟨dx, ys, qs, hP, N, pm, asc, pq, srt⟩, hQ⟩ := h
    obtain ⟨p1, s1⟩ := SP.s1
    refine ⟨_, pss_cons (ps_if (pt_not (pt_val (pe_c c_kic hr (by decide) (by rfl) (pa_cons (pv 1) (pa_cons (SlX.pe_sl (pv 0)) pa_nil))))) (pss_one ps_never) pss_nil)
      (pss_cons (ps_set (i := 3) sc_pwith.nd rfl (Or.inl rfl) (pe_cmpR op_eq (pe_ix ix_tup (pv 1) pe_int (fun _ _ => rfl)) (pe_gl (by rfl) GS) (nomark _)))
      (pss_cons (ps_if (PW.pt (pw_and (pt_not (pt_val (pe_c c_is_price hr (by decide) (by rfl) (pa_cons (pv 2) (pa_cons (pe_ifExp (pt_val (pv 3)) (pe_gl (by rfl) GW) (pe_gl (by rfl) GM)) pa_nil))))) (pw_and1 (pt_not (PW.pt (pw_and (pt_val (pv 3)) (pw_and1 (pt_cmpR op_isN (pv 2) pe_non (nomark _))))))))) (pss_one ps_never) pss_nil)
      (pss_cons (ps_set (i := 4) sc_pwith.nd rfl (Or.inl rfl) (pe_dispP (.dK []) (.inl rfl) (hu_of hr) (pps_cons (pe_gl (by rfl) GP) (SlX.pe_propSl (E := E0) (pv 0) SP.sc hpp.at_ hpp.get hpp.tak hpp.rec_ Fp (hr.mono (by decide)) (fun _ _ _ _ h => h)) (pps_cons (pe_gl (by rfl) GO) (SlX.pe_propSl (E := E0) (pv 0) SP.sc hpo.at_ hpo.get hpo.tak hpo.rec_ Fo (hr.mono (by decide)) (fun _ _ _ _ h => h)) (pps_cons (pe_gl (by rfl) GS) (SlX.pe_propSl (E := E0) (pv 0) SP.sc hpw.at_ hpw.get hpw.tak hpw.rec_ Fw (hr.mono (by decide)) (fun _ _ _ _ h => h)) pps_nil))) rfl rfl (by decide) (by decide)))
      (pss_cons (ps_set (i := 5) sc_pwith.nd rfl (Or.inl rfl) (pe_ifExp (pt_val (pv 3)) (pe_slice sl_tup (pv 1) (po_some pe_int) po_none) (pe_ix ix_tup (pv 1) pe_int (fun _ _ => rfl))))
      (pss_cons (ps_if (pt_cmpR op_isN (pv 2) pe_non (nomark _)) (pss_one (ps_expr (pe_dpopT hr.units (pe_dget (hu_of hr) (pv 4) (pe_gl (by rfl) GS) (fun _ _ => rfl)) (pv 5) pe_non ⟨rfl, rfl, rfl, rfl⟩))) (pss_one (ps_asg (pv 2) (pg_sub (pe_dget (hu_of hr) (pv 4) (pe_ix ix_tup (pv 1) pe_int (fun _ _ => rfl)) (fun _ _ => rfl)) (pv 5) (set_dict (hu_of hr))))))
      (pss_one (ps_ret (pe_makeKG M (f_pinit3 (P := P) (w := w) (mg := mg) (base := base) SP Fi B c_are_prices2) (hr.mono (by decide)) (by rfl) PD.gp (kb_pinit Fi) pass0
        (pk_cons (pe_dget (hu_of hr) (pv 4) (pe_gl (by rfl) GP) (fun _ _ => rfl)) (pk_cons (pe_dget (hu_of hr) (pv 4) (pe_gl (by rfl) GO) (fun _ _ => rfl)) (pk_cons (pe_dget (hu_of hr) (pv 4) (pe_gl (by rfl) GS) (fun _ _ => rfl)) pk_nil))))))))))), ?_⟩
    obtain ⟨PA, PB, PS, ws, hs, w1, w0, w2, nAB, hA, hB, hS⟩ := id hP
    rcases hQ with q0 | q0 | q0 | q0
    · obtain ⟨z, n, ht, rfl, hz0, n1, n9, hQ⟩ := q0
      have hz : z ∈ ys := pm.mem_iff.mpr hz0
      have kd : KindV K H t (dkF ys g) := .inl ⟨_, z, ht, .inl rfl, isSign_one (N.sg z hz), _, dkF_val N.nd g hz⟩
      refine ⟨_, rfl, _, rfl, x, Cp, dx, p1, ws, 1, _, rfl, .inr hs, SP.sc, s1, w1, t, PA, _, rfl, kd, hA, fun H1 e1 => ⟨_, rfl, iteF ?_⟩⟩
      have ht1 := Same.seqT e1 ht
      refine ⟨_, rfl, t, _, _, _, rfl, rfl, ht1, rfl, rfl, ?_⟩
      have es : decide (V.str "put" = V.str "swap") = false := by decide +kernel
      rw [es]
      refine ⟨_, rfl, _, rfl, _, rfl, ?_⟩
      refine iteF ?_
      refine ⟨_, _, rfl, .inl ⟨n, rfl, ?_⟩⟩
      rw [isInt_of (by omega) (by omega), decide_eq_true n1, decide_eq_true n9]
      refine ⟨_, rfl, iteF ?_⟩
      refine fun p hp => ?_
      have e2 := e1.trans (same_new (o := .dK []) hp)
      have u2 : upd H1 p (.dK []) p = some (.dK []) := upd_same
      generalize upd H1 p (.dK []) = H2 at e2 u2 ⊢
      refine ⟨_, rfl, x, dx, ws, rfl, .inr ⟨e2 _ _ hs.1, e2 _ _ hs.2⟩, x, dx, ys, ys, g, o, qs, rfl, hP.same e2, N, fun d1 H3 f1 e3 u3 => ?_⟩
      have e13 := e2.trans e3
      refine ⟨_, rfl, x, dx, ws, rfl, .inr ⟨e13 _ _ hs.1, e13 _ _ hs.2⟩, x, dx, ys, ys, g, o, qs, rfl, hP.same e13, N, fun d2 H4 f2 e4 u4 => ?_⟩
      have e14 := e13.trans e4
      refine ⟨_, rfl, x, dx, ws, rfl, .inr ⟨e14 _ _ hs.1, e14 _ _ hs.2⟩, x, dx, ys, ys, g, o, qs, rfl, hP.same e14, N, fun d3 H5 f3 e5 u5 => ?_⟩
      have e15 := e14.trans e5
      have n1p : d1 ≠ p := (ne_of_none u2 f1).symm
      have n2p : d2 ≠ p := (ne_of_none (e3 _ _ u2) f2).symm
      have n3p : d3 ≠ p := (ne_of_none (e4 _ _ (e3 _ _ u2)) f3).symm
      have n12 : d1 ≠ d2 := ne_of_none u3 f2
      have n13 : d1 ≠ d3 := ne_of_none (e4 _ _ u3) f3
      have n23 : d2 ≠ d3 := ne_of_none u4 f3
      have g1 : H d1 = none := e2.free f1
      have g2 : H d2 = none := e13.free f2
      have g3 : H d3 = none := e14.free f3
      have gp : H p = none := e1.free hp
      have v1 := e5 _ _ (e4 _ _ u3)
      have v2 := e5 _ _ u4
      have vp := e5 _ _ (e4 _ _ (e3 _ _ u2))
      refine ⟨upd H5 p (.dK [(.inr "put", .ref d1)]), .inl ⟨[], .inr "put", vp, rfl, by decide, by kernel_rfl⟩, upd (upd H5 p (.dK [(.inr "put", .ref d1)])) p (.dK [(.inr "put", .ref d1), (.inr "out", .ref d2)]), .inl ⟨_, .inr "out", upd_same, rfl, (show 1 < sizeLine by decide), by kernel_rfl⟩,
        upd (upd (upd H5 p (.dK [(.inr "put", .ref d1)])) p (.dK [(.inr "put", .ref d1), (.inr "out", .ref d2)])) p (.dK (tabs3 d1 d2 d3)), .inl ⟨_, .inr "swap", upd_same, rfl, (show 2 < sizeLine by decide), by kernel_rfl⟩, ?_⟩
      have up : ∀ b u, b ≠ p → H5 b = some u → upd (upd (upd H5 p (.dK [(.inr "put", .ref d1)])) p (.dK [(.inr "put", .ref d1), (.inr "out", .ref d2)])) p (.dK (tabs3 d1 d2 d3)) b = some u := fun b u n q => by rw [upd_ne n, upd_ne n, upd_ne n]; exact q
      have u6 : upd (upd (upd H5 p (.dK [(.inr "put", .ref d1)])) p (.dK [(.inr "put", .ref d1), (.inr "out", .ref d2)])) p (.dK (tabs3 d1 d2 d3)) p = some (.dK (tabs3 d1 d2 d3)) := upd_same
      generalize upd (upd (upd H5 p (.dK [(.inr "put", .ref d1)])) p (.dK [(.inr "put", .ref d1), (.inr "out", .ref d2)])) p (.dK (tabs3 d1 d2 d3)) = H6 at up u6 ⊢
      have e6 : Same H H6 := fun b u q => up b u (fun z => by rw [z, gp] at q; cases q) (e15 _ _ q)
      have a1 := up _ _ n1p v1
      have a2 := up _ _ n2p v2
      have a3 := up _ _ n3p u5
      clear up u2 u3 u4 u5 v1 v2 vp f1 f2 f3 e2 e3 e4 e5 e13 e14 e15 hp
      have ht6 := Same.seqT e6 ht
      have l5 := N.le
      have sz : 1000 < sizeLine := by decide
      refine ⟨_, rfl, _, rfl, iteF ⟨_, rfl, t, _, _, _, rfl, rfl, ht6, rfl, ?_⟩⟩
      refine ⟨_, rfl, rfl, _, rfl, iteDF (fun q => by cases q) ?_⟩
      refine ⟨_, rfl, _, rfl, _, rfl, t, _, _, _, rfl, rfl, ht6, rfl, p, .ref d1, rfl, .inl ⟨_, .inr "put", .inl u6, rfl, by kernel_rfl⟩, ?_⟩
      refine ⟨_, rfl, d1, _, rfl, .inl ⟨_, .inr z, a1, rfl, by simp only [dkF, List.length_map]; omega, rfl⟩, ?_⟩
      rw [dkF_set g hz]
      have e8 : Same H (upd H6 d1 (.dK (dkF ys (putG g z n)))) := fun b u q => by rw [upd_ne (fun z => by rw [z, g1] at q; cases q)]; exact e6 _ _ q
      have b1 : upd H6 d1 (.dK (dkF ys (putG g z n))) d1 = some (.dK (dkF ys (putG g z n))) := upd_same
      have b2 : upd H6 d1 (.dK (dkF ys (putG g z n))) d2 = some (.dK (dkF ys o)) := by rw [upd_ne n12.symm]; exact a2
      have b3 : upd H6 d1 (.dK (dkF ys (putG g z n))) d3 = some (.dT (dtF qs)) := by rw [upd_ne n13.symm]; exact a3
      have u8 : upd H6 d1 (.dK (dkF ys (putG g z n))) p = some (.dK (tabs3 d1 d2 d3)) := by rw [upd_ne n1p.symm]; exact u6
      generalize upd H6 d1 (.dK (dkF ys (putG g z n))) = H8 at e8 b1 b2 b3 u8 ⊢
      refine ⟨_, rfl, p, .ref d1, rfl, .inl ⟨_, .inr "put", .inl u8, rfl, by kernel_rfl⟩, ?_⟩
      refine ⟨_, rfl, p, .ref d2, rfl, .inl ⟨_, .inr "out", .inl u8, rfl, by kernel_rfl⟩, ?_⟩
      refine ⟨_, rfl, p, .ref d3, rfl, .inl ⟨_, .inr "swap", .inl u8, rfl, by kernel_rfl⟩, rfl, rfl, fun y dy hy hdy n => ?_⟩
      have nx : ∀ b u, H8 b = some u → b ≠ y ∧ b ≠ dy := fun b u e => ⟨ne_of_none e hy, ne_of_none e hdy⟩
      have up : ∀ b u, H8 b = some u → upd (upd H8 dy (.own y)) y (.ins Cp dy []) b = some u := fun b u e => by
        rw [upd_ne (nx b u e).1, upd_ne (nx b u e).2]; exact e
      refine ⟨y, dy, d1, d2, d3, ys, ys, _, _, _, rfl, upd_same, by rw [upd_ne n, upd_same], n, up _ _ b1, up _ _ b2, up _ _ b3, N.setG n1 n9, fun H9 ys' qs' k2 hP2 N2 pm' asc' pq' srt' => ⟨rfl, hQ y H9 (fun b u z => ?_) ⟨dy, ys', qs', hP2, N2, pm'.trans pm, asc', pq'.trans pq, srt'⟩⟩⟩
      exact k2 b u (nx _ _ (e8 _ _ z)).1 (nx _ _ (e8 _ _ z)).2 (up _ _ (e8 _ _ z))
    · obtain ⟨z, n, ht, rfl, hz0, n1, n9, hQ⟩ := q0
      have hz : z ∈ ys := pm.mem_iff.mpr hz0
      have kd : KindV K H t (dkF ys g) := .inl ⟨_, z, ht, .inr rfl, isSign_one (N.sg z hz), _, dkF_val N.nd g hz⟩
      refine ⟨_, rfl, _, rfl, x, Cp, dx, p1, ws, 1, _, rfl, .inr hs, SP.sc, s1, w1, t, PA, _, rfl, kd, hA, fun H1 e1 => ⟨_, rfl, iteF ?_⟩⟩
      have ht1 := Same.seqT e1 ht
      refine ⟨_, rfl, t, _, _, _, rfl, rfl, ht1, rfl, rfl, ?_⟩
      have es : decide (V.str "out" = V.str "swap") = false := by decide +kernel
      rw [es]
      refine ⟨_, rfl, _, rfl, _, rfl, ?_⟩
      refine iteF ?_
      refine ⟨_, _, rfl, .inl ⟨n, rfl, ?_⟩⟩
      rw [isInt_of (by omega) (by omega), decide_eq_true n1, decide_eq_true n9]
      refine ⟨_, rfl, iteF ?_⟩
      refine fun p hp => ?_
      have e2 := e1.trans (same_new (o := .dK []) hp)
      have u2 : upd H1 p (.dK []) p = some (.dK []) := upd_same
      generalize upd H1 p (.dK []) = H2 at e2 u2 ⊢
      refine ⟨_, rfl, x, dx, ws, rfl, .inr ⟨e2 _ _ hs.1, e2 _ _ hs.2⟩, x, dx, ys, ys, g, o, qs, rfl, hP.same e2, N, fun d1 H3 f1 e3 u3 => ?_⟩
      have e13 := e2.trans e3
      refine ⟨_, rfl, x, dx, ws, rfl, .inr ⟨e13 _ _ hs.1, e13 _ _ hs.2⟩, x, dx, ys, ys, g, o, qs, rfl, hP.same e13, N, fun d2 H4 f2 e4 u4 => ?_⟩
      have e14 := e13.trans e4
      refine ⟨_, rfl, x, dx, ws, rfl, .inr ⟨e14 _ _ hs.1, e14 _ _ hs.2⟩, x, dx, ys, ys, g, o, qs, rfl, hP.same e14, N, fun d3 H5 f3 e5 u5 => ?_⟩
      have e15 := e14.trans e5
      have n1p : d1 ≠ p := (ne_of_none u2 f1).symm
      have n2p : d2 ≠ p := (ne_of_none (e3 _ _ u2) f2).symm
      have n3p : d3 ≠ p := (ne_of_none (e4 _ _ (e3 _ _ u2)) f3).symm
      have n12 : d1 ≠ d2 := ne_of_none u3 f2
      have n13 : d1 ≠ d3 := ne_of_none (e4 _ _ u3) f3
      have n23 : d2 ≠ d3 := ne_of_none u4 f3
      have g1 : H d1 = none := e2.free f1
      have g2 : H d2 = none := e13.free f2
      have g3 : H d3 = none := e14.free f3
      have gp : H p = none := e1.free hp
      have v1 := e5 _ _ (e4 _ _ u3)
      have v2 := e5 _ _ u4
      have vp := e5 _ _ (e4 _ _ (e3 _ _ u2))
      refine ⟨upd H5 p (.dK [(.inr "put", .ref d1)]), .inl ⟨[], .inr "put", vp, rfl, by decide, by kernel_rfl⟩, upd (upd H5 p (.dK [(.inr "put", .ref d1)])) p (.dK [(.inr "put", .ref d1), (.inr "out", .ref d2)]), .inl ⟨_, .inr "out", upd_same, rfl, (show 1 < sizeLine by decide), by kernel_rfl⟩,
        upd (upd (upd H5 p (.dK [(.inr "put", .ref d1)])) p (.dK [(.inr "put", .ref d1), (.inr "out", .ref d2)])) p (.dK (tabs3 d1 d2 d3)), .inl ⟨_, .inr "swap", upd_same, rfl, (show 2 < sizeLine by decide), by kernel_rfl⟩, ?_⟩
      have up : ∀ b u, b ≠ p → H5 b = some u → upd (upd (upd H5 p (.dK [(.inr "put", .ref d1)])) p (.dK [(.inr "put", .ref d1), (.inr "out", .ref d2)])) p (.dK (tabs3 d1 d2 d3)) b = some u := fun b u n q => by rw [upd_ne n, upd_ne n, upd_ne n]; exact q
      have u6 : upd (upd (upd H5 p (.dK [(.inr "put", .ref d1)])) p (.dK [(.inr "put", .ref d1), (.inr "out", .ref d2)])) p (.dK (tabs3 d1 d2 d3)) p = some (.dK (tabs3 d1 d2 d3)) := upd_same
      generalize upd (upd (upd H5 p (.dK [(.inr "put", .ref d1)])) p (.dK [(.inr "put", .ref d1), (.inr "out", .ref d2)])) p (.dK (tabs3 d1 d2 d3)) = H6 at up u6 ⊢
      have e6 : Same H H6 := fun b u q => up b u (fun z => by rw [z, gp] at q; cases q) (e15 _ _ q)
      have a1 := up _ _ n1p v1
      have a2 := up _ _ n2p v2
      have a3 := up _ _ n3p u5
      clear up u2 u3 u4 u5 v1 v2 vp f1 f2 f3 e2 e3 e4 e5 e13 e14 e15 hp
      have ht6 := Same.seqT e6 ht
      have l5 := N.le
      have sz : 1000 < sizeLine := by decide
      refine ⟨_, rfl, _, rfl, iteF ⟨_, rfl, t, _, _, _, rfl, rfl, ht6, rfl, ?_⟩⟩
      refine ⟨_, rfl, rfl, _, rfl, iteDF (fun q => by cases q) ?_⟩
      refine ⟨_, rfl, _, rfl, _, rfl, t, _, _, _, rfl, rfl, ht6, rfl, p, .ref d2, rfl, .inl ⟨_, .inr "out", .inl u6, rfl, by kernel_rfl⟩, ?_⟩
      refine ⟨_, rfl, d2, _, rfl, .inl ⟨_, .inr z, a2, rfl, by simp only [dkF, List.length_map]; omega, rfl⟩, ?_⟩
      rw [dkF_set o hz]
      have e8 : Same H (upd H6 d2 (.dK (dkF ys (putG o z n)))) := fun b u q => by rw [upd_ne (fun z => by rw [z, g2] at q; cases q)]; exact e6 _ _ q
      have b1 : upd H6 d2 (.dK (dkF ys (putG o z n))) d1 = some (.dK (dkF ys g)) := by rw [upd_ne n12]; exact a1
      have b2 : upd H6 d2 (.dK (dkF ys (putG o z n))) d2 = some (.dK (dkF ys (putG o z n))) := upd_same
      have b3 : upd H6 d2 (.dK (dkF ys (putG o z n))) d3 = some (.dT (dtF qs)) := by rw [upd_ne n23.symm]; exact a3
      have u8 : upd H6 d2 (.dK (dkF ys (putG o z n))) p = some (.dK (tabs3 d1 d2 d3)) := by rw [upd_ne n2p.symm]; exact u6
      generalize upd H6 d2 (.dK (dkF ys (putG o z n))) = H8 at e8 b1 b2 b3 u8 ⊢
      refine ⟨_, rfl, p, .ref d1, rfl, .inl ⟨_, .inr "put", .inl u8, rfl, by kernel_rfl⟩, ?_⟩
      refine ⟨_, rfl, p, .ref d2, rfl, .inl ⟨_, .inr "out", .inl u8, rfl, by kernel_rfl⟩, ?_⟩
      refine ⟨_, rfl, p, .ref d3, rfl, .inl ⟨_, .inr "swap", .inl u8, rfl, by kernel_rfl⟩, rfl, rfl, fun y dy hy hdy n => ?_⟩
      have nx : ∀ b u, H8 b = some u → b ≠ y ∧ b ≠ dy := fun b u e => ⟨ne_of_none e hy, ne_of_none e hdy⟩
      have up : ∀ b u, H8 b = some u → upd (upd H8 dy (.own y)) y (.ins Cp dy []) b = some u := fun b u e => by
        rw [upd_ne (nx b u e).1, upd_ne (nx b u e).2]; exact e
      refine ⟨y, dy, d1, d2, d3, ys, ys, _, _, _, rfl, upd_same, by rw [upd_ne n, upd_same], n, up _ _ b1, up _ _ b2, up _ _ b3, N.setO n1 n9, fun H9 ys' qs' k2 hP2 N2 pm' asc' pq' srt' => ⟨rfl, hQ y H9 (fun b u z => ?_) ⟨dy, ys', qs', hP2, N2, pm'.trans pm, asc', pq'.trans pq, srt'⟩⟩⟩
      exact k2 b u (nx _ _ (e8 _ _ z)).1 (nx _ _ (e8 _ _ z)).2 (up _ _ (e8 _ _ z))
    · obtain ⟨a, b, n, ht, rfl, ha0, hb0, ne, n1, n9, hQ⟩ := q0
      have ha : a ∈ ys := pm.mem_iff.mpr ha0
      have hb : b ∈ ys := pm.mem_iff.mpr hb0
      have kd : KindV K H t (dkF ys g) := .inr ⟨a, b, ht, isSign_one (N.sg a ha), isSign_one (N.sg b hb), ⟨_, dkF_val N.nd g ha⟩, ⟨_, dkF_val N.nd g hb⟩, ne⟩
      refine ⟨_, rfl, _, rfl, x, Cp, dx, p1, ws, 1, _, rfl, .inr hs, SP.sc, s1, w1, t, PA, _, rfl, kd, hA, fun H1 e1 => ⟨_, rfl, iteF ?_⟩⟩
      have ht1 := Same.seqT e1 ht
      refine ⟨_, rfl, t, _, _, _, rfl, rfl, ht1, rfl, rfl, ?_⟩
      have es : decide (V.str "swap" = V.str "swap") = true := by decide +kernel
      rw [es]
      refine ⟨_, rfl, _, rfl, _, rfl, ?_⟩
      refine iteT ?_
      refine ⟨_, _, rfl, .inl ⟨n, rfl, ?_⟩⟩
      rw [isInt_of (by omega) (by omega), decide_eq_true n1, decide_eq_true n9]
      refine ⟨_, rfl, iteF ?_⟩
      refine fun p hp => ?_
      have e2 := e1.trans (same_new (o := .dK []) hp)
      have u2 : upd H1 p (.dK []) p = some (.dK []) := upd_same
      generalize upd H1 p (.dK []) = H2 at e2 u2 ⊢
      refine ⟨_, rfl, x, dx, ws, rfl, .inr ⟨e2 _ _ hs.1, e2 _ _ hs.2⟩, x, dx, ys, ys, g, o, qs, rfl, hP.same e2, N, fun d1 H3 f1 e3 u3 => ?_⟩
      have e13 := e2.trans e3
      refine ⟨_, rfl, x, dx, ws, rfl, .inr ⟨e13 _ _ hs.1, e13 _ _ hs.2⟩, x, dx, ys, ys, g, o, qs, rfl, hP.same e13, N, fun d2 H4 f2 e4 u4 => ?_⟩
      have e14 := e13.trans e4
      refine ⟨_, rfl, x, dx, ws, rfl, .inr ⟨e14 _ _ hs.1, e14 _ _ hs.2⟩, x, dx, ys, ys, g, o, qs, rfl, hP.same e14, N, fun d3 H5 f3 e5 u5 => ?_⟩
      have e15 := e14.trans e5
      have n1p : d1 ≠ p := (ne_of_none u2 f1).symm
      have n2p : d2 ≠ p := (ne_of_none (e3 _ _ u2) f2).symm
      have n3p : d3 ≠ p := (ne_of_none (e4 _ _ (e3 _ _ u2)) f3).symm
      have n12 : d1 ≠ d2 := ne_of_none u3 f2
      have n13 : d1 ≠ d3 := ne_of_none (e4 _ _ u3) f3
      have n23 : d2 ≠ d3 := ne_of_none u4 f3
      have g1 : H d1 = none := e2.free f1
      have g2 : H d2 = none := e13.free f2
      have g3 : H d3 = none := e14.free f3
      have gp : H p = none := e1.free hp
      have v1 := e5 _ _ (e4 _ _ u3)
      have v2 := e5 _ _ u4
      have vp := e5 _ _ (e4 _ _ (e3 _ _ u2))
      refine ⟨upd H5 p (.dK [(.inr "put", .ref d1)]), .inl ⟨[], .inr "put", vp, rfl, by decide, by kernel_rfl⟩, upd (upd H5 p (.dK [(.inr "put", .ref d1)])) p (.dK [(.inr "put", .ref d1), (.inr "out", .ref d2)]), .inl ⟨_, .inr "out", upd_same, rfl, (show 1 < sizeLine by decide), by kernel_rfl⟩,
        upd (upd (upd H5 p (.dK [(.inr "put", .ref d1)])) p (.dK [(.inr "put", .ref d1), (.inr "out", .ref d2)])) p (.dK (tabs3 d1 d2 d3)), .inl ⟨_, .inr "swap", upd_same, rfl, (show 2 < sizeLine by decide), by kernel_rfl⟩, ?_⟩
      have up : ∀ b u, b ≠ p → H5 b = some u → upd (upd (upd H5 p (.dK [(.inr "put", .ref d1)])) p (.dK [(.inr "put", .ref d1), (.inr "out", .ref d2)])) p (.dK (tabs3 d1 d2 d3)) b = some u := fun b u n q => by rw [upd_ne n, upd_ne n, upd_ne n]; exact q
      have u6 : upd (upd (upd H5 p (.dK [(.inr "put", .ref d1)])) p (.dK [(.inr "put", .ref d1), (.inr "out", .ref d2)])) p (.dK (tabs3 d1 d2 d3)) p = some (.dK (tabs3 d1 d2 d3)) := upd_same
      generalize upd (upd (upd H5 p (.dK [(.inr "put", .ref d1)])) p (.dK [(.inr "put", .ref d1), (.inr "out", .ref d2)])) p (.dK (tabs3 d1 d2 d3)) = H6 at up u6 ⊢
      have e6 : Same H H6 := fun b u q => up b u (fun z => by rw [z, gp] at q; cases q) (e15 _ _ q)
      have a1 := up _ _ n1p v1
      have a2 := up _ _ n2p v2
      have a3 := up _ _ n3p u5
      clear up u2 u3 u4 u5 v1 v2 vp f1 f2 f3 e2 e3 e4 e5 e13 e14 e15 hp
      have ht6 := Same.seqT e6 ht
      have l5 := N.le
      have sz : 1000 < sizeLine := by decide
      refine ⟨_, rfl, _, rfl, iteT ⟨_, rfl, _, rfl, t, _, rfl, ht6, (fun q => absurd (show HT.sIx 3 0 (some 1) = 0 from q.1) (by decide)), fun q hq => ?_⟩⟩
      have e7 := same_new (o := .tup (cutV [.str "swap", .str a, .str b] (some 1) none)) hq
      have u7 : upd H6 q (.tup (cutV [.str "swap", .str a, .str b] (some 1) none)) q = some (.tup [.str a, .str b]) := upd_same
      generalize upd H6 q (.tup (cutV [.str "swap", .str a, .str b] (some 1) none)) = H7 at e7 u7 ⊢
      have hq0 : H q = none := e6.free hq
      replace e6 := e6.trans e7
      replace u6 := e7 _ _ u6
      replace a1 := e7 _ _ a1
      replace a2 := e7 _ _ a2
      replace a3 := e7 _ _ a3
      clear e7 hq
      refine ⟨_, rfl, rfl, _, rfl, iteDF (fun q => by cases q) ?_⟩
      refine ⟨_, rfl, _, rfl, _, rfl, t, _, _, _, rfl, rfl, Same.seqT e6 ht, rfl, p, .ref d3, rfl, .inl ⟨_, .inr "swap", .inl u6, rfl, by kernel_rfl⟩, ?_⟩
      have l100 := N.sl
      refine ⟨_, rfl, d3, _, rfl, .inr ⟨_, [.inr a, .inr b], q, a3, rfl, u7, by simp only [dtF, List.length_map]; omega, rfl⟩, ?_⟩
      rw [dtF_set]
      have e8 : Same H (upd H7 d3 (.dT (dtF (putP qs (a, b) n)))) := fun b u q => by rw [upd_ne (fun z => by rw [z, g3] at q; cases q)]; exact e6 _ _ q
      have b1 : upd H7 d3 (.dT (dtF (putP qs (a, b) n))) d1 = some (.dK (dkF ys g)) := by rw [upd_ne n13]; exact a1
      have b2 : upd H7 d3 (.dT (dtF (putP qs (a, b) n))) d2 = some (.dK (dkF ys o)) := by rw [upd_ne n23]; exact a2
      have b3 : upd H7 d3 (.dT (dtF (putP qs (a, b) n))) d3 = some (.dT (dtF (putP qs (a, b) n))) := upd_same
      have u8 : upd H7 d3 (.dT (dtF (putP qs (a, b) n))) p = some (.dK (tabs3 d1 d2 d3)) := by rw [upd_ne n3p.symm]; exact u6
      generalize upd H7 d3 (.dT (dtF (putP qs (a, b) n))) = H8 at e8 b1 b2 b3 u8 ⊢
      refine ⟨_, rfl, p, .ref d1, rfl, .inl ⟨_, .inr "put", .inl u8, rfl, by kernel_rfl⟩, ?_⟩
      refine ⟨_, rfl, p, .ref d2, rfl, .inl ⟨_, .inr "out", .inl u8, rfl, by kernel_rfl⟩, ?_⟩
      refine ⟨_, rfl, p, .ref d3, rfl, .inl ⟨_, .inr "swap", .inl u8, rfl, by kernel_rfl⟩, rfl, rfl, fun y dy hy hdy n => ?_⟩
      have nx : ∀ b u, H8 b = some u → b ≠ y ∧ b ≠ dy := fun b u e => ⟨ne_of_none e hy, ne_of_none e hdy⟩
      have up : ∀ b u, H8 b = some u → upd (upd H8 dy (.own y)) y (.ins Cp dy []) b = some u := fun b u e => by
        rw [upd_ne (nx b u e).1, upd_ne (nx b u e).2]; exact e
      refine ⟨y, dy, d1, d2, d3, ys, ys, _, _, _, rfl, upd_same, by rw [upd_ne n, upd_same], n, up _ _ b1, up _ _ b2, up _ _ b3, N.setP ha hb ne n1 n9, fun H9 ys' qs' k2 hP2 N2 pm' asc' pq' srt' => ⟨rfl, hQ y H9 (fun b u z => ?_) ⟨dy, ys', qs', hP2, N2, pm'.trans pm, asc', pq'.trans (putP_perm pq _ _), srt'⟩⟩⟩
      exact k2 b u (nx _ _ (e8 _ _ z)).1 (nx _ _ (e8 _ _ z)).2 (up _ _ (e8 _ _ z))
    · obtain ⟨a, b, ht, rfl, ha0, hb0, ne, hQ⟩ := q0
      have ha : a ∈ ys := pm.mem_iff.mpr ha0
      have hb : b ∈ ys := pm.mem_iff.mpr hb0
      have kd : KindV K H t (dkF ys g) := .inr ⟨a, b, ht, isSign_one (N.sg a ha), isSign_one (N.sg b hb), ⟨_, dkF_val N.nd g ha⟩, ⟨_, dkF_val N.nd g hb⟩, ne⟩
      refine ⟨_, rfl, _, rfl, x, Cp, dx, p1, ws, 1, _, rfl, .inr hs, SP.sc, s1, w1, t, PA, _, rfl, kd, hA, fun H1 e1 => ⟨_, rfl, iteF ?_⟩⟩
      have ht1 := Same.seqT e1 ht
      refine ⟨_, rfl, t, _, _, _, rfl, rfl, ht1, rfl, rfl, ?_⟩
      have es : decide (V.str "swap" = V.str "swap") = true := by decide +kernel
      rw [es]
      refine ⟨_, rfl, _, rfl, _, rfl, ?_⟩
      refine iteT ?_
      refine ⟨_, _, rfl, .inr (.inr ⟨.inl ⟨.type "NoneType", .base .non, kit_ty (by decide +kernel)⟩, ?_⟩)⟩
      refine ⟨_, rfl, iteT ⟨_, rfl, _, rfl, iteT ⟨_, rfl, rfl, _, rfl, iteF ?_⟩⟩⟩
      refine fun p hp => ?_
      have e2 := e1.trans (same_new (o := .dK []) hp)
      have u2 : upd H1 p (.dK []) p = some (.dK []) := upd_same
      generalize upd H1 p (.dK []) = H2 at e2 u2 ⊢
      refine ⟨_, rfl, x, dx, ws, rfl, .inr ⟨e2 _ _ hs.1, e2 _ _ hs.2⟩, x, dx, ys, ys, g, o, qs, rfl, hP.same e2, N, fun d1 H3 f1 e3 u3 => ?_⟩
      have e13 := e2.trans e3
      refine ⟨_, rfl, x, dx, ws, rfl, .inr ⟨e13 _ _ hs.1, e13 _ _ hs.2⟩, x, dx, ys, ys, g, o, qs, rfl, hP.same e13, N, fun d2 H4 f2 e4 u4 => ?_⟩
      have e14 := e13.trans e4
      refine ⟨_, rfl, x, dx, ws, rfl, .inr ⟨e14 _ _ hs.1, e14 _ _ hs.2⟩, x, dx, ys, ys, g, o, qs, rfl, hP.same e14, N, fun d3 H5 f3 e5 u5 => ?_⟩
      have e15 := e14.trans e5
      have n1p : d1 ≠ p := (ne_of_none u2 f1).symm
      have n2p : d2 ≠ p := (ne_of_none (e3 _ _ u2) f2).symm
      have n3p : d3 ≠ p := (ne_of_none (e4 _ _ (e3 _ _ u2)) f3).symm
      have n12 : d1 ≠ d2 := ne_of_none u3 f2
      have n13 : d1 ≠ d3 := ne_of_none (e4 _ _ u3) f3
      have n23 : d2 ≠ d3 := ne_of_none u4 f3
      have g1 : H d1 = none := e2.free f1
      have g2 : H d2 = none := e13.free f2
      have g3 : H d3 = none := e14.free f3
      have gp : H p = none := e1.free hp
      have v1 := e5 _ _ (e4 _ _ u3)
      have v2 := e5 _ _ u4
      have vp := e5 _ _ (e4 _ _ (e3 _ _ u2))
      refine ⟨upd H5 p (.dK [(.inr "put", .ref d1)]), .inl ⟨[], .inr "put", vp, rfl, by decide, by kernel_rfl⟩, upd (upd H5 p (.dK [(.inr "put", .ref d1)])) p (.dK [(.inr "put", .ref d1), (.inr "out", .ref d2)]), .inl ⟨_, .inr "out", upd_same, rfl, (show 1 < sizeLine by decide), by kernel_rfl⟩,
        upd (upd (upd H5 p (.dK [(.inr "put", .ref d1)])) p (.dK [(.inr "put", .ref d1), (.inr "out", .ref d2)])) p (.dK (tabs3 d1 d2 d3)), .inl ⟨_, .inr "swap", upd_same, rfl, (show 2 < sizeLine by decide), by kernel_rfl⟩, ?_⟩
      have up : ∀ b u, b ≠ p → H5 b = some u → upd (upd (upd H5 p (.dK [(.inr "put", .ref d1)])) p (.dK [(.inr "put", .ref d1), (.inr "out", .ref d2)])) p (.dK (tabs3 d1 d2 d3)) b = some u := fun b u n q => by rw [upd_ne n, upd_ne n, upd_ne n]; exact q
      have u6 : upd (upd (upd H5 p (.dK [(.inr "put", .ref d1)])) p (.dK [(.inr "put", .ref d1), (.inr "out", .ref d2)])) p (.dK (tabs3 d1 d2 d3)) p = some (.dK (tabs3 d1 d2 d3)) := upd_same
      generalize upd (upd (upd H5 p (.dK [(.inr "put", .ref d1)])) p (.dK [(.inr "put", .ref d1), (.inr "out", .ref d2)])) p (.dK (tabs3 d1 d2 d3)) = H6 at up u6 ⊢
      have e6 : Same H H6 := fun b u q => up b u (fun z => by rw [z, gp] at q; cases q) (e15 _ _ q)
      have a1 := up _ _ n1p v1
      have a2 := up _ _ n2p v2
      have a3 := up _ _ n3p u5
      clear up u2 u3 u4 u5 v1 v2 vp f1 f2 f3 e2 e3 e4 e5 e13 e14 e15 hp
      have ht6 := Same.seqT e6 ht
      have l5 := N.le
      have sz : 1000 < sizeLine := by decide
      refine ⟨_, rfl, _, rfl, iteT ⟨_, rfl, _, rfl, t, _, rfl, ht6, (fun q => absurd (show HT.sIx 3 0 (some 1) = 0 from q.1) (by decide)), fun q hq => ?_⟩⟩
      have e7 := same_new (o := .tup (cutV [.str "swap", .str a, .str b] (some 1) none)) hq
      have u7 : upd H6 q (.tup (cutV [.str "swap", .str a, .str b] (some 1) none)) q = some (.tup [.str a, .str b]) := upd_same
      generalize upd H6 q (.tup (cutV [.str "swap", .str a, .str b] (some 1) none)) = H7 at e7 u7 ⊢
      have hq0 : H q = none := e6.free hq
      replace e6 := e6.trans e7
      replace u6 := e7 _ _ u6
      replace a1 := e7 _ _ a1
      replace a2 := e7 _ _ a2
      replace a3 := e7 _ _ a3
      clear e7 hq
      refine ⟨_, rfl, rfl, _, rfl, iteDT rfl ?_⟩
      refine ⟨_, rfl, p, .ref d3, rfl, .inl ⟨_, .inr "swap", .inl u6, rfl, by kernel_rfl⟩, d3, rfl, .inr ⟨_, .inl a3⟩, _, rfl, _, [.inr a, .inr b], q, a3, rfl, u7, fun v hv => ?_, fun hv => ?_⟩
      · rw [dtF_drop]
        have e8 : Same H (upd H7 d3 (.dT (dtF (dropP qs (a, b))))) := fun b u q => by rw [upd_ne (fun z => by rw [z, g3] at q; cases q)]; exact e6 _ _ q
        have b1 : upd H7 d3 (.dT (dtF (dropP qs (a, b)))) d1 = some (.dK (dkF ys g)) := by rw [upd_ne n13]; exact a1
        have b2 : upd H7 d3 (.dT (dtF (dropP qs (a, b)))) d2 = some (.dK (dkF ys o)) := by rw [upd_ne n23]; exact a2
        have b3 : upd H7 d3 (.dT (dtF (dropP qs (a, b)))) d3 = some (.dT (dtF (dropP qs (a, b)))) := upd_same
        have u8 : upd H7 d3 (.dT (dtF (dropP qs (a, b)))) p = some (.dK (tabs3 d1 d2 d3)) := by rw [upd_ne n3p.symm]; exact u6
        generalize upd H7 d3 (.dT (dtF (dropP qs (a, b)))) = H8 at e8 b1 b2 b3 u8 ⊢
        refine ⟨_, rfl, p, .ref d1, rfl, .inl ⟨_, .inr "put", .inl u8, rfl, by kernel_rfl⟩, ?_⟩
        refine ⟨_, rfl, p, .ref d2, rfl, .inl ⟨_, .inr "out", .inl u8, rfl, by kernel_rfl⟩, ?_⟩
        refine ⟨_, rfl, p, .ref d3, rfl, .inl ⟨_, .inr "swap", .inl u8, rfl, by kernel_rfl⟩, rfl, rfl, fun y dy hy hdy n => ?_⟩
        have nx : ∀ b u, H8 b = some u → b ≠ y ∧ b ≠ dy := fun b u e => ⟨ne_of_none e hy, ne_of_none e hdy⟩
        have up : ∀ b u, H8 b = some u → upd (upd H8 dy (.own y)) y (.ins Cp dy []) b = some u := fun b u e => by
          rw [upd_ne (nx b u e).1, upd_ne (nx b u e).2]; exact e
        refine ⟨y, dy, d1, d2, d3, ys, ys, _, _, _, rfl, upd_same, by rw [upd_ne n, upd_same], n, up _ _ b1, up _ _ b2, up _ _ b3, N.filtP _, fun H9 ys' qs' k2 hP2 N2 pm' asc' pq' srt' => ⟨rfl, hQ y H9 (fun b u z => ?_) ⟨dy, ys', qs', hP2, N2, pm'.trans pm, asc', pq'.trans (pq.filter _), srt'⟩⟩⟩
        exact k2 b u (nx _ _ (e8 _ _ z)).1 (nx _ _ (e8 _ _ z)).2 (up _ _ (e8 _ _ z))
      · have nk : (a, b) ∉ qs.map Prod.fst := fun q => by
          obtain ⟨e, he, ee⟩ := List.mem_map.mp q
          rw [dtF_val (x := a) (y := b) (p := e.2) N.sn (by rw [← ee]; exact he)] at hv
          cases hv
        rw [← dropP_no nk] at a3
        have e8 := e6
        have b1 := a1
        have b2 := a2
        have b3 := a3
        have u8 := u6
        clear e6 a1 a2 a3 u6
        generalize H7 = H8 at e8 b1 b2 b3 u8 ⊢
        refine ⟨_, rfl, p, .ref d1, rfl, .inl ⟨_, .inr "put", .inl u8, rfl, by kernel_rfl⟩, ?_⟩
        refine ⟨_, rfl, p, .ref d2, rfl, .inl ⟨_, .inr "out", .inl u8, rfl, by kernel_rfl⟩, ?_⟩
        refine ⟨_, rfl, p, .ref d3, rfl, .inl ⟨_, .inr "swap", .inl u8, rfl, by kernel_rfl⟩, rfl, rfl, fun y dy hy hdy n => ?_⟩
        have nx : ∀ b u, H8 b = some u → b ≠ y ∧ b ≠ dy := fun b u e => ⟨ne_of_none e hy, ne_of_none e hdy⟩
        have up : ∀ b u, H8 b = some u → upd (upd H8 dy (.own y)) y (.ins Cp dy []) b = some u := fun b u e => by
          rw [upd_ne (nx b u e).1, upd_ne (nx b u e).2]; exact e
        refine ⟨y, dy, d1, d2, d3, ys, ys, _, _, _, rfl, upd_same, by rw [upd_ne n, upd_same], n, up _ _ b1, up _ _ b2, up _ _ b3, N.filtP _, fun H9 ys' qs' k2 hP2 N2 pm' asc' pq' srt' => ⟨rfl, hQ y H9 (fun b u z => ?_) ⟨dy, ys', qs', hP2, N2, pm'.trans pm, asc', pq'.trans (pq.filter _), srt'⟩⟩⟩
        exact k2 b u (nx _ _ (e8 _ _ z)).1 (nx _ _ (e8 _ _ z)).2 (up _ _ (e8 _ _ z))
end
end MN
/-! Prices.limited to some of the signs -/
namespace MN
open PySem PySem.Spec PyProof.Rows L2
theorem sgn_are {zs : List Str} (h : SgnOk zs) : areSigns zs = true := by
  unfold areSigns
  rw [Bool.and_eq_true, Bool.and_eq_true]
  refine ⟨?_, List.all_eq_true.mpr fun z hz => ?_, ?_⟩
  · have := h.pos
    cases zs with
    | nil => exact absurd this (Nat.lt_irrefl 0)
    | cons a l => rfl
  · obtain ⟨c, hc, rfl⟩ := h.one z hz
    have : isWordS (⟨#[c]⟩ : Str) = true := by simp [isWordS, sgn, hc]
    simp [isSign, this, Str.length]
  · have hp := h.asc
    clear h
    show ((zs.zip zs.tail).all fun p => ltS p.1 p.2) = true
    induction zs with
    | nil => rfl
    | cons a l ih =>
      obtain ⟨h1, h2⟩ := List.pairwise_cons.mp hp
      cases l with
      | nil => rfl
      | cons b l =>
        show (((a, b) :: (b :: l).zip l).all fun p => ltS p.1 p.2) = true
        rw [List.all_cons, Bool.and_eq_true]
        exact ⟨decide_eq_true (h1 b List.mem_cons_self), ih h2⟩
theorem sgn_texts {K : PySem.W.Frag} {H : Hp} {t : Addr} {zs : List Str} (h : SgnOk zs) (ht : SqT K H t (zs.map V.str)) : TextsAt K H t zs :=
  ⟨ht, Nat.le_trans h.le (by decide), fun z hz => by rw [one_len h hz]; decide⟩
theorem inV_sgns (z : Str) (zs : List Str) : inV (.str z) (zs.map V.str) = decide (z ∈ zs) := by
  unfold inV
  rw [List.any_map]
  by_cases h : z ∈ zs
  · rw [decide_eq_true h]
    exact List.any_eq_true.mpr ⟨z, h, by simp [eqV]⟩
  · rw [decide_eq_false h]
    refine List.any_eq_false.mpr fun y hy => ?_
    simp only [Function.comp_def, eqV, beq_iff_eq]
    exact fun e => h (e ▸ hy)
theorem flat_sgns (zs : List Str) : (zs.map V.str).all flatV = true := by
  rw [List.all_map]
  exact List.all_eq_true.mpr fun z _ => rfl
section
variable {P : Program} {w : World} {K : PySem.W.Frag} {mg : Str → Option Value} {base : Heap} {Cp : Addr}
def spLim02 (K : PySem.W.Frag) (Cp : Addr) : Sp := fun vs H Q _ => ∃ x t zs us g o ps, vs = [.ref x, .ref t] ∧ PrS Cp H x zs g o ps ∧ SqT K H t (us.map V.str) ∧ SgnOk us ∧ (∀ z ∈ us, z ∈ zs) ∧ ∀ y H', Same H H' → PrS Cp H' y us g o (withinP us ps) → Q (.ref y) H'
abbrev N_plim : List Str := ["self", "signs", "sign", "swap", "pair", "price"]
theorem sc_plim : FnScope N_plim ["self", "signs"] (defScope (inClass (top 26) 12)) := ⟨rfl, rfl, rfl, by decide +kernel, rfl, by decide +kernel, by decide +kernel⟩
theorem f_plim {f : Addr} {fd : FuncData} (PD : PrD K mg Cp) (F : FunAt K "limited" "Prices.limited" (inClass (top 26) 12) [] f fd) (B : Blt mg) (c_require_signs : Cal P w K mg base 3 "require_signs" (spReqSigns K)) (c_are_prices2 : Cal P w K mg base 3 "are_prices" spAreP2) : FnOk P w K mg base CX0 6 f fd ["self", "signs"] (spLim02 K Cp) := by
  have SP := PD.sp
  obtain ⟨fi, fdi, M, Fi⟩ := PD.ip
  refine fnok_of F sc_plim (fun vs H Q E h => ?_) (fun cdv A outer s H vs Q E hr h => ?_)
  · obtain ⟨_, _, _, _, _, _, _, rfl, _⟩ := h; rfl
  · obtain ⟨x, t, zs, us, g, o, ps, rfl, ⟨dx, ys, qs, hP, N, pm, asc, pq, srt⟩, ht, ok, sub, hQ⟩ := h
    obtain ⟨p1, s1⟩ := SP.s1
    obtain ⟨p0, s0⟩ := SP.s0
    obtain ⟨p2, s2⟩ := SP.s2
    refine ⟨_, pss_cons (ps_expr (pe_c c_require_signs hr (by decide) (by rfl) (pa_cons (pv 1) pa_nil)))
      (pss_cons (ps_if (pt_not (pt_val (pe_callB (cr_all rfl) (by rfl) B.all (by decide +kernel) (pa_cons (pe_lc (own := [("sign", 2)]) (g := gName 2) (tt := tYes) (by rfl) sc_plim.nd (pi_tup (pv 1)) (blkOk_by (own := [("sign", 2)]) (N := N_plim) (sc := defScope (inClass (top 26) 12)) (by decide +kernel)) (fun _ _ _ _ _ => (pg_name (i := 2) sc_plim.nd rfl (Or.inl rfl))) (fun _ _ _ _ _ => pts_nil) (fun _ _ _ _ _ => (pe_cmp (pc_din (hu_of hr) (pv 2) (peSlK0 (K := K) rfl (pv 0))) rfl))) pa_nil)))) (pss_one ps_never) pss_nil)
      (pss_cons (ps_lock (ps_setDp1 (i := 3) (own := [("pair", 4), ("price", 5)]) (o0 := .dT []) (g := gTup K 2 (gCons (gName 4) (gCons (gName 5) gNil))) rfl (hu_of hr) sc_plim.nd rfl rfl (swD_true rfl rfl rfl (by decide +kernel)) (pi_itemsT (SlX.pe_sl (pv 0))) (blkOk_by (own := [("pair", 4), ("price", 5)]) (N := N_plim) (sc := defScope (inClass (top 26) 12)) (by decide +kernel)) (fun _ _ _ _ _ => (pg_tupK (K := K) (n := 2) rfl rfl (pgs_cons (pg_name (i := 4) sc_plim.nd rfl (Or.inl rfl)) (pgs_cons (pg_name (i := 5) sc_plim.nd rfl (Or.inl rfl)) pgs_nil))))
        (fun _ _ _ _ _ => pts_one (PW.pt (pw_and (pt_cmpR (inSeqK (K := K) rfl) (pe_ix (ixTK (K := K) rfl) (pv 4) pe_int (fun _ _ => rfl)) (pv 1) rfl) (pw_and1 (pt_cmpR (inSeqK (K := K) rfl) (pe_ix (ixTK (K := K) rfl) (pv 4) pe_int (fun _ _ => rfl)) (pv 1) rfl))))) (fun _ _ _ _ _ => pv 4) (fun _ _ _ _ _ => pv 5) (.inr rfl)))
      (pss_one (ps_ret (pe_makeKG M (f_pinit3 (P := P) (w := w) (mg := mg) (base := base) SP Fi B c_are_prices2) (hr.mono (by decide)) (by rfl) PD.gp (kb_pinit Fi) pass0
        (pk_cons (pe_dp1 (own := [("sign", 2)]) (o0 := .dK []) (g := gName 2) (tt := tYes) rfl (hu_of hr) sc_plim.nd (pi_tup (pv 1)) (blkOk_by (own := [("sign", 2)]) (N := N_plim) (sc := defScope (inClass (top 26) 12)) (by decide +kernel)) (fun _ _ _ _ _ => (pg_name (i := 2) sc_plim.nd rfl (Or.inl rfl))) (fun _ _ _ _ _ => pts_nil) (fun _ _ _ _ _ => pv 2) (fun _ _ _ _ _ => pe_dget (hu_of hr) (peSlK0 (K := K) rfl (pv 0)) (pv 2) (fun _ _ => rfl)) (.inl rfl))
        (pk_cons (pe_dp1 (own := [("sign", 2)]) (o0 := .dK []) (g := gName 2) (tt := tYes) rfl (hu_of hr) sc_plim.nd (pi_tup (pv 1)) (blkOk_by (own := [("sign", 2)]) (N := N_plim) (sc := defScope (inClass (top 26) 12)) (by decide +kernel)) (fun _ _ _ _ _ => (pg_name (i := 2) sc_plim.nd rfl (Or.inl rfl))) (fun _ _ _ _ _ => pts_nil) (fun _ _ _ _ _ => pv 2) (fun _ _ _ _ _ => pe_dget (hu_of hr) (peSlK0 (K := K) rfl (pv 0)) (pv 2) (fun _ _ => rfl)) (.inl rfl))
        (pk_cons (pv 3) pk_nil)))))))), ?_⟩
    obtain ⟨PA, PB, PS, ws, hs, w1, w0, w2, nAB, hA, hB, hS⟩ := id hP
    have subY : ∀ z ∈ us, z ∈ ys := fun z hz => pm.mem_iff.mpr (sub z hz)
    have u5 := ok.le
    refine ⟨_, rfl, t, us, rfl, sgn_texts ok ht, sgn_are ok, fun H1 e1 => ?_⟩
    have ht1 := Same.seqT e1 ht
    -- all of them are signs of the prices
    refine ⟨_, rfl, t, rfl, ⟨_, ht1⟩, fun D hD => ?_⟩
    refine lc_tplE ht1 hD (by rw [List.length_map]; omega) (fun _ => true) (fun x => .bl true) (fun x _ => rfl) (fun x _ H2 e2 Q q => q _ (Same.refl _)) (fun v hv _ H2 e2 Q q => ?_) (fun H2 e2 h2 => ?_)
    · obtain ⟨z, hz, rfl⟩ := List.mem_map.mp hv
      have e12 := e1.trans e2
      exact ⟨_, rfl, _, rfl, x, Cp, dx, p1, ws, 1, _, rfl, .inr ⟨e12 _ _ hs.1, e12 _ _ hs.2⟩, SP.sc, s1, w1, PA, some (.int (g z)), rfl, .inl ⟨_, .inr z, .inl (e12 _ _ hA), rfl, (dkF_val N.nd g (subY z hz)).symm⟩, q _ (Same.refl _)⟩
    have bs : (((us.map V.str).filter fun _ => true).map fun _ => V.bl true) = (List.replicate us.length true).map V.bl := by
      rw [filter_all, List.map_map, List.map_replicate]
      exact List.map_const' ..
    rw [bs] at h2
    refine ⟨D, _, rfl, .inl (.inl h2), _, rfl, ?_⟩
    rw [show (List.replicate us.length true).all id = true by simp]
    refine iteF ?_
    have e12 := e1.trans e2
    have hA2 := e12 _ _ hA
    have hB2 := e12 _ _ hB
    have hS2 := e12 _ _ hS
    have hs2 : Sl2 H2 x Cp dx ws := ⟨e12 _ _ hs.1, e12 _ _ hs.2⟩
    have ht2 := Same.seqT e12 ht
    clear h2 hD ht1 e2 bs
    -- swaps
    have xS : x ≠ PS := fun z => by
      have q := hs2.1
      rw [z, hS2] at q
      injection q with q
      unfold SlX.SlO at q
      cases q
    have dS : dx ≠ PS := fun z => by
      have q := hs2.2
      rw [z, hS2] at q
      cases q
    refine ⟨PS, _, hS2, trivial, fun od => ?_⟩
    have hs3 : Sl2 (upd H2 PS (.frz od (.dT (dtF qs)))) x Cp dx ws := ⟨by rw [upd_ne xS]; exact hs2.1, by rw [upd_ne dS]; exact hs2.2⟩
    refine ⟨_, rfl, x, Cp, dx, p2, ws, 2, _, rfl, .inr hs3, SP.sc, s2, w2, PS, od, _, rfl, upd_same, fun D hD => ?_⟩
    have nD : D ≠ PS := fun z => by rw [z, upd_same] at hD; cases hD
    have ht3 : SqT K (upd H2 PS (.frz od (.dT (dtF qs)))) t (us.map V.str) := by
      rcases ht2 with (h | ⟨o', h⟩) | h
      · exact .inl (.inl (by rw [upd_ne (fun z => by rw [z, hS2] at h; cases h)]; exact h))
      · exact .inl (.inr ⟨o', by rw [upd_ne (fun z => by rw [z, hS2] at h; cases h)]; exact h⟩)
      · exact .inr h
    have l100 := N.sl
    refine dp_it walk_itemsT (fun i H' => Same (upd H2 PS (.frz od (.dT (dtF qs)))) H' ∧ H' D = some (.dT (dtF (withinP us (qs.take i))))) ⟨same_new hD, by rw [List.take_zero]; exact upd_same⟩ (fun i H' _ e => e.1 _ _ upd_same) (fun i y H3 H4 hi e yy => ?_) (fun H3 e => ⟨e.1 _ _ upd_same, ?_⟩)
    · obtain ⟨T, k1, v1, q, h1, rfl, hT, hq, rfl⟩ := yy
      obtain ⟨e1', e2'⟩ := e
      obtain ⟨⟨⟨a, b⟩, n⟩, hpi, rfl, rfl⟩ : ∃ p : (Str × Str) × Int, qs[i]? = some p ∧ k1 = [.inr p.1.1, .inr p.1.2] ∧ v1 = .int p.2 := by
        unfold dtF at h1
        rw [List.getElem?_map] at h1
        obtain ⟨p, hp, e⟩ := Option.map_eq_some_iff.mp h1
        exact ⟨p, hp, (congrArg Prod.fst e).symm, (congrArg Prod.snd e).symm⟩
      have sT := same_new (o := .tup [.ref q, .int n]) hT
      have q4 := sT _ _ hq
      have ht4 := Same.seqT (e1'.trans sT) ht3
      have tk1 : withinP us (qs.take (i + 1)) = withinP us (qs.take i) ++ (if (decide (a ∈ us) && decide (b ∈ us)) = true then [((a, b), n)] else []) := by
        unfold withinP
        rw [List.take_add_one, hpi, List.filter_append]
        congr 1
        show List.filter _ [((a, b), n)] = _
        simp only [List.filter_cons, List.filter_nil]
      have stay : ∀ c u, upd H2 PS (.frz od (.dT (dtF qs))) c = some u → upd H3 T (.tup [.ref q, .int n]) c = some u := fun c u z => sT _ _ (e1' _ _ z)
      refine ⟨T, _, rfl, .inl (.inl upd_same), rfl, _, _, rfl, _, _, rfl, rfl, rfl, ?_⟩
      refine ⟨_, rfl, q, _, _, _, rfl, rfl, .inl (.inl q4), rfl, _, rfl, t, _, rfl, .inr ht4, rfl, flat_sgns us, _, rfl, ?_⟩
      have i1 : inV (.str a) (us.map V.str) = decide (a ∈ us) := inV_sgns a us
      have i2 : inV (.str b) (us.map V.str) = decide (b ∈ us) := inV_sgns b us
      have sm : Same (upd H2 PS (.frz od (.dT (dtF qs)))) (upd H3 T (.tup [.ref q, .int n])) := stay
      simp only [Bool.false_eq_true, if_false]
      rw [show inV (kV (Sum.inr a)) (us.map V.str) = decide (a ∈ us) from i1]
      by_cases ca : a ∈ us
      · refine iteDT ca ⟨_, rfl, q, _, _, _, rfl, rfl, .inl (.inl q4), rfl, _, rfl, t, _, rfl, .inr ht4, rfl, flat_sgns us, _, rfl, ?_⟩
        simp only [Bool.false_eq_true, if_false]
        rw [show inV (kV (Sum.inr b)) (us.map V.str) = decide (b ∈ us) from i2]
        by_cases cb : b ∈ us
        · refine iteDT cb ?_
          refine ⟨_, rfl, _, rfl, _, .inr ⟨_, [.inr a, .inr b], q, sT _ _ e2', rfl, q4, ?_, rfl⟩, fun c u z => ?_, ?_⟩
          · have : 100000 < sizeLine := by decide
            have : (withinP us (qs.take i)).length ≤ qs.length := Nat.le_trans (List.length_filter_le ..) (by rw [List.length_take]; omega)
            simp only [dtF, List.length_map]
            omega
          · rw [upd_ne (ne_of_none z hD)]; exact sm _ _ z
          · rw [upd_same, tk1, decide_eq_true ca, decide_eq_true cb, if_pos (by decide : (true && true) = true), dtF_new]
            intro z
            obtain ⟨e, he, ee⟩ := List.mem_map.mp z
            have he2 := (List.mem_filter.mp he).1
            exact take_nodup (l := qs.map Prod.fst) N.sn (i := i) (a := (a, b)) (by rw [List.getElem?_map, hpi]; rfl) (by rw [← List.map_take]; exact List.mem_map.mpr ⟨e, he2, ee⟩)
        · refine iteDF cb ?_
          refine ⟨sm, ?_⟩
          rw [tk1, decide_eq_false cb, Bool.and_false, if_neg (by decide), List.append_nil]
          exact sT _ _ e2'
      · refine iteDF ca ?_
        refine ⟨sm, ?_⟩
        rw [tk1, decide_eq_false ca, Bool.false_and, if_neg (by decide), List.append_nil]
        exact sT _ _ e2'
    obtain ⟨e1', e2'⟩ := e
    have ll : (dtF qs).length = qs.length := by simp [dtF]
    rw [ll, List.take_length] at e2'
    have e23 : Same H2 (upd H3 PS (.dT (dtF qs))) := fun c u z => by
      by_cases zz : c = PS
      · rw [zz, upd_same]; rw [zz, hS2] at z; exact z
      · rw [upd_ne zz]; exact e1' _ _ (by rw [upd_ne zz]; exact z)
    have hD3 : upd H3 PS (.dT (dtF qs)) D = some (.dT (dtF (withinP us qs))) := by rw [upd_ne nD]; exact e2'
    generalize upd H3 PS (.dT (dtF qs)) = H4 at e23 hD3 ⊢
    clear e1' e2' hs3 ht3 hD od
    have ht4 := Same.seqT e23 ht2
    have NW := N.within subY ok.nodup ok.pos
    refine ⟨_, rfl, t, rfl, ⟨_, ht4⟩, fun D5 hD5 => dp_signsT ht4 ok.nodup (by omega) hD5 g (fun _ _ => by kernel_rfl) (fun y _ H2 _ Q q => ⟨_, rfl, q⟩) (fun y hy H5 e5 Q q => ?_) (fun H5 e5 hd5 => ?_)⟩
    · have e25 := e23.trans e5
      exact ⟨_, rfl, x, Cp, dx, p1, ws, 1, _, rfl, .inr ⟨e25 _ _ hs2.1, e25 _ _ hs2.2⟩, SP.sc, s1, w1, _, rfl, PA, .int (g y), rfl, .inl ⟨_, .inr y, .inl (e25 _ _ hA2), rfl, (dkF_val N.nd g (subY y hy)).symm⟩, q _ (Same.refl _)⟩
    have ht5 := Same.seqT e5 ht4
    refine ⟨_, rfl, t, rfl, ⟨_, ht5⟩, fun D6 hD6 => dp_signsT ht5 ok.nodup (by omega) hD6 o (fun _ _ => by kernel_rfl) (fun y _ H2 _ Q q => ⟨_, rfl, q⟩) (fun y hy H6 e6 Q q => ?_) (fun H6 e6 hd6 => ?_)⟩
    · have e26 := (e23.trans e5).trans e6
      exact ⟨_, rfl, x, Cp, dx, p0, ws, 0, _, rfl, .inr ⟨e26 _ _ hs2.1, e26 _ _ hs2.2⟩, SP.sc, s0, w0, _, rfl, PB, .int (o y), rfl, .inl ⟨_, .inr y, .inl (e26 _ _ hB2), rfl, (dkF_val N.nd o (subY y hy)).symm⟩, q _ (Same.refl _)⟩
    have e08 : Same H H6 := ((e12.trans e23).trans e5).trans e6
    have hd5' := e6 _ _ hd5
    have hD6' := e6 _ _ (e5 _ _ hD3)
    refine ⟨_, rfl, rfl, rfl, fun y dy hy hdy n => ?_⟩
    have nx : ∀ b u, H6 b = some u → b ≠ y ∧ b ≠ dy := fun b u e => ⟨ne_of_none e hy, ne_of_none e hdy⟩
    have up : ∀ b u, H6 b = some u → upd (upd H6 dy (.own y)) y (.ins Cp dy []) b = some u := fun b u e => by
      rw [upd_ne (nx b u e).1, upd_ne (nx b u e).2]; exact e
    refine ⟨y, dy, D5, D6, D, us, us, _, _, _, rfl, upd_same, by rw [upd_ne n, upd_same], n, up _ _ hd5', up _ _ hd6, up _ _ hD6', NW, fun H9 ys' qs' k2 hP2 N2 pm' asc' pq' srt' => ⟨rfl, hQ y H9 (fun b u z => ?_) ⟨dy, ys', qs', hP2, N2, pm', asc', pq'.trans (pq.filter _), srt'⟩⟩⟩
    exact k2 b u (nx _ _ (e08 _ _ z)).1 (nx _ _ (e08 _ _ z)).2 (up _ _ (e08 _ _ z))
end
end MN
/-! Prices.times: let, or InvalidOperation -/
namespace MN
open PySem PySem.Spec PyProof.Rows L2
/-- the class InvalidOperation -/
structure ErrC (K : PySem.W.Frag) (mg : Str → Option Value) (IO : Addr) : Prop where
  g : mg "InvalidOperation" = some (.ref IO)
  x : PySem.W.excIn K IO He.veBase "ValueError.__new__" = true
  k : PySem.W.keepIn K (.ref IO) = true
  b : PySem.W.subIn K (.ref IO) (.type "BaseException") = some true
  t : PySem.W.typeIn K (.ref IO) = some (.type "type")
  e : PySem.W.exmOne K (.ref IO) (.ref IO) = some true
theorem all_perm' {α : Type} {l m : List α} (h : l.Perm m) (f : α → Bool) : l.all f = m.all f := by
  cases e : m.all f with
  | true => exact List.all_eq_true.mpr fun x hx => List.all_eq_true.mp e x (h.mem_iff.mp hx)
  | false =>
    refine Bool.eq_false_iff.mpr fun q => ?_
    rw [← Bool.not_eq_true] at e
    exact e (List.all_eq_true.mpr fun x hx => List.all_eq_true.mp q x (h.mem_iff.mpr hx))
theorem fitsP_perm {ys ys2 zs zs2 : List Str} (g o : Str → Int) {qs ps : List SP2} (h1 : ys.Perm zs) (h2 : ys2.Perm zs2) (h3 : qs.Perm ps) : fitsP ys ys2 g o qs = fitsP zs zs2 g o ps := by
  unfold fitsP
  rw [all_perm' ((h1.map g).append (h2.map o)), all_perm' h3]
theorem PrN.timeM {zs zs2 : List Str} {g o : Str → Int} {ps : List SP2} (N : PrN zs zs2 g o ps) {m : Int} (m1 : 1 ≤ m) : PrM zs zs2 (fun z => g z * m) (fun z => o z * m) (timeP m ps) := by
  have up : ∀ n : Int, 1 ≤ n → 1 ≤ n * m := fun n h => by
    have := Int.mul_le_mul h m1 (by decide) (by omega)
    omega
  refine ⟨N.sg, N.nd, N.pos, N.le, N.pm, fun z h => up _ (N.pg z h).1, fun z h => up _ (N.po z h).1, by rw [timeP_keys]; exact N.sn, fun x hx => ?_, by unfold timeP; rw [List.length_map]; exact N.sl⟩
  unfold timeP at hx
  obtain ⟨e, he, rfl⟩ := List.mem_map.mp hx
  obtain ⟨a, b, c, d, _⟩ := N.sp e he
  exact ⟨a, b, c, up _ d⟩
theorem PrM.fits {zs zs2 : List Str} {g o : Str → Int} {ps : List SP2} (M : PrM zs zs2 g o ps) (h : fitsP zs zs2 g o ps = true) : PrN zs zs2 g o ps := by
  unfold fitsP at h
  rw [Bool.and_eq_true, List.all_eq_true, List.all_eq_true] at h
  obtain ⟨h1, h2⟩ := h
  refine ⟨M.sg, M.nd, M.pos, M.le, M.pm, fun z hz => ⟨M.pg z hz, of_decide_eq_true (h1 _ (List.mem_append_left _ (List.mem_map.mpr ⟨z, hz, rfl⟩)))⟩, fun z hz => ⟨M.po z hz, of_decide_eq_true (h1 _ (List.mem_append_right _ (List.mem_map.mpr ⟨z, M.pm.mem_iff.mpr hz, rfl⟩)))⟩, M.sn, fun x hx => ?_, M.sl⟩
  obtain ⟨a, b, c, d⟩ := M.sp x hx
  exact ⟨a, b, c, d, of_decide_eq_true (h2 x hx)⟩
section
variable {P : Program} {w : World} {K : PySem.W.Frag} {mg : Str → Option Value} {base : Heap} {Cp IO : Addr}
def spTim02 (Cp IO : Addr) : Sp := fun vs H Q E => ∃ x m zs g o ps, vs = [.ref x, .int m] ∧ PrS Cp H x zs g o ps ∧ 1 ≤ m ∧ m < big ∧
  (fitsP zs zs (fun z => g z * m) (fun z => o z * m) (timeP m ps) = true → ∀ y H', Same H H' → PrS Cp H' y zs (fun z => g z * m) (fun z => o z * m) (timeP m ps) → Q (.ref y) H') ∧
  (fitsP zs zs (fun z => g z * m) (fun z => o z * m) (timeP m ps) = false → ∀ H', Same H H' → E (.ref IO) none H')
abbrev N_ptim : List Str := ["self", "many", "tables", "key", "price", "table"]
theorem sc_ptim : FnScope N_ptim ["self", "many"] (defScope (inClass (top 26) 13)) := ⟨rfl, rfl, rfl, by decide +kernel, rfl, by decide +kernel, by decide +kernel⟩
abbrev scT2 : Scope := { kind := .function, names := [(".0", .local), ("table", .local), ("many", .cell)], isGenerator := false, isCoroutine := false }
theorem f_ptim {f : Addr} {fd : FuncData} (PD : PrD K mg Cp) (ER : ErrC K mg IO) (F : FunAt K "times" "Prices.times" (inClass (top 26) 13) [] f fd) (B : Blt mg) (GG : GlC mg "GREATEST" (.int big)) (c_are_prices3 : Cal P w K mg base 3 "are_prices" spAreP3) (c_are_prices2 : Cal P w K mg base 3 "are_prices" spAreP2) (c_require_number : Cal P w K mg base 2 "require_number" spReqNumber) : FnOk P w K mg base (L2.CX P w) 6 f fd ["self", "many"] (spTim02 Cp IO) := by
  have SP := PD.sp
  obtain ⟨fi, fdi, M, Fi⟩ := PD.ip
  refine F.ok sc_ptim (fun vs H Q E h => ?_) (fun cdv A outer s H vs Q E hr h => ?_)
  · obtain ⟨_, _, _, _, _, _, rfl, _⟩ := h; rfl
  · obtain ⟨x, m, zs, g, o, ps, rfl, ⟨dx, ys, qs, hP, N, pm, asc, pq, srt⟩, m1, m9, hQ, hE⟩ := h
    rw [← fitsP_perm (fun z => g z * m) (fun z => o z * m) pm pm (show (timeP m qs).Perm (timeP m ps) from pq.map _)] at hQ hE
    obtain ⟨p0, s0⟩ := SP.s0
    obtain ⟨p1, s1⟩ := SP.s1
    obtain ⟨p2, s2⟩ := SP.s2
    refine ⟨_, pss_cons (ps_expr (pe_c c_require_number hr (by decide) (by rfl) (pa_cons (pv 1) (pa_cons pe_int (pa_cons (pe_gl (by rfl) GG) pa_nil)))))
      (pss_cons (ps_setLc (i := 2) (own := [("table", 5)]) (g := gName 5) (tt := tYes) (by rfl) sc_ptim.nd rfl rfl (sw_true rfl rfl rfl (by decide +kernel)) (pi_tup (pe_tup (pa_cons (SlX.pe_sl (pv 0)) (pa_cons (SlX.pe_sl (pv 0)) (pa_cons (SlX.pe_sl (pv 0)) pa_nil))))) (blkOk_by (own := [("table", 5)]) (N := N_ptim) (sc := defScope (inClass (top 26) 13)) (by decide +kernel)) (fun _ _ _ _ _ => (pg_name (i := 5) sc_ptim.nd rfl (Or.inl rfl))) (fun _ _ _ _ _ => pts_nil)
        (fun _ _ _ _ _ => pe_or2
          (pe_lock (pe_dp1 (own := [("key", 3), ("price", 4)]) (o0 := .dK []) (g := gTup K 2 (gCons (gName 3) (gCons (gName 4) gNil))) (tt := tYes) rfl (hu_of hr) sc_ptim.nd (pi_items (pv 5)) (blkOk_by (own := [("key", 3), ("price", 4)]) (N := N_ptim) (sc := scT2) (by decide +kernel)) (fun _ _ _ _ _ => (pg_tupK (K := K) (n := 2) rfl rfl (pgs_cons (pg_name (i := 3) sc_ptim.nd rfl (Or.inl rfl)) (pgs_cons (pg_name (i := 4) sc_ptim.nd rfl (Or.inl rfl)) pgs_nil)))) (fun _ _ _ _ _ => pts_nil) (fun _ _ _ _ _ => pv 3) (fun _ _ _ _ _ => pe_op op_mul (pv 4) (pv 1)) (.inl rfl)))
          (pe_lock (pe_dp1 (own := [("key", 3), ("price", 4)]) (o0 := .dT []) (g := gTup K 2 (gCons (gName 3) (gCons (gName 4) gNil))) (tt := tYes) rfl (hu_of hr) sc_ptim.nd (pi_itemsT (pv 5)) (blkOk_by (own := [("key", 3), ("price", 4)]) (N := N_ptim) (sc := scT2) (by decide +kernel)) (fun _ _ _ _ _ => (pg_tupK (K := K) (n := 2) rfl rfl (pgs_cons (pg_name (i := 3) sc_ptim.nd rfl (Or.inl rfl)) (pgs_cons (pg_name (i := 4) sc_ptim.nd rfl (Or.inl rfl)) pgs_nil)))) (fun _ _ _ _ _ => pts_nil) (fun _ _ _ _ _ => pv 3) (fun _ _ _ _ _ => pe_op op_mul (pv 4) (pv 1)) (.inr rfl)))))
      (pss_cons (ps_if (pt_not (pt_val (pe_c c_are_prices3 hr (by decide) (by rfl) (pa_cons (pe_ix ix_list (pv 2) pe_int (fun _ _ => rfl)) (pa_cons (pe_ix ix_list (pv 2) pe_int (fun _ _ => rfl)) (pa_cons (pe_ix ix_list (pv 2) pe_int (fun _ _ => rfl)) pa_nil)))))) (pss_one (ps_raise rfl (takes_of rfl rfl rfl rfl) (pmk_own PySem.F.excBase_ValueError ER.x ER.g ER.k (raises_own ER.b ER.t) (by rfl)))) pss_nil)
      (pss_one (ps_ret (pe_makeKG M (f_pinit3 (P := P) (w := w) (mg := mg) (base := base) SP Fi B c_are_prices2) (hr.mono (by decide)) (by rfl) PD.gp (kb_pinit Fi) pass0 (pk_cons (pe_ix ix_list (pv 2) pe_int (fun _ _ => rfl)) (pk_cons (pe_ix ix_list (pv 2) pe_int (fun _ _ => rfl)) (pk_cons (pe_ix ix_list (pv 2) pe_int (fun _ _ => rfl)) pk_nil)))))))), ?_⟩
    obtain ⟨PA, PB, PS, ws, hs, w1, w0, w2, nAB, hA, hB, hS⟩ := hP
    have im : isInt m = true := by unfold isInt; rw [decide_eq_true m9, decide_eq_true (show -big < m from Int.lt_of_lt_of_le (by decide) m1)]; rfl
    refine ⟨_, rfl, m, 1, big, rfl, im, m1, Int.le_of_lt m9, ?_⟩
    refine ⟨_, rfl, x, Cp, dx, p1, ws, 1, _, rfl, .inr hs, SP.sc, s1, w1, _, rfl, x, Cp, dx, p0, ws, 0, _, rfl, .inr hs, SP.sc, s0, w0, _, rfl, x, Cp, dx, p2, ws, 2, _, rfl, .inr hs, SP.sc, s2, w2, (by show 3 ≤ sizeLine; decide), fun T hT => ?_⟩
    have sT := same_new (o := .tup [.ref PA, .ref PB, .ref PS]) hT
    have uT : SqT K (upd H T (.tup [.ref PA, .ref PB, .ref PS])) T [.ref PA, .ref PB, .ref PS] := .inl (.inl upd_same)
    refine ⟨T, rfl, ⟨_, uT⟩, fun D hD => ?_⟩
    generalize upd H T (.tup [.ref PA, .ref PB, .ref PS]) = H1 at sT uT hD ⊢
    refine lc_newF walk_tup [.ref PA, .ref PB, .ref PS] rfl (by show 3 ≤ 1000; decide) (fun _ _ _ _ _ y => y) hD (fun H' e => Same.seqT e uT) (fun _ _ => by kernel_rfl) (fun k v H' => (k = 0 → H' v = some (.dK (dkF ys fun z => g z * m))) ∧ (k = 1 → H' v = some (.dK (dkF ys fun z => o z * m))) ∧ (k = 2 → H' v = some (.dT (dtF (timeP m qs)))) ∧ ∃ u, H' v = some u)
      (fun k v _ _ up n r => ⟨fun e => up _ _ n (r.1 e), fun e => up _ _ n (r.2.1 e), fun e => up _ _ n (r.2.2.1 e), r.2.2.2.elim fun u h => ⟨u, up _ _ n h⟩⟩) (fun _ _ _ r => r.2.2.2) (fun i y hy H2 e2 _ Q' q' => ?_) (fun H2 qs' e2 u2 nq nD lq r2 => ?_)
    · have back : ∀ {d D2 : Addr} {u u' : HO} {od : Obj} {H3 : Hp}, H2 d = some u → upd H2 d (.frz od u) D2 = none → Same (upd H2 d (.frz od u)) H3 → H3 D2 = some u' → H2 D2 = none ∧ Same H2 (upd H3 d u) ∧ (upd H3 d u) D2 = some u' := fun {d D2 u u' od H3} hd hD2 e3 u3 => by
        have n : D2 ≠ d := fun z => by rw [z, upd_same] at hD2; cases hD2
        rw [upd_ne n] at hD2
        refine ⟨hD2, fun b v hb => ?_, by rw [upd_ne n]; exact u3⟩
        by_cases z : b = d
        · subst z; rw [upd_same]; rw [hd] at hb; exact hb
        · rw [upd_ne z]; exact e3 _ _ (by rw [upd_ne z]; exact hb)
      match i, hy with
      | 0, hy =>
        cases hy
        have hA2 := e2 _ _ (sT _ _ hA)
        refine .inl ⟨PA, _, hA2, trivial, fun od => ⟨_, rfl, PA, od, _, rfl, upd_same, fun D2 hD2 => ?_⟩⟩
        refine dp_itemsK (fun n => n * m) upd_same N.nd (Nat.le_trans N.le (by decide)) hD2 (fun _ _ => by kernel_rfl) (fun z hz H3 e3 Q3 q3 => ⟨_, rfl, q3⟩) (fun z hz H3 e3 Q3 q3 => ⟨_, rfl, _, rfl, _, _, rfl, rfl, .inl ⟨by have := N.pg z hz; omega, by have := N.pg z hz; omega⟩, q3 _ (Same.refl _)⟩) (fun H3 e3 u3 => ?_)
        obtain ⟨b1, b2, b3⟩ := back hA2 hD2 e3 u3
        exact ⟨e3 _ _ upd_same, q' D2 _ b1 b2 ⟨fun _ => b3, fun e => absurd e (by decide), fun e => absurd e (by decide), _, b3⟩⟩
      | 1, hy =>
        cases hy
        have hA2 := e2 _ _ (sT _ _ hB)
        refine .inl ⟨PB, _, hA2, trivial, fun od => ⟨_, rfl, PB, od, _, rfl, upd_same, fun D2 hD2 => ?_⟩⟩
        refine dp_itemsK (fun n => n * m) upd_same (N.pm.nodup_iff.mpr N.nd) (by rw [N.pm.length_eq]; exact Nat.le_trans N.le (by decide)) hD2 (fun _ _ => by kernel_rfl) (fun z hz H3 e3 Q3 q3 => ⟨_, rfl, q3⟩) (fun z hz H3 e3 Q3 q3 => ⟨_, rfl, _, rfl, _, _, rfl, rfl, .inl ⟨by have := N.po z (N.pm.mem_iff.mp hz); omega, by have := N.po z (N.pm.mem_iff.mp hz); omega⟩, q3 _ (Same.refl _)⟩) (fun H3 e3 u3 => ?_)
        obtain ⟨b1, b2, b3⟩ := back hA2 hD2 e3 u3
        exact ⟨e3 _ _ upd_same, q' D2 _ b1 b2 ⟨fun e => absurd e (by decide), fun _ => b3, fun e => absurd e (by decide), _, b3⟩⟩
      | 2, hy =>
        cases hy
        have hA2 := e2 _ _ (sT _ _ hS)
        refine .inr ⟨PS, _, hA2, trivial, fun od => ⟨_, rfl, PS, od, _, rfl, upd_same, fun D2 hD2 => ?_⟩⟩
        refine dp_itemsT (fun n => n * m) upd_same N.sn (Nat.le_trans N.sl (by decide)) hD2 (fun _ _ => by kernel_rfl) (fun z hz q H3 e3 Q3 q3 => ⟨_, rfl, q3⟩) (fun z hz q H3 e3 Q3 q3 => ⟨_, rfl, _, rfl, _, _, rfl, rfl, .inl ⟨by have := N.sp z hz; omega, by have := N.sp z hz; omega⟩, q3 _ (Same.refl _)⟩) (fun H3 e3 u3 => ?_)
        obtain ⟨b1, b2, b3⟩ := back hA2 hD2 e3 u3
        exact ⟨e3 _ _ upd_same, q' D2 _ b1 b2 ⟨fun e => absurd e (by decide), fun e => absurd e (by decide), fun _ => b3, _, b3⟩⟩
      | i + 3, hy => cases hy
    · match qs', lq with
      | [q0, q1, q2], _ =>
        have h0 := (r2 0 q0 rfl).1 rfl
        have h1 := (r2 1 q1 rfl).2.1 rfl
        have h2 := (r2 2 q2 rfl).2.2.1 rfl
        have hD2 : SqL K H2 D [.ref q0, .ref q1, .ref q2] := SqL.of u2
        have MM := N.timeM m1
        refine ⟨_, rfl, D, _, 0, _, rfl, rfl, hD2, rfl, _, rfl, D, _, 1, _, rfl, rfl, hD2, rfl, _, rfl, D, _, 2, _, rfl, rfl, hD2, rfl, q0, q1, q2, ys, ys, _, _, _, rfl, h0, h1, h2, MM, fun H3 e3 => ⟨_, rfl, ?_⟩⟩
        have e03 : Same H H3 := (sT.trans e2).trans e3
        cases hf : fitsP ys ys (fun z => g z * m) (fun z => o z * m) (timeP m qs) with
        | false => exact iteT (hE hf _ e03)
        | true =>
        refine iteF ?_
        have NN := MM.fits hf
        have hD3 := Same.seq e3 hD2
        refine ⟨_, rfl, D, _, 0, _, rfl, rfl, hD3, rfl, _, rfl, D, _, 1, _, rfl, rfl, hD3, rfl, _, rfl, D, _, 2, _, rfl, rfl, hD3, rfl, rfl, rfl, fun y dy hy hdy n => ?_⟩
        have nx : ∀ b u, H3 b = some u → b ≠ y ∧ b ≠ dy := fun b u e => ⟨ne_of_none e hy, ne_of_none e hdy⟩
        have up : ∀ b u, H3 b = some u → upd (upd H3 dy (.own y)) y (.ins Cp dy []) b = some u := fun b u e => by
          rw [upd_ne (nx b u e).1, upd_ne (nx b u e).2]; exact e
        refine ⟨y, dy, q0, q1, q2, ys, ys, _, _, _, rfl, upd_same, by rw [upd_ne n, upd_same], n, up _ _ (e3 _ _ h0), up _ _ (e3 _ _ h1), up _ _ (e3 _ _ h2), NN, fun H4 ys' qs2 k2 hP2 N2 pm' asc' pq' srt' => ⟨rfl, hQ hf y H4 (fun b u z => ?_) ⟨dy, ys', qs2, hP2, N2, pm'.trans pm, asc', pq'.trans (pq.map _), srt'⟩⟩⟩
        exact k2 b u (nx _ _ (e03 _ _ z)).1 (nx _ _ (e03 _ _ z)).2 (up _ _ (e03 _ _ z))
end
end MN
/-! the draws of the laws k05 .. k09: rates, priced -/
namespace MN
open PySem PySem.Spec PyProof.Rows L2
theorem getElem?_mem_take {α : Type} {l : List α} {k i : Nat} {a : α} (h : l[k]? = some a) (hk : k < i) : a ∈ l.take i := by
  refine List.mem_iff_getElem?.mpr ⟨k, ?_⟩
  rw [List.getElem?_take, if_pos hk]; exact h
section
variable {K : PySem.W.Frag} {l p D : Addr} {H1 : Hp} {σ : L2.St} {vs : List Nat} {te : TE} {j : Nat} {Qd : Hp → Prop} {W : Int} {zs : List Str}
/-- [(z, a drawn number) for z in signs] -/
theorem lc_draws (hl : SqL K H1 l (strsV zs)) (nlp : l ≠ p) (nd : zs.Nodup) (l5 : zs.length ≤ 1000) (hp : Pot H1 p) (hD : H1 D = none) (hw : ∀ z ∈ zs, wipe ((wipe σ vs).set j (some (.str z))) vs = wipe σ vs)
    (he : ∀ z ∈ zs, ∀ H2, Ex p H1 H2 → ∀ Q : VK, (∀ n H3 T, 1 ≤ n → n ≤ W → Ex p H2 H3 → H3 T = none → Q (.ref T) (upd H3 T (.tup [.str z, .int n]))) → te ((wipe σ vs).set j (some (.str z))) H2 Q)
    (hd : ∀ H' ts g, Ex p H1 H' → H' D = some (.lst (ts.map V.ref)) → (∀ z ∈ zs, 1 ≤ g z ∧ g z ≤ W) → Paired (fun t (kv : Key × V) => SqT K H' t [kV kv.1, kv.2]) ts (dkF zs g) → Qd H') : LcGoal (Itl K l) (gName j) tYes te vs σ H1 D Qd := by
  have nDp : D ≠ p := by
    obtain ⟨_, _, _, e⟩ := hp
    exact (ne_of_none e hD).symm
  refine lc_it walk_list (fun i H' => Ex p H1 H' ∧ ∃ (ts : List Addr) (g : Str → Int), ts.length = i ∧ H' D = some (.lst (ts.map V.ref)) ∧ (∀ z ∈ zs.take i, 1 ≤ g z ∧ g z ≤ W) ∧ ∀ (k : Nat) (t : Addr), ts[k]? = some t → t ≠ p ∧ t ≠ D ∧ ∃ z, zs[k]? = some z ∧ H' t = some (.tup [.str z, .int (g z)])) ⟨(Ex.refl hp).new hD, [], fun _ => 1, rfl, upd_same, by simp, by simp⟩ (fun i H' _ e => e.1.seqL hl nlp) (fun i x Ha Hb hi e y => ?_) (fun H' e => ?_)
  · obtain ⟨rfl, hx⟩ := y
    obtain ⟨ex, ts, g, lt, hDa, gb, at_⟩ := e
    have hx' : (zs.map V.str)[i]? = some x := hx
    rw [List.getElem?_map] at hx'
    obtain ⟨z, hz, rfl⟩ := Option.map_eq_some_iff.mp hx'
    have mz := List.mem_of_getElem? hz
    have nz := take_nodup nd hz
    refine ⟨hw z mz, yes_q (iteT (he z mz _ ex _ fun n H3 T n1 n2 ex3 hT => ⟨ts.map V.ref, ?_, ?_, ?_, ts ++ [T], fun y => if y = z then n else g y, ?_, ?_, fun y hy => ?_, fun k t ht => ?_⟩))⟩
    · have := ex3.keep _ _ nDp hDa
      rw [upd_ne (ne_of_none this hT)]; exact this
    · have : 100000 < sizeLine := by decide
      have : i < (strsV zs).length := hi
      simp [strsV] at this
      rw [List.length_map]
      omega
    · exact ((ex.trans ex3).new hT).put hD nDp
    · rw [List.length_append, lt]; rfl
    · rw [upd_same, List.map_append]; rfl
    · show 1 ≤ (if y = z then n else g y) ∧ (if y = z then n else g y) ≤ W
      rw [List.take_add_one, hz] at hy
      by_cases e : y = z
      · rw [if_pos e]; exact ⟨n1, n2⟩
      · rw [if_neg e]
        refine gb y ?_
        simpa [e] using hy
    · have hDc := ex3.keep _ _ nDp hDa
      by_cases hk : k < ts.length
      · rw [List.getElem?_append_left hk] at ht
        obtain ⟨a1, a2, y, hy, hty⟩ := at_ k t ht
        have q3 := ex3.keep _ _ a1 hty
        refine ⟨a1, a2, y, hy, ?_⟩
        rw [upd_ne a2, upd_ne (ne_of_none q3 hT), q3]
        show _ = some (HO.tup [V.str y, V.int (if y = z then n else g y)])
        rw [if_neg]
        intro e
        exact nz (by rw [← e]; exact getElem?_mem_take hy (by omega))
      · have hk2 : k = ts.length := by
          have := (List.getElem?_eq_some_iff.mp ht).1
          rw [List.length_append, List.length_singleton] at this
          omega
        subst hk2
        rw [List.getElem?_append_right (Nat.le_refl _), Nat.sub_self] at ht
        cases (show some T = some t from ht)
        obtain ⟨_, _, _, e3⟩ := ex3.pot
        refine ⟨(ne_of_none e3 hT).symm, (ne_of_none hDc hT).symm, z, by rw [lt]; exact hz, ?_⟩
        rw [upd_ne (ne_of_none hDc hT).symm, upd_same]
        show _ = some (HO.tup [V.str z, V.int (if z = z then n else g z)])
        rw [if_pos rfl]
  · obtain ⟨ex, ts, g, lt, hDa, gb, at_⟩ := e
    have lz : (strsV zs).length = zs.length := by simp [strsV]
    rw [lz] at lt gb
    rw [List.take_length] at gb
    refine hd H' ts g ex hDa gb (paired_of (by simp [dkF, lt]) fun k t kv ht hkv => ?_)
    obtain ⟨_, _, z, hz, htz⟩ := at_ k t ht
    unfold dkF at hkv
    rw [List.getElem?_map, hz] at hkv
    cases hkv
    exact .inl (.inl htz)
end
/-- swap prices drawn so far -/
structure SubP (zs : List Str) (i j : Nat) (ps : List ((Str × Str) × Int)) : Prop where
  nd : (ps.map Prod.fst).Nodup
  ks : ∀ e ∈ ps, (e.1.1 ∈ zs.take i ∨ (zs[i]? = some e.1.1 ∧ e.1.2 ∈ zs.take j)) ∧ e.1.1 ∈ zs ∧ e.1.2 ∈ zs ∧ e.1.1 ≠ e.1.2 ∧ 1 ≤ e.2 ∧ e.2 ≤ 18
theorem SubP.next {zs : List Str} {i j : Nat} {ps : List ((Str × Str) × Int)} (S : SubP zs i j ps) : SubP zs i (j + 1) ps :=
  ⟨S.nd, fun e he => ⟨(S.ks e he).1.imp id fun q => ⟨q.1, by rw [List.take_add_one]; exact List.mem_append_left _ q.2⟩, (S.ks e he).2⟩⟩
theorem SubP.row {zs : List Str} {i j : Nat} {ps : List ((Str × Str) × Int)} (S : SubP zs i j ps) : SubP zs (i + 1) 0 ps :=
  ⟨S.nd, fun e he => ⟨.inl (by
    rw [List.take_add_one]
    rcases (S.ks e he).1 with q | q
    · exact List.mem_append_left _ q
    · rw [q.1]; exact List.mem_append_right _ (by simp)), (S.ks e he).2⟩⟩
theorem SubP.new {zs : List Str} {i j : Nat} {ps : List ((Str × Str) × Int)} {x y : Str} {n : Int} (S : SubP zs i j ps) (nd : zs.Nodup) (hi : zs[i]? = some x) (hj : zs[j]? = some y) (ne : x ≠ y) (n1 : 1 ≤ n) (n2 : n ≤ 18) : SubP zs i (j + 1) (ps ++ [((x, y), n)]) ∧ (x, y) ∉ ps.map Prod.fst := by
  have nw : (x, y) ∉ ps.map Prod.fst := fun q => by
    obtain ⟨e, he, q⟩ := List.mem_map.mp q
    rcases (S.ks e he).1 with a | a
    · rw [q] at a; exact take_nodup nd hi a
    · rw [q] at a; exact take_nodup nd hj a.2
  refine ⟨⟨?_, fun e he => ?_⟩, nw⟩
  · rw [List.map_append, List.nodup_append]
    refine ⟨S.nd, by simp, fun a ha b hb => ?_⟩
    rw [show b = (x, y) by simpa using hb]
    exact fun z => nw (by rw [← z]; exact ha)
  · rcases List.mem_append.mp he with he | he
    · exact S.next.ks e he
    · rw [List.mem_singleton.mp he]
      exact ⟨.inr ⟨hi, by rw [List.take_add_one, hj]; simp⟩, List.mem_of_getElem? hi, List.mem_of_getElem? hj, ne, n1, n2⟩
theorem SubP.len {zs : List Str} {i j : Nat} {ps : List ((Str × Str) × Int)} (S : SubP zs i j ps) : ps.length ≤ zs.length * zs.length := by
  have := pairs_len (ys := zs) S.nd fun e he => by
    obtain ⟨x, hx, rfl⟩ := List.mem_map.mp he
    exact ⟨(S.ks x hx).2.1, (S.ks x hx).2.2.1⟩
  rwa [List.length_map] at this
end MN
/-! _law_tables: drawn put, out and swap prices -/
namespace MN
open PySem PySem.Spec PyProof.Rows L2
theorem Ex.obj {p : Addr} {H H' : Hp} (ex : Ex p H H') (hp : Pot H p) {b : Addr} {u : HO} (h : H b = some u) (hu : ∀ a b c, u ≠ potO a b c) : H' b = some u :=
  ex.keep _ _ (fun z => by obtain ⟨a, b, c, e⟩ := hp; rw [z, e] at h; exact hu a b c (Option.some.inj h).symm) h
theorem Ex.tup {p : Addr} {H H' : Hp} (ex : Ex p H H') (hp : Pot H p) {b : Addr} {xs : List V} (h : H b = some (.tup xs)) : H' b = some (.tup xs) := ex.obj hp h fun _ _ _ z => by cases z
theorem Ex.dK {p : Addr} {H H' : Hp} (ex : Ex p H H') (hp : Pot H p) {b : Addr} {kvs : List (Key × V)} (h : H b = some (.dK kvs)) : H' b = some (.dK kvs) := ex.obj hp h fun _ _ _ z => by cases z
theorem Ex.dT {p : Addr} {H H' : Hp} (ex : Ex p H H') (hp : Pot H p) {b : Addr} {kvs : List (List Key × V)} (h : H b = some (.dT kvs)) : H' b = some (.dT kvs) := ex.obj hp h fun _ _ _ z => by cases z
theorem Ex.refs {p : Addr} {H H' : Hp} (ex : Ex p H H') (hp : Pot H p) {b : Addr} {bs : List Addr} (h : H b = some (.lst (bs.map V.ref))) : H' b = some (.lst (bs.map V.ref)) := ex.obj hp h fun _ _ _ z => by
  injection z with z
  cases bs with
  | nil => cases z
  | cons a l => injection z with z _; cases z
theorem Rec.ex {p : Addr} {H H' : Hp} {t : Addr} {zs zs2 : List Str} {g o : Str → Int} {ps : List SP2} (ex : Ex p H H') (hp : Pot H p) (h : Rec H t zs zs2 g o ps) : Rec H' t zs zs2 g o ps := by
  obtain ⟨A, B, S, h1, h2, h3, h4⟩ := h
  exact ⟨A, B, S, ex.refs hp (bs := [A, B, S]) h1, ex.dK hp h2, ex.dK hp h3, ex.dT hp h4⟩
theorem PrS.ex {Cp p : Addr} {H H' : Hp} {x : Addr} {zs : List Str} {g o : Str → Int} {ps : List SP2} (ex : Ex p H H') (hp : Pot H p) (h : PrS Cp H x zs g o ps) : PrS Cp H' x zs g o ps := by
  obtain ⟨dx, ys, qs, ⟨A, B, S, ws, h1, h2, h3, h4, h5, h6, h7, h8⟩, r⟩ := h
  exact ⟨dx, ys, qs, ⟨A, B, S, ws, ⟨ex.obj hp h1.1 (fun _ _ _ z => by unfold SlX.SlO at z; cases z), ex.obj hp h1.2 (fun _ _ _ z => by cases z)⟩, h2, h3, h4, h5, ex.dK hp h6, ex.dK hp h7, ex.dT hp h8⟩, r⟩
theorem PrN.of_draws {zs zs1 zs2 : List Str} {g o : Str → Int} {ps : List SP2} (ok : SgnOk zs) (p1 : zs1.Perm zs) (p2 : zs2.Perm zs) (hg : ∀ z ∈ zs1, 1 ≤ g z ∧ g z ≤ 9) (ho : ∀ z ∈ zs2, 1 ≤ o z ∧ o z ≤ 9) (nd : (ps.map Prod.fst).Nodup) (sp : ∀ x ∈ ps, x.1.1 ∈ zs ∧ x.1.2 ∈ zs ∧ x.1.1 ≠ x.1.2 ∧ 1 ≤ x.2 ∧ x.2 ≤ 18) : PrN zs1 zs2 g o ps := by
  have l1 : zs1.length ≤ 5 := by rw [p1.length_eq]; exact ok.le
  have sp' : ∀ x ∈ ps, x.1.1 ∈ zs1 ∧ x.1.2 ∈ zs1 ∧ x.1.1 ≠ x.1.2 ∧ 1 ≤ x.2 ∧ x.2 ≤ 18 := fun x hx => ⟨p1.mem_iff.mpr (sp x hx).1, p1.mem_iff.mpr (sp x hx).2.1, (sp x hx).2.2⟩
  exact ⟨fun z h => ok.one z (p1.mem_iff.mp h), p1.nodup_iff.mpr ok.nodup, by rw [p1.length_eq]; exact ok.pos, l1, p2.trans p1.symm, hg, fun z h => ho z (p2.mem_iff.mpr (p1.mem_iff.mp h)), nd, sp', len25 l1 nd fun x hx => ⟨(sp' x hx).1, (sp' x hx).2.1⟩⟩
/-- pairs of signs that stand as tuples -/
def TupF (H : Hp) (F : List ((Str × Str) × Addr)) : Prop := ∀ e ∈ F, H e.2 = some (.tup [.str e.1.1, .str e.1.2])
abbrev refF (F : List ((Str × Str) × Addr)) : List V := F.map fun e => V.ref e.2
abbrev oneF (F : List ((Str × Str) × Addr)) : List SP2 := F.map fun e => (e.1, (1 : Int))
theorem refF_snoc (F : List ((Str × Str) × Addr)) (e : (Str × Str) × Addr) : refF (F ++ [e]) = refF F ++ [V.ref e.2] := by unfold refF; rw [List.map_append]; rfl
theorem refF_app (F G : List ((Str × Str) × Addr)) : refF (F ++ G) = refF F ++ refF G := by unfold refF; rw [List.map_append]
theorem oneF_snoc (F : List ((Str × Str) × Addr)) (e : (Str × Str) × Addr) : oneF (F ++ [e]) = oneF F ++ [(e.1, 1)] := by unfold oneF; rw [List.map_append]; rfl
theorem TupF.ex {p : Addr} {H H' : Hp} {F : List ((Str × Str) × Addr)} (h : TupF H F) (ex : Ex p H H') (hp : Pot H p) : TupF H' F := fun e he => ex.tup hp (h e he)
/-- what is a tuple stays one -/
def TK (H H' : Hp) : Prop := ∀ b xs, H b = some (.tup xs) → H' b = some (.tup xs)
theorem Ex.tk {p : Addr} {H H' : Hp} (ex : Ex p H H') (hp : Pot H p) : TK H H' := fun _ _ h => ex.tup hp h
theorem TK.put {H : Hp} {D : Addr} {xs ys : List V} (h : H D = some (.lst xs)) : TK H (upd H D (.lst ys)) := fun b zs q => by rw [upd_ne (fun z => by rw [z, h] at q; cases q)]; exact q
theorem TK.trans {H H1 H2 : Hp} (a : TK H H1) (b : TK H1 H2) : TK H H2 := fun x u h => b x u (a x u h)
theorem TupF.tk {H H' : Hp} {F : List ((Str × Str) × Addr)} (h : TupF H F) (e : TK H H') : TupF H' F := fun x hx => e _ _ (h x hx)
theorem PairsT.tk {H H' : Hp} {ts : List Addr} {kvs : List (List Key × V)} (h : PairsT H ts kvs) (e : TK H H') : PairsT H' ts kvs := by
  unfold PairsT at *
  induction h with
  | nil => exact .nil
  | cons a b ih =>
    obtain ⟨q, h1, h2⟩ := a
    exact .cons ⟨q, e _ _ h1, e _ _ h2⟩ ih
theorem PairsT.snoc {H : Hp} {t q : Addr} {k : List Key} {v : V} {ts : List Addr} {kvs : List (List Key × V)} (h : PairsT H ts kvs) (h1 : H t = some (.tup [.ref q, v])) (h2 : H q = some (.tup (k.map kV))) : PairsT H (ts ++ [t]) (kvs ++ [(k, v)]) := by
  unfold PairsT at *
  induction h with
  | nil => exact .cons ⟨q, h1, h2⟩ .nil
  | cons a b ih => exact .cons a ih
theorem TupF.same {H H' : Hp} {F : List ((Str × Str) × Addr)} (h : TupF H F) (e : Same H H') : TupF H' F := fun x hx => e _ _ (h x hx)
section
variable {P : Program} {w : World} {K : PySem.W.Frag} {mg : Str → Option Value} {base : Heap}
def spTables : Sp := fun vs H Q _ => ∃ p l zs, vs = [.ref p, .ref l] ∧ Pot H p ∧ l ≠ p ∧ H l = some (.lst (strsV zs)) ∧ SgnOk zs ∧ ∀ t zs1 zs2 g o ps H', Ex p H H' → Rec H' t zs1 zs2 g o ps → PrN zs1 zs2 g o ps → Q (.ref t) H'
abbrev N_law_tables : List Str := ["_law_pot", "_law_signs_here", "_law_most", "_law_far", "_law_share", "_law_puts", "_law_sign", "_law_outs", "_law_pairs", "_law_one", "_law_other", "_law_pair"]
theorem sc_law_tables : FnScope N_law_tables ["_law_pot", "_law_signs_here"] (defScope (top 33)) := ⟨rfl, rfl, rfl, by decide +kernel, rfl, by decide +kernel, by decide +kernel⟩
theorem c_law_tables (A : At K mg "_law_tables" (top 33)) (B : Blt mg) (c_law_dip : Cal P w K mg base 1 "_law_dip" spDip) (c_law_choose : Cal P w K mg base 2 "_law_choose" (spChoose K)) (c_law_shuffled : Cal P w K mg base 2 "_law_shuffled" (spShufI K)) : Cal P w K mg base 3 "_law_tables" spTables := by
  refine cal_of A sc_law_tables (fun _ _ _ _ _ _ us hl => match us, hl with | [_, _], _ => rfl) (fun vs H Q E h => ?_) (fun _ cdv A outer s H vs Q E hr h => ?_)
  · obtain ⟨_, _, _, rfl, _⟩ := h; rfl
  · obtain ⟨p, l, zs, rfl, hp, nlp, hl, ok, hQ⟩ := h
    refine ⟨_, (pss_cons (ps_asg (pe_tup (pa_cons (pe_c c_law_choose hr (by decide) (by rfl) (pa_cons (pv 0) (pa_cons (pe_lst (pa_cons pe_int (pa_cons pe_int (pa_cons pe_int pa_nil)))) pa_nil))) (pa_cons (pe_c c_law_choose hr (by decide) (by rfl) (pa_cons (pv 0) (pa_cons (pe_lst (pa_cons pe_int (pa_cons pe_int (pa_cons pe_int (pa_cons pe_int pa_nil))))) pa_nil))) (pa_cons (pe_c c_law_choose hr (by decide) (by rfl) (pa_cons (pv 0) (pa_cons (pe_lst (pa_cons pe_int (pa_cons pe_int (pa_cons pe_int (pa_cons pe_int pa_nil))))) pa_nil))) pa_nil)))) (pg_tup rfl (pgs_cons (pg_name (i := 2) sc_law_tables.nd rfl (Or.inr rfl)) (pgs_cons (pg_name (i := 3) sc_law_tables.nd rfl (Or.inr rfl)) (pgs_cons (pg_name (i := 4) sc_law_tables.nd rfl (Or.inr rfl)) pgs_nil)))))
      (pss_cons (ps_set (i := 5) sc_law_tables.nd rfl (Or.inl rfl) (pe_callTy (call_dictP rfl) (by rfl) B.dict (by decide +kernel) (pa_cons (pe_lc (own := [("_law_sign", 6)]) (g := gName 6) (tt := tYes) (by rfl) sc_law_tables.nd (pi_list (pe_c c_law_shuffled hr (by decide) (by rfl) (pa_cons (pv 0) (pa_cons (pv 1) pa_nil)))) (blkOk_by (own := [("_law_sign", 6)]) (N := N_law_tables) (sc := defScope (top 33)) (by decide +kernel)) (fun _ _ _ _ _ => (pg_name (i := 6) sc_law_tables.nd rfl (Or.inl rfl))) (fun _ _ _ _ _ => pts_nil) (fun _ _ _ _ _ => (pe_tup (pa_cons (pv 6) (pa_cons (pe_op op_add pe_int (pe_c c_law_dip hr (by decide) (by rfl) (pa_cons (pv 0) (pa_cons (pv 2) pa_nil)))) pa_nil))))) pa_nil)))
      (pss_cons (ps_set (i := 7) sc_law_tables.nd rfl (Or.inl rfl) (pe_callTy (call_dictP rfl) (by rfl) B.dict (by decide +kernel) (pa_cons (pe_lc (own := [("_law_sign", 6)]) (g := gName 6) (tt := tYes) (by rfl) sc_law_tables.nd (pi_list (pe_c c_law_shuffled hr (by decide) (by rfl) (pa_cons (pv 0) (pa_cons (pv 1) pa_nil)))) (blkOk_by (own := [("_law_sign", 6)]) (N := N_law_tables) (sc := defScope (top 33)) (by decide +kernel)) (fun _ _ _ _ _ => (pg_name (i := 6) sc_law_tables.nd rfl (Or.inl rfl))) (fun _ _ _ _ _ => pts_nil) (fun _ _ _ _ _ => (pe_tup (pa_cons (pv 6) (pa_cons (pe_op op_add pe_int (pe_c c_law_dip hr (by decide) (by rfl) (pa_cons (pv 0) (pa_cons pe_int pa_nil)))) pa_nil))))) pa_nil)))
      (pss_cons (ps_set (i := 8) sc_law_tables.nd rfl (Or.inl rfl) (pe_lst pa_nil))
      (pss_cons (ps_for PassesOwn.never rfl (pi_list (pv 1)) (pg_name (i := 9) sc_law_tables.nd rfl (Or.inr rfl))
        (pss_one (ps_expr (pe_bm PySem.F.plainAttrs_list PySem.F.slot_list_extend PySem.F.type_list_extend mt_extend (pv 8) (pa_cons (pe_lc (own := [("_law_other", 10)]) (g := gName 10) (by rfl) sc_law_tables.nd (pi_list (pv 1)) (blkOk_by (own := [("_law_other", 10)]) (N := N_law_tables) (sc := defScope (top 33)) (by decide +kernel)) (fun _ _ _ _ _ => (pg_name (i := 10) sc_law_tables.nd rfl (Or.inl rfl))) (fun _ _ _ _ _ => pts_one (pt_cmpR op_ne (pv 9) (pv 10) (nomark _))) (fun _ _ _ _ _ => (pe_tup (pa_cons (pv 9) (pa_cons (pv 10) pa_nil))))) pa_nil)))))
      (pss_cons (ps_setLc (i := 8) (own := [("_law_pair", 11)]) (g := gName 11) (by rfl) sc_law_tables.nd rfl rfl (sw_true rfl rfl rfl (by decide +kernel)) (pi_list (pe_c c_law_shuffled hr (by decide) (by rfl) (pa_cons (pv 0) (pa_cons (pv 8) pa_nil)))) (blkOk_by (own := [("_law_pair", 11)]) (N := N_law_tables) (sc := defScope (top 33)) (by decide +kernel)) (fun _ _ _ _ _ => (pg_name (i := 11) sc_law_tables.nd rfl (Or.inl rfl))) (fun _ _ _ _ _ => pts_one (pt_cmpR op_eq (pe_c c_law_dip hr (by decide) (by rfl) (pa_cons (pv 0) (pa_cons (pv 4) pa_nil))) pe_int (nomark _))) (fun _ _ _ _ _ => (pv 11)))
      (pss_one (ps_ret (pe_lst (pa_cons (pv 5) (pa_cons (pv 7) (pa_cons (pe_callTy (call_dictPT rfl hr.units) (by rfl) B.dict (by decide +kernel) (pa_cons (pe_lc (own := [("_law_pair", 11)]) (g := gName 11) (tt := tYes) (by rfl) sc_law_tables.nd (pi_list (pv 8)) (blkOk_by (own := [("_law_pair", 11)]) (N := N_law_tables) (sc := defScope (top 33)) (by decide +kernel)) (fun _ _ _ _ _ => (pg_name (i := 11) sc_law_tables.nd rfl (Or.inl rfl))) (fun _ _ _ _ _ => pts_nil) (fun _ _ _ _ _ => (pe_tup (pa_cons (pv 11) (pa_cons (pe_op op_add pe_int (pe_c c_law_dip hr (by decide) (by rfl) (pa_cons (pv 0) (pa_cons (pv 3) pa_nil)))) pa_nil))))) pa_nil)) pa_nil)))))))))))), ?_⟩
    have two : 2 ≤ sizeLine := by decide
    have three : 3 ≤ sizeLine := by decide
    have big : 100000 < sizeLine := by decide
    have nd := ok.nodup
    have l5 := ok.le
    have lz : (strsV zs).length = zs.length := by simp [strsV]
    have hlx : ∀ {H' : Hp}, Ex p H H' → H' l = some (.lst (strsV zs)) := fun ex => ex.keep _ _ nlp hl
    -- the three numbers
    have ex0 := Ex.refl hp
    refine ⟨_, rfl, three, fun q0 hq0 => ?_⟩
    have nq0 : q0 ≠ p := by obtain ⟨_, _, _, e⟩ := ex0.pot; exact (ne_of_none e hq0).symm
    have ex10 := ex0.new (o := .lst [.int 2, .int 9, .int 9]) hq0
    refine ⟨p, .ref q0, rfl, ex10.pot, .inr ⟨q0, [.int 2, .int 9, .int 9], rfl, nq0, SqL.of upd_same, by decide, by decide, fun v a' b' c' hv => ?_⟩⟩
    obtain ⟨M, rfl, hM⟩ : ∃ m : Int, v = .int m ∧ (m = 2 ∨ m = 9) := by
      have : v = .int 2 ∨ v = .int 9 := by simpa using hv
      rcases this with rfl | rfl
      all_goals exact ⟨_, rfl, by omega⟩
    have ex1 := ex10.trans (Ex.turn (p := p) (a := a') (b := b') (c := c'))
    generalize upd (upd H q0 (.lst [.int 2, .int 9, .int 9])) p (potO a' b' c') = H1 at ex1 ⊢
    refine ⟨_, rfl, (by show 4 ≤ sizeLine; decide), fun q1 hq1 => ?_⟩
    have nq1 : q1 ≠ p := by obtain ⟨_, _, _, e⟩ := ex1.pot; exact (ne_of_none e hq1).symm
    have ex20 := ex1.new (o := .lst [.int 1, .int 2, .int 6, .int 18]) hq1
    refine ⟨p, .ref q1, rfl, ex20.pot, .inr ⟨q1, [.int 1, .int 2, .int 6, .int 18], rfl, nq1, SqL.of upd_same, by decide, by decide, fun v a' b' c' hv => ?_⟩⟩
    obtain ⟨W, rfl, hW⟩ : ∃ m : Int, v = .int m ∧ (m = 1 ∨ m = 2 ∨ m = 6 ∨ m = 18) := by
      have : v = .int 1 ∨ v = .int 2 ∨ v = .int 6 ∨ v = .int 18 := by simpa using hv
      rcases this with rfl | rfl | rfl | rfl
      all_goals exact ⟨_, rfl, by omega⟩
    have ex2 := ex20.trans (Ex.turn (p := p) (a := a') (b := b') (c := c'))
    generalize upd (upd H1 q1 (.lst [.int 1, .int 2, .int 6, .int 18])) p (potO a' b' c') = H2 at ex2 ⊢
    refine ⟨_, rfl, (by show 4 ≤ sizeLine; decide), fun q2 hq2 => ?_⟩
    have nq2 : q2 ≠ p := by obtain ⟨_, _, _, e⟩ := ex2.pot; exact (ne_of_none e hq2).symm
    have ex30 := ex2.new (o := .lst [.int 1, .int 2, .int 4, .int 9]) hq2
    refine ⟨p, .ref q2, rfl, ex30.pot, .inr ⟨q2, [.int 1, .int 2, .int 4, .int 9], rfl, nq2, SqL.of upd_same, by decide, by decide, fun v a' b' c' hv => ?_⟩⟩
    obtain ⟨R, rfl, hR⟩ : ∃ m : Int, v = .int m ∧ (m = 1 ∨ m = 2 ∨ m = 4 ∨ m = 9) := by
      have : v = .int 1 ∨ v = .int 2 ∨ v = .int 4 ∨ v = .int 9 := by simpa using hv
      rcases this with rfl | rfl | rfl | rfl
      all_goals exact ⟨_, rfl, by omega⟩
    have ex3 := ex30.trans (Ex.turn (p := p) (a := a') (b := b') (c := c'))
    generalize upd (upd H2 q2 (.lst [.int 1, .int 2, .int 4, .int 9])) p (potO a' b' c') = H3 at ex3 ⊢
    have bM : 1 ≤ M ∧ M ≤ 9 := by omega
    have bW : 1 ≤ W ∧ W ≤ 18 := by omega
    have bR : 1 ≤ R ∧ R ≤ 9 := by omega
    clear ex0 ex10 ex20 ex30 ex1 ex2 hq0 hq1 hq2 nq0 nq1 nq2 hM hW hR
    refine ⟨three, fun T hT => ⟨T, _, rfl, .inl (.inl upd_same), rfl, _, _, rfl, _, _, rfl, _, _, rfl, rfl, ?_⟩⟩
    replace ex3 := ex3.new (o := .tup [.int M, .int W, .int R]) hT
    generalize upd H3 T (.tup [.int M, .int W, .int R]) = H4 at ex3 ⊢
    clear hT
    -- drawn numbers by signs
    have tossing : ∀ {B0 : Int} {H2 : Hp} {z : Str} {Q : VK}, Pot H2 p → (∀ n H3 T, 1 ≤ n → n ≤ B0 → Ex p H2 H3 → H3 T = none → Q (.ref T) (upd H3 T (.tup [.str z, .int n]))) → ∃ a b c, H2 p = some (potO a b c) ∧ ∀ r a' b' c', 0 ≤ r → r < B0 → ∀ T, upd H2 p (potO a' b' c') T = none → Q (.ref T) (upd (upd H2 p (potO a' b' c')) T (.tup [.str z, .int (1 + r)])) := fun {B0 H2 z Q} hp2 hq => by
      obtain ⟨a, b, c, e⟩ := hp2
      exact ⟨a, b, c, e, fun r a' b' c' r0 r1 T hT => hq (1 + r) _ T (by omega) (by omega) Ex.turn hT⟩
    refine ⟨_, rfl, _, rfl, p, _, _, rfl, ex3.pot, .inl ⟨l, rfl, nlp, SqL.of (hlx ex3)⟩, by omega, fun ys q0 H5 hperm hq0 ex4 h0 => ?_⟩
    obtain ⟨zs1, rfl, hz1⟩ := perm_strsP hperm
    have nq0 : q0 ≠ p := by obtain ⟨_, _, _, e⟩ := ex3.pot; exact (ne_of_none e hq0).symm
    have l1 := hz1.length_eq
    have nd1 := hz1.nodup_iff.mpr nd
    refine ⟨q0, rfl, ⟨_, SqL.of h0⟩, fun D hD => ?_⟩
    refine lc_draws (W := M) (SqL.of h0) nq0 nd1 (by omega) ex4.pot hD (fun _ _ => rfl) (fun z hz H2 ex2 Q q => ?_) (fun H6 ts g ex5 hD2 gb pr => ?_)
    · obtain ⟨a, b, c, e, go⟩ := tossing ex2.pot q
      exact ⟨_, rfl, _, rfl, _, rfl, p, M, a, b, c, rfl, e, by omega, by omega, fun r a' b' c' r0 r1 => ⟨_, _, rfl, rfl, two, fun T hT => go r a' b' c' r0 r1 T hT⟩⟩
    refine ⟨D, ts, _, rfl, SqL.of hD2, pr, fun GA hGA => ?_⟩
    rw [show mergeK [] (dkF zs1 g) = dkF zs1 g from mergeK_nodup (more := dkF zs1 g) [] (dkF_nodup nd1 g)]
    have ex6 : Ex p H (upd H6 GA (.dK (dkF zs1 g))) := ((ex3.trans ex4).trans ex5).new hGA
    have hG6 : upd H6 GA (.dK (dkF zs1 g)) GA = some (.dK (dkF zs1 g)) := upd_same
    generalize upd H6 GA (.dK (dkF zs1 g)) = H7 at ex6 hG6 ⊢
    clear ex3 ex4 ex5 hD2 pr hD h0 hq0 hperm hGA
    -- out
    refine ⟨_, rfl, _, rfl, p, _, _, rfl, ex6.pot, .inl ⟨l, rfl, nlp, SqL.of (hlx ex6)⟩, by omega, fun ys q0 H8 hperm hq0 ex4 h0 => ?_⟩
    obtain ⟨zs2, rfl, hz2⟩ := perm_strsP hperm
    have nq0 : q0 ≠ p := by obtain ⟨_, _, _, e⟩ := ex6.pot; exact (ne_of_none e hq0).symm
    have l2 := hz2.length_eq
    have nd2 := hz2.nodup_iff.mpr nd
    refine ⟨q0, rfl, ⟨_, SqL.of h0⟩, fun D hD => ?_⟩
    refine lc_draws (W := 9) (SqL.of h0) nq0 nd2 (by omega) ex4.pot hD (fun _ _ => rfl) (fun z hz H2 ex2 Q q => ?_) (fun H9 ts o ex5 hD2 ob pr => ?_)
    · obtain ⟨a, b, c, e, go⟩ := tossing ex2.pot q
      exact ⟨_, rfl, _, rfl, p, 9, a, b, c, rfl, e, by omega, by omega, fun r a' b' c' r0 r1 => ⟨_, _, rfl, rfl, two, fun T hT => go r a' b' c' r0 r1 T hT⟩⟩
    refine ⟨D, ts, _, rfl, SqL.of hD2, pr, fun GB hGB => ?_⟩
    rw [show mergeK [] (dkF zs2 o) = dkF zs2 o from mergeK_nodup (more := dkF zs2 o) [] (dkF_nodup nd2 o)]
    have ex7 : Ex p H (upd H9 GB (.dK (dkF zs2 o))) := ((ex6.trans ex4).trans ex5).new hGB
    have hG7 : upd H9 GB (.dK (dkF zs2 o)) GA = some (.dK (dkF zs1 g)) := by
      have := (ex4.trans ex5).dK ex6.pot hG6
      rw [upd_ne (ne_of_none this hGB)]; exact this
    have hB7 : upd H9 GB (.dK (dkF zs2 o)) GB = some (.dK (dkF zs2 o)) := upd_same
    generalize upd H9 GB (.dK (dkF zs2 o)) = H10 at ex7 hG7 hB7 ⊢
    clear ex6 ex4 ex5 hD2 pr hD h0 hq0 hperm hGB hG6
    -- pairs
    refine ⟨Nat.zero_le _, fun L hL => ?_⟩
    have f8 := same_new (o := .lst []) hL
    have ex8 := ex7.new (o := .lst []) hL
    have hG8 := f8 _ _ hG7
    have hB8 := f8 _ _ hB7
    have fL : H L = none := ex7.free hp hL
    have nLp : L ≠ p := by obtain ⟨_, _, _, e⟩ := hp; exact (ne_of_none e fL).symm
    have nlL : l ≠ L := ne_of_none hl fL
    have hL8 : upd H10 L (.lst []) L = some (.lst (refF [])) := upd_same
    generalize upd H10 L (.lst []) = H11 at ex8 hG8 hB8 hL8 ⊢
    clear f8 ex7 hG7 hB7 hL
    have keepL : ∀ {F : List ((Str × Str) × Addr)} {i j : Nat}, SubP zs i j (oneF F) → F.length ≤ 25 := fun {F i j} S => by
      have := S.len
      have : zs.length * zs.length ≤ 5 * 5 := Nat.mul_le_mul l5 l5
      rw [List.length_map] at *
      omega
    refine ⟨_, rfl, l, rfl, ⟨_, SqL.of (hlx ex8)⟩, for_it walk_list (fun i σ H' => (∃ o9, σ = [some (.ref p), some (.ref l), some (.int M), some (.int W), some (.int R), some (.ref GA), none, some (.ref GB), some (.ref L), o9, none, none]) ∧ Ex p H H' ∧ H' GA = some (.dK (dkF zs1 g)) ∧ H' GB = some (.dK (dkF zs2 o)) ∧ ∃ F, H' L = some (.lst (refF F)) ∧ TupF H' F ∧ SubP zs i 0 (oneF F)) ⟨⟨_, rfl⟩, ex8, hG8, hB8, [], hL8, fun _ h => (nomatch h), by simp, by simp⟩ (fun i σ H' _ e => SqL.of (hlx e.2.1)) (fun i y σ Ha Hb hi e hy => ?_) (fun σ H12 e => ?_)⟩
    · obtain ⟨rfl, hy⟩ := hy
      clear ex8 hG8 hB8 hL8
      obtain ⟨⟨o9, rfl⟩, exa, hGa, hBa, F, hLa, TF, SP⟩ := e
      rw [List.getElem?_map] at hy
      obtain ⟨x, hx, rfl⟩ := Option.map_eq_some_iff.mp hy
      refine ⟨_, rfl, .inl ⟨rfl, _, SqL.of hLa⟩, _, rfl, l, rfl, ⟨_, SqL.of (hlx exa)⟩, fun D hD => ?_⟩
      have nDp : D ≠ p := by obtain ⟨_, _, _, e⟩ := exa.pot; exact (ne_of_none e hD).symm
      refine lc_it walk_list (fun j H' => Same Hb H' ∧ ∃ S, H' D = some (.lst (refF S)) ∧ TupF H' S ∧ SubP zs i j (oneF (F ++ S))) ⟨same_new hD, [], upd_same, fun _ h => (nomatch h), by rw [List.append_nil]; exact SP⟩ (fun j H' _ e => SqL.of (e.1 _ _ (hlx exa))) (fun j y2 Hq Hc hj e hy => ?_) (fun Hc e => ?_)
      · obtain ⟨rfl, hy⟩ := hy
        obtain ⟨ea, S, hS, TS, SPs⟩ := e
        rw [List.getElem?_map] at hy
        obtain ⟨y, hy3, rfl⟩ := Option.map_eq_some_iff.mp hy
        refine ⟨rfl, _, rfl, _, rfl, rfl, _, rfl, ?_⟩
        by_cases ne : x = y
        · rw [show (!decide (V.str x = V.str y)) = false by simp [ne]]
          exact iteF ⟨ea, S, hS, TS, SPs.next⟩
        · rw [show (!decide (V.str x = V.str y)) = true by simp [ne]]
          refine iteT ⟨_, rfl, _, rfl, two, fun T hT => ⟨refF S, ?_, ?_, ?_, S ++ [((x, y), T)], ?_, ?_, ?_⟩⟩
          · rw [upd_ne (ne_of_none hS hT)]; exact hS
          · have := keepL SPs
            rw [List.length_append] at this
            rw [List.length_map]
            omega
          · intro b u q
            rw [upd_ne (ne_of_none q hD), upd_ne (ne_of_none (ea _ _ q) hT)]
            exact ea _ _ q
          · rw [upd_same, refF_snoc]
          · intro e he
            have nTD : T ≠ D := (ne_of_none hS hT).symm
            rcases List.mem_append.mp he with he | he
            · have q := TS e he
              rw [upd_ne (fun z => by rw [z, hS] at q; cases q), upd_ne (ne_of_none q hT)]
              exact q
            · rw [List.mem_singleton.mp he]
              show upd (upd _ T _) D _ T = _
              rw [upd_ne nTD, upd_same]
          · have := (SPs.new nd hx hy3 ne (n := 1) (by decide) (by decide)).1
            rw [← List.append_assoc, oneF_snoc]
            exact this
      · obtain ⟨ea, S, hS, TS, SPs⟩ := e
        rw [lz] at SPs
        have hLc := ea _ _ hLa
        have nDL : D ≠ L := (ne_of_none hLa hD).symm
        have exc := exa.same ea
        refine ⟨L, D, _, _, rfl, rfl, hLc, hS, ?_, ?_⟩
        · have := keepL SPs
          rw [List.length_append] at this
          rw [List.length_map, List.length_map]
          omega
        · rw [← refF_app]
          have tk : TK Hc (upd Hc L (.lst (refF (F ++ S)))) := TK.put hLc
          refine ⟨⟨_, rfl⟩, exc.put fL nLp, ?_, ?_, F ++ S, upd_same, ?_, SPs.row⟩
          · rw [upd_ne (fun z => by rw [z, hLa] at hGa; cases hGa)]; exact ea _ _ hGa
          · rw [upd_ne (fun z => by rw [z, hLa] at hBa; cases hBa)]; exact ea _ _ hBa
          · intro e he
            rcases List.mem_append.mp he with he | he
            · exact tk _ _ (ea _ _ (TF e he))
            · exact tk _ _ (TS e he)
    clear ex8 hG8 hB8 hL8
    obtain ⟨⟨o9, rfl⟩, ex8, hG8, hB8, F, hL8, TF, SP⟩ := e
    have l25 := keepL SP
    -- some of them, in a drawn order
    refine ⟨_, rfl, _, rfl, p, _, _, rfl, ex8.pot, .inl ⟨L, rfl, nLp, SqL.of hL8⟩, by rw [List.length_map]; omega, fun ys q0 H13 hperm hq0 ex9 h0 => ?_⟩
    obtain ⟨F', pF, rfl⟩ := perm_map_ex hperm
    have nq0 : q0 ≠ p := by obtain ⟨_, _, _, e⟩ := ex8.pot; exact (ne_of_none e hq0).symm
    have TF9 : TupF H13 F' := fun e he => ex9.tup ex8.pot (TF e (pF.mem_iff.mp he))
    have lF' := pF.length_eq
    refine ⟨q0, rfl, ⟨_, SqL.of h0⟩, fun D hD => ?_⟩
    have nDp : D ≠ p := by obtain ⟨_, _, _, e⟩ := ex9.pot; exact (ne_of_none e hD).symm
    refine lc_it walk_list (fun i H' => Ex p H13 H' ∧ ∃ F2 : List ((Str × Str) × Addr), H' D = some (.lst (refF F2)) ∧ F2.Sublist (F'.take i)) ⟨(Ex.refl ex9.pot).new hD, [], upd_same, List.nil_sublist _⟩ (fun i H' _ e => e.1.seqL (SqL.of h0) nq0) (fun i y Ha Hb hi e hy => ?_) (fun H14 e => ?_)
    · obtain ⟨rfl, hy⟩ := hy
      obtain ⟨exa, F2, hDa, sb⟩ := e
      rw [List.getElem?_map] at hy
      obtain ⟨e, he, rfl⟩ := Option.map_eq_some_iff.mp hy
      obtain ⟨a, b, c, ep⟩ := exa.pot
      have sb1 : F2.Sublist (F'.take (i + 1)) := sb.trans (by rw [List.take_add_one]; exact List.sublist_append_left _ _)
      have sb2 : (F2 ++ [e]).Sublist (F'.take (i + 1)) := by
        rw [List.take_add_one, he]
        exact List.Sublist.append sb (List.Sublist.refl _)
      refine ⟨rfl, _, rfl, _, rfl, p, R, a, b, c, rfl, ep, by omega, by omega, fun r a' b' c' r0 r1 => ⟨rfl, _, rfl, ?_⟩⟩
      have exb := exa.trans (Ex.turn (p := p) (a := a') (b := b') (c := c'))
      have hDb : upd Hb p (potO a' b' c') D = some (.lst (refF F2)) := by rw [upd_ne nDp]; exact hDa
      refine ite2 (fun _ => ?_) (fun _ => ⟨exb, F2, hDb, sb1⟩)
      refine ⟨_, rfl, _, hDb, ?_, exb.put hD nDp, F2 ++ [e], by rw [upd_same, refF_snoc], sb2⟩
      have h3 := sb.length_le
      rw [List.length_take] at h3
      rw [List.length_map]
      omega
    obtain ⟨exa, F2, hD2, sb⟩ := e
    have lr : (refF F').length = F'.length := List.length_map ..
    rw [lr, List.take_length] at sb
    have ex10 : Ex p H H14 := (ex8.trans ex9).trans exa
    have hG9 := (ex9.trans exa).dK ex8.pot hG8
    have hB9 := (ex9.trans exa).dK ex8.pot hB8
    have TF2 : TupF H14 F2 := fun e he => exa.tup ex9.pot (TF9 e (sb.subset he))
    have l2' : F2.length ≤ 25 := by
      have := sb.length_le
      omega
    have nd2' : (F2.map Prod.fst).Nodup := by
      have h1 : (F'.map Prod.fst).Nodup := by
        refine (pF.map Prod.fst).nodup_iff.mpr ?_
        have := SP.nd
        rw [List.map_map] at this
        exact this
      exact h1.sublist (sb.map _)
    have in2 : ∀ e ∈ F2, e.1.1 ∈ zs ∧ e.1.2 ∈ zs ∧ e.1.1 ≠ e.1.2 := fun e he => by
      have q := (SP.ks (e.1, 1) (List.mem_map.mpr ⟨e, pF.mem_iff.mp (sb.subset he), rfl⟩)).2
      exact ⟨q.1, q.2.1, q.2.2.1⟩
    clear ex8 ex9 exa hG8 hB8 hL8 TF SP hperm hq0 h0 TF9 hD
    -- the swaps
    refine ⟨_, rfl, _, rfl, _, rfl, D, rfl, ⟨_, SqL.of hD2⟩, fun D3 hD3 => ?_⟩
    have nD3 : D3 ≠ p := by obtain ⟨_, _, _, e⟩ := ex10.pot; exact (ne_of_none e hD3).symm
    have nDD : D ≠ D3 := ne_of_none hD2 hD3
    refine lc_it walk_list (fun i H' => Ex p H14 H' ∧ ∃ (ts : List Addr) (ps : List SP2), H' D3 = some (.lst (ts.map V.ref)) ∧ ts.length = i ∧ PairsT H' ts (dtF ps) ∧ ps.map Prod.fst = (F2.take i).map Prod.fst ∧ ∀ x ∈ ps, 1 ≤ x.2 ∧ x.2 ≤ 18) ⟨(Ex.refl ex10.pot).new hD3, [], [], upd_same, rfl, .nil, by rw [List.take_zero]; rfl, fun _ h => (nomatch h)⟩ (fun i H' _ e => e.1.seqL (SqL.of hD2) nDp) (fun i y Ha Hb hi e hy => ?_) (fun H15 e => ?_)
    · obtain ⟨rfl, hy⟩ := hy
      obtain ⟨exa, ts, ps, hDa, lt, PT, pk, pb⟩ := e
      rw [List.getElem?_map] at hy
      obtain ⟨e, he, rfl⟩ := Option.map_eq_some_iff.mp hy
      obtain ⟨a, b, c, ep⟩ := exa.pot
      refine ⟨rfl, yes_q (iteT ⟨_, rfl, _, rfl, _, rfl, p, W, a, b, c, rfl, ep, by omega, by omega, fun r a' b' c' r0 r1 => ⟨_, _, rfl, rfl, two, fun T hT => ⟨ts.map V.ref, ?_, ?_, ?_, ts ++ [T], ps ++ [(e.1, 1 + r)], ?_, ?_, ?_, ?_, ?_⟩⟩⟩)⟩
      · have : upd Hb p (potO a' b' c') D3 = some (.lst (ts.map V.ref)) := by rw [upd_ne nD3]; exact hDa
        rw [upd_ne (ne_of_none this hT)]; exact this
      · have h3 := (List.getElem?_eq_some_iff.mp he).1
        rw [List.length_map]
        omega
      · exact ((exa.trans (Ex.turn (p := p) (a := a') (b := b') (c := c'))).new hT).put hD3 nD3
      · rw [upd_same, List.map_append]; rfl
      · rw [List.length_append, lt]; rfl
      · have t1 : TK Hb (upd Hb p (potO a' b' c')) := (Ex.turn (p := p) (a := a') (b := b') (c := c')).tk exa.pot
        have t2 : TK (upd Hb p (potO a' b' c')) (upd (upd Hb p (potO a' b' c')) T (.tup [.ref e.2, .int (1 + r)])) := fun b xs q => same_new hT _ _ q
        have hDb : upd (upd Hb p (potO a' b' c')) T (.tup [.ref e.2, .int (1 + r)]) D3 = some (.lst (ts.map V.ref)) := by
          have : upd Hb p (potO a' b' c') D3 = some (.lst (ts.map V.ref)) := by rw [upd_ne nD3]; exact hDa
          rw [upd_ne (ne_of_none this hT)]; exact this
        have t3 := TK.put (ys := ts.map V.ref ++ [V.ref T]) hDb
        have hT3 : upd (upd (upd Hb p (potO a' b' c')) T (.tup [.ref e.2, .int (1 + r)])) D3 (.lst (ts.map V.ref ++ [V.ref T])) T = some (.tup [.ref e.2, .int (1 + r)]) := t3 _ _ upd_same
        have he3 := ((t1.trans t2).trans t3) _ _ (exa.tup ex10.pot (TF2 e (List.mem_of_getElem? he)))
        have := (PT.tk ((t1.trans t2).trans t3)).snoc (k := [.inr e.1.1, .inr e.1.2]) hT3 he3
        unfold dtF at this ⊢
        rw [List.map_append]
        exact this
      · rw [List.map_append, pk, List.take_add_one, he, List.map_append]; rfl
      · intro x hx
        rcases List.mem_append.mp hx with hx | hx
        · exact pb x hx
        · rw [List.mem_singleton.mp hx]
          show 1 ≤ 1 + r ∧ 1 + r ≤ 18
          omega
    obtain ⟨exa, ts, ps, hD5, lt, PT, pk, pb⟩ := e
    have lr2 : (refF F2).length = F2.length := List.length_map ..
    rw [lr2, List.take_length] at pk
    have ndp : (ps.map Prod.fst).Nodup := by rw [pk]; exact nd2'
    refine ⟨D3, ts, dtF ps, rfl, hD5, PT, dtF_nodup ndp, fun S hS => ⟨three, fun t ht => ?_⟩⟩
    have hG10 := exa.dK ex10.pot hG9
    have hB10 := exa.dK ex10.pot hB9
    have s1 := same_new (o := .dT (dtF ps)) hS
    have s2 := s1.trans (same_new (o := .lst [.ref GA, .ref GB, .ref S]) ht)
    refine hQ t zs1 zs2 g o ps _ ((ex10.trans exa).same s2) ⟨GA, GB, S, upd_same, s2 _ _ hG10, s2 _ _ hB10, same_new ht _ _ upd_same⟩ (PrN.of_draws ok hz1 hz2 (fun z hz => ⟨(gb z hz).1, Int.le_trans (gb z hz).2 bM.2⟩) ob ndp fun x hx => ?_)
    have hk : x.1 ∈ F2.map Prod.fst := by rw [← pk]; exact List.mem_map.mpr ⟨x, hx, rfl⟩
    obtain ⟨e, he, ee⟩ := List.mem_map.mp hk
    have q := in2 e he
    rw [ee] at q
    exact ⟨q.1, q.2.1, q.2.2, (pb x hx).1, (pb x hx).2⟩
end
end MN
/-! _law_copied -/
namespace MN
open PySem PySem.Spec PyProof.Rows L2
/-- dict(a list of pairs), the context's K by its name (for comprehensions' blocks) -/
def rDictPK (K : PySem.W.Frag) : List V → Hp → VK → Prop := fun xs H Q => ∃ (a : Addr) (ps : List Addr) (kvs : List (Key × V)), xs = [.ref a] ∧ SqL K H a (ps.map V.ref) ∧ Paired (fun p kv => SqT K H p [kV kv.1, kv.2]) ps kvs ∧ ∀ p, H p = none → Q (.ref p) (upd H p (.dK (mergeK [] kvs)))
theorem call_dictPK {X : Cx} {K : PySem.W.Frag} (hK : X.K = K) (hc : X.calm = true) : CallR X (.type "dict") (rDictPK K) := by
  subst hK
  exact call_dictP hc
section
variable {P : Program} {w : World} {K : PySem.W.Frag} {mg : Str → Option Value} {base : Heap}
def spCopied : Sp := fun vs H Q _ => ∃ t zs zs2 g o ps, vs = [.ref t] ∧ Rec H t zs zs2 g o ps ∧ PrN zs zs2 g o ps ∧ ∀ t' A B S H', H t' = none → H A = none → H B = none → H S = none → A ≠ B → A ≠ S → B ≠ S → Same H H' →
  H' t' = some (.lst [.ref A, .ref B, .ref S]) → H' A = some (.dK (dkF zs g)) → H' B = some (.dK (dkF zs2 o)) → H' S = some (.dT (dtF ps)) → Q (.ref t') H'
abbrev N_law_copied : List Str := ["_law_tables_here", "_law_table"]
theorem sc_law_copied : FnScope N_law_copied ["_law_tables_here"] (defScope (top 35)) := ⟨rfl, rfl, rfl, by decide +kernel, rfl, by decide +kernel, by decide +kernel⟩
theorem c_law_copied (A : At K mg "_law_copied" (top 35)) (B : Blt mg) : Cal P w K mg base 1 "_law_copied" spCopied := by
  refine cal_of A sc_law_copied (fun _ _ _ _ _ _ us hl => match us, hl with | [_], _ => rfl) (fun vs H Q E h => ?_) (fun _ cdv A outer s H vs Q E hr h => ?_)
  · obtain ⟨_, _, _, _, _, _, rfl, _⟩ := h; rfl
  · obtain ⟨t, zs, zs2, g, o, ps, rfl, ⟨PA, PB, PS, ht, hA, hB, hS⟩, N, hQ⟩ := h
    refine ⟨_, (pss_one (ps_ret (pe_lc (own := [("_law_table", 1)]) (g := gName 1) (tt := tYes) (by rfl) sc_law_copied.nd (pi_list (pv 0)) (blkOk_by (own := [("_law_table", 1)]) (N := N_law_copied) (sc := defScope (top 35)) (by decide +kernel)) (fun _ _ _ _ _ => (pg_name (i := 1) sc_law_copied.nd rfl (Or.inl rfl))) (fun _ _ _ _ _ => pts_nil)
      (fun _ _ _ _ _ => pe_or2 (pe_callTy (call_dictPK (K := K) rfl rfl) (by rfl) B.dict (by decide +kernel) (pa_cons (LiI.pe_listItems rfl (pv 1) (by rfl) B.list (by decide +kernel)) pa_nil)) (pe_callTy (call_dictPT rfl hr.units) (by rfl) B.dict (by decide +kernel) (pa_cons (pe_listItemsT rfl (pv 1) (by rfl) B.list (by decide +kernel)) pa_nil)))))), ?_⟩
    refine ⟨_, rfl, t, rfl, ⟨_, SqL.of ht⟩, fun D hD => ?_⟩
    have nd2 := N.pm.nodup_iff.mpr N.nd
    refine lc_newF walk_list [.ref PA, .ref PB, .ref PS] rfl (by show 3 ≤ 1000; decide) (fun _ _ _ _ _ y => y) hD (fun H' e => SqL.of (e _ _ ht)) (fun _ _ => by kernel_rfl) (fun k v H' => H v = none ∧ (k = 0 → H' v = some (.dK (dkF zs g))) ∧ (k = 1 → H' v = some (.dK (dkF zs2 o))) ∧ (k = 2 → H' v = some (.dT (dtF ps))) ∧ ∃ u, H' v = some u)
      (fun k v _ _ up n r => ⟨r.1, fun e => up _ _ n (r.2.1 e), fun e => up _ _ n (r.2.2.1 e), fun e => up _ _ n (r.2.2.2.1 e), r.2.2.2.2.elim fun u h => ⟨u, up _ _ n h⟩⟩) (fun _ _ _ r => r.2.2.2.2) (fun i y hy H2 e2 _ Q' q' => ?_) (fun H2 qs' e2 u2 nq nD lq r2 => ?_)
    · have one : ∀ {d : Addr} {zs : List Str} {g : Str → Int}, zs.Nodup → H2 d = some (.dK (dkF zs g)) → (∀ q H3, H2 q = none → Same H2 H3 → H3 q = some (.dK (dkF zs g)) → Q' (.ref q) H3) → LiI.rItemsL (.ref d) H2 fun x H1 => rDictPK K [x] H1 Q' := fun {d zs g} nd hd q => by
        refine ⟨d, _, rfl, hd, fun H3 a ts e3 ha hts _ h3 pr => ⟨a, ts, _, rfl, SqL.of h3, Paired.mapP pr fun t kv h => .inl (.inl h), fun p hp => ?_⟩⟩
        rw [show mergeK [] (dkF zs g) = dkF zs g from mergeK_nodup (more := dkF zs g) [] (dkF_nodup nd g)]
        exact q p _ (Same.free (H := H2) (H' := H3) e3 hp) (Same.trans (H1 := H3) e3 (same_new hp)) upd_same
      match i, hy with
      | 0, hy =>
        cases hy
        refine .inl ⟨_, rfl, one N.nd (e2 _ _ hA) fun q H3 fq s3 hq => q' q H3 fq s3 ⟨Same.free e2 fq, fun _ => hq, fun e => absurd e (by decide), fun e => absurd e (by decide), _, hq⟩⟩
      | 1, hy =>
        cases hy
        refine .inl ⟨_, rfl, one nd2 (e2 _ _ hB) fun q H3 fq s3 hq => q' q H3 fq s3 ⟨Same.free e2 fq, fun e => absurd e (by decide), fun _ => hq, fun e => absurd e (by decide), _, hq⟩⟩
      | 2, hy =>
        cases hy
        refine .inr ⟨_, rfl, PS, _, rfl, e2 _ _ hS, fun H3 a ts e3 ha h3 pr => ⟨a, ts, _, rfl, h3, pr, dtF_nodup N.sn, fun p hp => ?_⟩⟩
        exact q' p _ (Same.free e3 hp) (e3.trans (same_new hp)) ⟨Same.free e2 (Same.free e3 hp), fun e => absurd e (by decide), fun e => absurd e (by decide), fun _ => upd_same, _, upd_same⟩
      | i + 3, hy => cases hy
    · match qs', lq with
      | [q0, q1, q2], _ =>
        have r0 := r2 0 q0 rfl
        have r1 := r2 1 q1 rfl
        have r3 := r2 2 q2 rfl
        have ne : q0 ≠ q1 ∧ q0 ≠ q2 ∧ q1 ≠ q2 := by
          rw [List.nodup_cons, List.nodup_cons] at nq
          exact ⟨fun z => nq.1 (by rw [z]; exact List.mem_cons_self), fun z => nq.1 (by rw [z]; exact List.mem_cons_of_mem _ List.mem_cons_self), fun z => nq.2.1 (by rw [z]; exact List.mem_cons_self)⟩
        exact hQ D q0 q1 q2 H2 hD r0.1 r1.1 r3.1 ne.1 ne.2.1 ne.2.2 e2 u2 (r0.2.1 rfl) (r1.2.2.1 rfl) (r3.2.2.2.1 rfl)
end
end MN
/-! _law_with: another price, or a swap price less -/
namespace MN
open PySem PySem.Spec PyProof.Rows L2
/-- a record, and prices that stand as it says -/
def StK (Cp : Addr) (H : Hp) (x t : Addr) (zs zs2 : List Str) (g o : Str → Int) (ps : List SP2) : Prop := Rec H t zs zs2 g o ps ∧ PrS Cp H x zs g o ps ∧ PrN zs zs2 g o ps
theorem StK.ex {Cp p : Addr} {H H' : Hp} {x t : Addr} {zs zs2 : List Str} {g o : Str → Int} {ps : List SP2} (ex : Ex p H H') (hp : Pot H p) (h : StK Cp H x t zs zs2 g o ps) : StK Cp H' x t zs zs2 g o ps := ⟨h.1.ex ex hp, h.2.1.ex ex hp, h.2.2⟩
theorem StK.same {Cp : Addr} {H H' : Hp} {x t : Addr} {zs zs2 : List Str} {g o : Str → Int} {ps : List SP2} (e : Same H H') (h : StK Cp H x t zs zs2 g o ps) : StK Cp H' x t zs zs2 g o ps := ⟨h.1.same e, h.2.1.same e, h.2.2⟩
theorem PrS.slt {Cp : Addr} {H : Hp} {x : Addr} {zs : List Str} {g o : Str → Int} {ps : List SP2} (h : PrS Cp H x zs g o ps) : ∃ dx ws, SlX.Slt H x Cp dx ws := by
  obtain ⟨dx, _, _, ⟨_, _, _, ws, hs, _⟩, _⟩ := h
  exact ⟨dx, ws, .inr hs⟩
def spDeed (Cp : Addr) : Sp := fun vs H Q _ => ∃ p x t zs zs2 g o ps, vs = [.ref p, .ref x, .ref t] ∧ Pot H p ∧ StK Cp H x t zs zs2 g o ps ∧
  ∀ d x' t' zs' zs2' g' o' ps' H', Ex p H H' → H' d = some (.lst [.ref x', .ref t']) → StK Cp H' x' t' zs' zs2' g' o' ps' → Q (.ref d) H'
theorem dkF_keysS (zs : List Str) (g : Str → Int) : (dkF zs g).map (·.1) = zs.map Sum.inr := dkF_keys zs g
section
variable {P : Program} {w : World} {K : PySem.W.Frag} {mg : Str → Option Value} {base : Heap} {Cp : Addr}
structure GlP (mg : Str → Option Value) : Prop where
  S : GlC mg "SWAP" (.str "swap")
  P : GlC mg "PUT" (.str "put")
  O : GlC mg "OUT" (.str "out")
  M : GlC mg "MAX_PRICE" (.int 9)
  W : GlC mg "MAX_SWAP" (.int 18)
  G : GlC mg "GREATEST" (.int big)
theorem r_pwith (PD : PrD K mg Cp) (B : Blt mg) (GL : GlP mg) (c_kic : Cal P w K mg base 3 "is_kind_of_change" (spKic K)) (c_is_price : Cal P w K mg base 2 "is_price" (spIsPrice K)) (c_are_prices2 : Cal P w K mg base 3 "are_prices" spAreP2) : ∃ g, Meth K Cp "with_price" g ∧ FnR P w K mg base CX0 6 g (fun vs H Q E => spWith02 K Cp (vs ++ []) H Q E) := by
  obtain ⟨g, fd, h1, F⟩ := PD.wp
  have b := FunD.bindsN (ps := ["self", "change", "price"]) F fun _ _ _ _ _ _ us hl => match us, hl with | [_, _, _], _ => rfl
  exact ⟨g, h1, (f_pwith PD F B GL.S GL.P GL.O GL.M GL.W c_kic c_is_price c_are_prices2).raw b .nil⟩
abbrev N_law_with : List Str := ["_law_pot", "_law_prices", "_law_tables_here", "_law_signs_here", "_law_found", "_law_way", "_law_sign", "_law_other", "_law_table", "_law_price"]
theorem sc_law_with : FnScope N_law_with ["_law_pot", "_law_prices", "_law_tables_here"] (defScope (top 36)) := ⟨rfl, rfl, rfl, by decide +kernel, rfl, by decide +kernel, by decide +kernel⟩
theorem c_law_with (A : At K mg "_law_with" (top 36)) (B : Blt mg) (PD : PrD K mg Cp) (GL : GlP mg) (c_kic : Cal P w K mg base 3 "is_kind_of_change" (spKic K)) (c_is_price : Cal P w K mg base 2 "is_price" (spIsPrice K)) (c_are_prices2 : Cal P w K mg base 3 "are_prices" spAreP2)
    (c_law_dip : Cal P w K mg base 1 "_law_dip" spDip) (c_law_choose : Cal P w K mg base 2 "_law_choose" (spChoose K)) (c_law_copied : Cal P w K mg base 1 "_law_copied" spCopied) : Cal P w K mg base 7 "_law_with" (spDeed Cp) := by
  obtain ⟨gw, hW, Fw⟩ := r_pwith (P := P) (w := w) (base := base) PD B GL c_kic c_is_price c_are_prices2
  refine cal_of A sc_law_with (fun _ _ _ _ _ _ us hl => match us, hl with | [_, _, _], _ => rfl) (fun vs H Q E h => ?_) (fun _ cdv A outer s H vs Q E hr h => ?_)
  · obtain ⟨_, _, _, _, _, _, _, _, rfl, _⟩ := h; rfl
  · obtain ⟨p, x, t, zs, zs2, g, o, ps, rfl, hp, ST, hQ⟩ := h
    refine ⟨_, (pss_cons (ps_par (i := 3) (j := 4) (by rfl) sc_law_with.nd rfl rfl (by decide) rfl rfl (pa_cons (pe_callB (call_sortedD rfl) (by rfl) B.sorted (by decide +kernel) (pa_cons (pe_ix ix_list (pv 2) pe_int (fun _ _ => rfl)) pa_nil)) (pa_cons (pe_c c_law_copied hr (by decide) (by rfl) (pa_cons (pv 2) pa_nil)) pa_nil)) (by rfl))
      (pss_cons (ps_set (i := 5) sc_law_with.nd rfl (Or.inl rfl) (pe_c c_law_dip hr (by decide) (by rfl) (pa_cons (pv 0) (pa_cons pe_int pa_nil))))
      (pss_cons (ps_par (i := 6) (j := 7) (by rfl) sc_law_with.nd rfl rfl (by decide) rfl rfl (pa_cons (pe_c c_law_choose hr (by decide) (by rfl) (pa_cons (pv 0) (pa_cons (pv 3) pa_nil))) (pa_cons (pe_c c_law_choose hr (by decide) (by rfl) (pa_cons (pv 0) (pa_cons (pv 3) pa_nil))) pa_nil)) (by rfl))
      (pss_cons (ps_if (PW.pt (pw_or (pt_cmpR op_lt (pv 5) pe_int (nomark _)) (pw_or1 (pt_cmpR op_eq (pv 6) (pv 7) (nomark _)))))
        (pss_cons (ps_par (i := 8) (j := 9) (by rfl) sc_law_with.nd rfl rfl (by decide) rfl rfl (pa_cons (pe_ix ix_list (pv 4) (pe_op op_mod (pe_callTy call_int1 (by rfl) B.int (by decide +kernel) (pa_cons (pv 5) pa_nil)) pe_int) (fun _ _ => rfl)) (pa_cons (pe_op op_add pe_int (pe_c c_law_dip hr (by decide) (by rfl) (pa_cons (pv 0) (pa_cons pe_int pa_nil)))) pa_nil)) (by rfl))
        (pss_cons (ps_asg (pv 9) (pg_sub (pv 8) (pv 6) (set_dict (hu_of hr))))
        (pss_one (ps_ret (pe_lst (pa_cons (SlX.pe_methSl (E := E0) (pv 1) PD.sp.sc hW Fw (hr.mono (by decide)) pass0 (pa_cons (pe_tup (pa_cons (pe_ix ix_list (pe_lst (pa_cons pe_str (pa_cons pe_str pa_nil))) (pe_op op_mod (pe_callTy call_int1 (by rfl) B.int (by decide +kernel) (pa_cons (pv 5) pa_nil)) pe_int) (fun _ _ => rfl)) (pa_cons (pv 6) pa_nil))) (pa_cons (pv 9) pa_nil))) (pa_cons (pv 4) pa_nil)))))))
        pss_nil)
      (pss_cons (ps_par (i := 8) (j := 9) (by rfl) sc_law_with.nd rfl rfl (by decide) rfl rfl (pa_cons (pe_ix ix_list (pv 4) pe_int (fun _ _ => rfl)) (pa_cons (pe_op op_add pe_int (pe_c c_law_dip hr (by decide) (by rfl) (pa_cons (pv 0) (pa_cons pe_int pa_nil)))) pa_nil)) (by rfl))
      (pss_cons (ps_if (pt_cmpR op_eq (pv 5) pe_int (nomark _))
        (pss_cons (ps_asg (pv 9) (pg_sub (pv 8) (pe_tup (pa_cons (pv 6) (pa_cons (pv 7) pa_nil))) (set_dict (hu_of hr))))
        (pss_one (ps_ret (pe_lst (pa_cons (SlX.pe_methSl (E := E0) (pv 1) PD.sp.sc hW Fw (hr.mono (by decide)) pass0 (pa_cons (pe_tup (pa_cons pe_str (pa_cons (pv 6) (pa_cons (pv 7) pa_nil)))) (pa_cons (pv 9) pa_nil))) (pa_cons (pv 4) pa_nil))))))
        pss_nil)
      (pss_cons (ps_expr (pe_dpopT hr.units (pv 8) (pe_tup (pa_cons (pv 6) (pa_cons (pv 7) pa_nil))) pe_non ⟨rfl, rfl, rfl, rfl⟩))
      (pss_one (ps_ret (pe_lst (pa_cons (SlX.pe_methSl (E := E0) (pv 1) PD.sp.sc hW Fw (hr.mono (by decide)) pass0 (pa_cons (pe_tup (pa_cons pe_str (pa_cons (pv 6) (pa_cons (pv 7) pa_nil)))) (pa_cons pe_non pa_nil))) (pa_cons (pv 4) pa_nil)))))))))))), ?_⟩
    have two : 2 ≤ sizeLine := by decide
    have three : 3 ≤ sizeLine := by decide
    have big : 1000 < sizeLine := by decide
    obtain ⟨RC, PS0, N⟩ := id ST
    obtain ⟨RA, RB, RS, ht, hA, hB, hS⟩ := id RC
    have l5 := N.le
    refine ⟨_, rfl, t, _, _, _, rfl, rfl, SqL.of ht, rfl, RA, _, zs, rfl, .inl hA, dkF_keys zs g, by omega, fun ys q1 hys _ hq1 => ?_⟩
    have e1 := same_new (o := .lst (ys.map V.str)) hq1
    have u1 : upd H q1 (.lst (ys.map V.str)) q1 = some (.lst (ys.map V.str)) := upd_same
    generalize upd H q1 (.lst (ys.map V.str)) = H1 at e1 u1 ⊢
    refine ⟨_, rfl, t, zs, zs2, g, o, ps, rfl, RC.same e1, N, fun t' CA CB CS H2 f0 fA fB fS nAB nAS nBS e2 v0 vA vB vS => ⟨_, _, rfl, ?_⟩⟩
    have np : ∀ {q : Addr}, H1 q = none → q ≠ p := fun {q} h z => by
      obtain ⟨a, b, c, e⟩ := hp
      rw [z, e1 _ _ e] at h
      cases h
    have nAp := np fA
    have nBp := np fB
    have nSp := np fS
    have gA := e1.free fA
    have gB := e1.free fB
    have gS := e1.free fS
    have ex2 : Ex p H H2 := ((Ex.refl hp).same e1).same e2
    have u2 := e2 _ _ u1
    have nqp : q1 ≠ p := fun z => by
      obtain ⟨a, b, c, e⟩ := hp
      rw [z, e] at hq1
      cases hq1
    have lys := hys.length_eq
    have lp := N.pos
    clear e1 e2 u1 f0 fA fB fS
    obtain ⟨a0, b0, c0, hp2⟩ := ex2.pot
    refine ⟨_, rfl, p, 4, a0, b0, c0, rfl, hp2, by decide, by decide, fun r a' b' c' r0 r4 => ?_⟩
    have step : ∀ {Ha Hb : Hp}, Ex p Ha Hb → Pot Ha p → (Ha q1 = some (.lst (ys.map V.str)) ∧ Ha t' = some (.lst [.ref CA, .ref CB, .ref CS]) ∧ Ha CA = some (.dK (dkF zs g)) ∧ Ha CB = some (.dK (dkF zs2 o)) ∧ Ha CS = some (.dT (dtF ps))) → (Hb q1 = some (.lst (ys.map V.str)) ∧ Hb t' = some (.lst [.ref CA, .ref CB, .ref CS]) ∧ Hb CA = some (.dK (dkF zs g)) ∧ Hb CB = some (.dK (dkF zs2 o)) ∧ Hb CS = some (.dT (dtF ps))) := fun {Ha Hb} ex hp h =>
      ⟨ex.keep _ _ nqp h.1, ex.refs hp (bs := [CA, CB, CS]) h.2.1, ex.dK hp h.2.2.1, ex.dK hp h.2.2.2.1, ex.dT hp h.2.2.2.2⟩
    have ex3 := ex2.trans (Ex.turn (p := p) (a := a') (b := b') (c := c'))
    have w3 := step (Ex.turn (p := p) (a := a') (b := b') (c := c')) ex2.pot ⟨u2, v0, vA, vB, vS⟩
    generalize upd H2 p (potO a' b' c') = H3 at ex3 w3 ⊢
    clear ex2 u2 v0 vA vB vS hp2 a' b' c'
    refine ⟨_, rfl, _, rfl, p, .ref q1, rfl, ex3.pot, .inr ⟨q1, _, rfl, nqp, SqL.of w3.1, by rw [List.length_map]; omega, by rw [List.length_map]; omega, fun v a' b' c' hv => ?_⟩⟩
    obtain ⟨z, hzy, rfl⟩ := List.mem_map.mp hv
    have hz : z ∈ zs := hys.mem_iff.mp hzy
    have ex4 := ex3.trans (Ex.turn (p := p) (a := a') (b := b') (c := c'))
    have w4 := step (Ex.turn (p := p) (a := a') (b := b') (c := c')) ex3.pot w3
    generalize upd H3 p (potO a' b' c') = H4 at ex4 w4 ⊢
    clear ex3 w3 a' b' c' hv hzy
    refine ⟨_, rfl, _, rfl, p, .ref q1, rfl, ex4.pot, .inr ⟨q1, _, rfl, nqp, SqL.of w4.1, by rw [List.length_map]; omega, by rw [List.length_map]; omega, fun v a' b' c' hv => ?_⟩⟩
    obtain ⟨z', hzy, rfl⟩ := List.mem_map.mp hv
    have hz' : z' ∈ zs := hys.mem_iff.mp hzy
    have ex5 := ex4.trans (Ex.turn (p := p) (a := a') (b := b') (c := c'))
    have w5 := step (Ex.turn (p := p) (a := a') (b := b') (c := c')) ex4.pot w4
    generalize upd H4 p (potO a' b' c') = H5 at ex5 w5 ⊢
    clear ex4 w4 a' b' c' hv hzy
    refine ⟨_, _, rfl, ?_⟩
    refine ⟨_, rfl, _, _, rfl, rfl, _, rfl, ?_⟩
    by_cases hr2 : r < 2
    · refine iteDT hr2 ?_
      rcases (show r % 2 = 0 ∨ r % 2 = 1 by omega) with hk | hk
      · refine ⟨_, rfl, _, rfl, .inl ⟨_, rfl, _, _, rfl, rfl, (show (0 : Int) < 2 by decide), t', _, _, .ref CA, rfl, rfl, SqL.of w5.2.1, (by rw [hk]; rfl), ?_⟩⟩
        obtain ⟨a0, b0, c0, hp5⟩ := ex5.pot
        refine ⟨_, rfl, p, 9, a0, b0, c0, rfl, hp5, by decide, by decide, fun m a' b' c' m0 m9 => ⟨_, _, rfl, rfl, _, _, rfl, ?_⟩⟩
        have ex6 := ex5.trans (Ex.turn (p := p) (a := a') (b := b') (c := c'))
        have w6 := step (Ex.turn (p := p) (a := a') (b := b') (c := c')) ex5.pot w5
        generalize upd H5 p (potO a' b' c') = H6 at ex6 w6 ⊢
        clear ex5 w5 a' b' c' hp5
        refine ⟨_, rfl, _, rfl, _, rfl, CA, _, rfl, .inl ⟨_, .inr z, w6.2.2.1, rfl, by simp only [dkF, List.length_map]; have := N.pm.length_eq; omega, rfl⟩, ?_⟩
        rw [dkF_set g hz]
        have ex7 : Ex p H (upd H6 CA (.dK (dkF zs (putG g z (1 + m))))) := ex6.put gA nAp
        have x0 : upd H6 CA (.dK (dkF zs (putG g z (1 + m)))) t' = some (.lst [.ref CA, .ref CB, .ref CS]) := by rw [upd_ne (fun z => by have := w6.2.1; rw [z, w6.2.2.1] at this; cases this)]; exact w6.2.1
        have xA : upd H6 CA (.dK (dkF zs (putG g z (1 + m)))) CA = some (.dK (dkF zs (putG g z (1 + m)))) := upd_same
        have xB : upd H6 CA (.dK (dkF zs (putG g z (1 + m)))) CB = some (.dK (dkF zs2 o)) := by rw [upd_ne nAB.symm]; exact w6.2.2.2.1
        have xS : upd H6 CA (.dK (dkF zs (putG g z (1 + m)))) CS = some (.dT (dtF ps)) := by rw [upd_ne nAS.symm]; exact w6.2.2.2.2
        generalize upd H6 CA (.dK (dkF zs (putG g z (1 + m)))) = H7 at ex7 x0 xA xB xS ⊢
        clear ex6 w6
        have P7 := PS0.ex ex7 hp
        obtain ⟨dx, ws, sl⟩ := P7.slt
        refine ⟨_, rfl, x, dx, ws, rfl, sl, two, fun l hl => ?_⟩
        have e8 := same_new (o := .lst [.str "put", .str "out"]) hl
        have u8 : upd H7 l (.lst [.str "put", .str "out"]) l = some (.lst [.str "put", .str "out"]) := upd_same
        generalize upd H7 l (.lst [.str "put", .str "out"]) = H8 at e8 u8 ⊢
        refine ⟨_, rfl, .inl ⟨_, rfl, _, _, rfl, rfl, (show (0 : Int) < 2 by decide), l, _, _, .str "put", rfl, rfl, SqL.of u8, (by rw [hk]; rfl), _, rfl, two, fun T hT => ?_⟩⟩
        have e9 := e8.trans (same_new (o := .tup [.str "put", .str z]) hT)
        have u9 : upd H8 T (.tup [.str "put", .str z]) T = some (.tup [.str "put", .str z]) := upd_same
        generalize upd H8 T (.tup [.str "put", .str z]) = H9 at e9 u9 ⊢
        refine ⟨_, rfl, x, T, _, zs, g, o, ps, rfl, P7.same e9, .inl ⟨z, 1 + m, .inl (.inl u9), rfl, hz, by omega, by omega, fun y H10 e10 P10 => ?_⟩⟩
        have e11 := e9.trans e10
        refine ⟨_, rfl, two, fun d hd => ?_⟩
        have s12 := e11.trans (same_new (o := .lst [.ref y, .ref t']) hd)
        exact hQ d y t' zs zs2 (putG g z (1 + m)) o ps _ (ex7.same s12) upd_same ⟨⟨CA, CB, CS, s12 _ _ x0, s12 _ _ xA, s12 _ _ xB, s12 _ _ xS⟩, P10.same (same_new hd), N.setG (by omega) (by omega)⟩
      · refine ⟨_, rfl, _, rfl, .inl ⟨_, rfl, _, _, rfl, rfl, (show (0 : Int) < 2 by decide), t', _, _, .ref CB, rfl, rfl, SqL.of w5.2.1, (by rw [hk]; rfl), ?_⟩⟩
        obtain ⟨a0, b0, c0, hp5⟩ := ex5.pot
        refine ⟨_, rfl, p, 9, a0, b0, c0, rfl, hp5, by decide, by decide, fun m a' b' c' m0 m9 => ⟨_, _, rfl, rfl, _, _, rfl, ?_⟩⟩
        have ex6 := ex5.trans (Ex.turn (p := p) (a := a') (b := b') (c := c'))
        have w6 := step (Ex.turn (p := p) (a := a') (b := b') (c := c')) ex5.pot w5
        generalize upd H5 p (potO a' b' c') = H6 at ex6 w6 ⊢
        clear ex5 w5 a' b' c' hp5
        refine ⟨_, rfl, _, rfl, _, rfl, CB, _, rfl, .inl ⟨_, .inr z, w6.2.2.2.1, rfl, by simp only [dkF, List.length_map]; have := N.pm.length_eq; omega, rfl⟩, ?_⟩
        rw [dkF_set o (N.pm.mem_iff.mpr hz)]
        have ex7 : Ex p H (upd H6 CB (.dK (dkF zs2 (putG o z (1 + m))))) := ex6.put gB nBp
        have x0 : upd H6 CB (.dK (dkF zs2 (putG o z (1 + m)))) t' = some (.lst [.ref CA, .ref CB, .ref CS]) := by rw [upd_ne (fun z => by have := w6.2.1; rw [z, w6.2.2.2.1] at this; cases this)]; exact w6.2.1
        have xA : upd H6 CB (.dK (dkF zs2 (putG o z (1 + m)))) CA = some (.dK (dkF zs g)) := by rw [upd_ne nAB]; exact w6.2.2.1
        have xB : upd H6 CB (.dK (dkF zs2 (putG o z (1 + m)))) CB = some (.dK (dkF zs2 (putG o z (1 + m)))) := upd_same
        have xS : upd H6 CB (.dK (dkF zs2 (putG o z (1 + m)))) CS = some (.dT (dtF ps)) := by rw [upd_ne nBS.symm]; exact w6.2.2.2.2
        generalize upd H6 CB (.dK (dkF zs2 (putG o z (1 + m)))) = H7 at ex7 x0 xA xB xS ⊢
        clear ex6 w6
        have P7 := PS0.ex ex7 hp
        obtain ⟨dx, ws, sl⟩ := P7.slt
        refine ⟨_, rfl, x, dx, ws, rfl, sl, two, fun l hl => ?_⟩
        have e8 := same_new (o := .lst [.str "put", .str "out"]) hl
        have u8 : upd H7 l (.lst [.str "put", .str "out"]) l = some (.lst [.str "put", .str "out"]) := upd_same
        generalize upd H7 l (.lst [.str "put", .str "out"]) = H8 at e8 u8 ⊢
        refine ⟨_, rfl, .inl ⟨_, rfl, _, _, rfl, rfl, (show (0 : Int) < 2 by decide), l, _, _, .str "out", rfl, rfl, SqL.of u8, (by rw [hk]; rfl), _, rfl, two, fun T hT => ?_⟩⟩
        have e9 := e8.trans (same_new (o := .tup [.str "out", .str z]) hT)
        have u9 : upd H8 T (.tup [.str "out", .str z]) T = some (.tup [.str "out", .str z]) := upd_same
        generalize upd H8 T (.tup [.str "out", .str z]) = H9 at e9 u9 ⊢
        refine ⟨_, rfl, x, T, _, zs, g, o, ps, rfl, P7.same e9, .inr (.inl ⟨z, 1 + m, .inl (.inl u9), rfl, hz, by omega, by omega, fun y H10 e10 P10 => ?_⟩)⟩
        have e11 := e9.trans e10
        refine ⟨_, rfl, two, fun d hd => ?_⟩
        have s12 := e11.trans (same_new (o := .lst [.ref y, .ref t']) hd)
        exact hQ d y t' zs zs2 g (putG o z (1 + m)) ps _ (ex7.same s12) upd_same ⟨⟨CA, CB, CS, s12 _ _ x0, s12 _ _ xA, s12 _ _ xB, s12 _ _ xS⟩, P10.same (same_new hd), N.setO (by omega) (by omega)⟩
    refine iteDF hr2 ⟨_, rfl, _, rfl, rfl, _, rfl, ?_⟩
    by_cases hzz : z = z'
    · refine iteDT (by rw [hzz]) ?_
      rcases (show r % 2 = 0 ∨ r % 2 = 1 by omega) with hk | hk
      · refine ⟨_, rfl, _, rfl, .inl ⟨_, rfl, _, _, rfl, rfl, (show (0 : Int) < 2 by decide), t', _, _, .ref CA, rfl, rfl, SqL.of w5.2.1, (by rw [hk]; rfl), ?_⟩⟩
        obtain ⟨a0, b0, c0, hp5⟩ := ex5.pot
        refine ⟨_, rfl, p, 9, a0, b0, c0, rfl, hp5, by decide, by decide, fun m a' b' c' m0 m9 => ⟨_, _, rfl, rfl, _, _, rfl, ?_⟩⟩
        have ex6 := ex5.trans (Ex.turn (p := p) (a := a') (b := b') (c := c'))
        have w6 := step (Ex.turn (p := p) (a := a') (b := b') (c := c')) ex5.pot w5
        generalize upd H5 p (potO a' b' c') = H6 at ex6 w6 ⊢
        clear ex5 w5 a' b' c' hp5
        refine ⟨_, rfl, _, rfl, _, rfl, CA, _, rfl, .inl ⟨_, .inr z, w6.2.2.1, rfl, by simp only [dkF, List.length_map]; have := N.pm.length_eq; omega, rfl⟩, ?_⟩
        rw [dkF_set g hz]
        have ex7 : Ex p H (upd H6 CA (.dK (dkF zs (putG g z (1 + m))))) := ex6.put gA nAp
        have x0 : upd H6 CA (.dK (dkF zs (putG g z (1 + m)))) t' = some (.lst [.ref CA, .ref CB, .ref CS]) := by rw [upd_ne (fun z => by have := w6.2.1; rw [z, w6.2.2.1] at this; cases this)]; exact w6.2.1
        have xA : upd H6 CA (.dK (dkF zs (putG g z (1 + m)))) CA = some (.dK (dkF zs (putG g z (1 + m)))) := upd_same
        have xB : upd H6 CA (.dK (dkF zs (putG g z (1 + m)))) CB = some (.dK (dkF zs2 o)) := by rw [upd_ne nAB.symm]; exact w6.2.2.2.1
        have xS : upd H6 CA (.dK (dkF zs (putG g z (1 + m)))) CS = some (.dT (dtF ps)) := by rw [upd_ne nAS.symm]; exact w6.2.2.2.2
        generalize upd H6 CA (.dK (dkF zs (putG g z (1 + m)))) = H7 at ex7 x0 xA xB xS ⊢
        clear ex6 w6
        have P7 := PS0.ex ex7 hp
        obtain ⟨dx, ws, sl⟩ := P7.slt
        refine ⟨_, rfl, x, dx, ws, rfl, sl, two, fun l hl => ?_⟩
        have e8 := same_new (o := .lst [.str "put", .str "out"]) hl
        have u8 : upd H7 l (.lst [.str "put", .str "out"]) l = some (.lst [.str "put", .str "out"]) := upd_same
        generalize upd H7 l (.lst [.str "put", .str "out"]) = H8 at e8 u8 ⊢
        refine ⟨_, rfl, .inl ⟨_, rfl, _, _, rfl, rfl, (show (0 : Int) < 2 by decide), l, _, _, .str "put", rfl, rfl, SqL.of u8, (by rw [hk]; rfl), _, rfl, two, fun T hT => ?_⟩⟩
        have e9 := e8.trans (same_new (o := .tup [.str "put", .str z]) hT)
        have u9 : upd H8 T (.tup [.str "put", .str z]) T = some (.tup [.str "put", .str z]) := upd_same
        generalize upd H8 T (.tup [.str "put", .str z]) = H9 at e9 u9 ⊢
        refine ⟨_, rfl, x, T, _, zs, g, o, ps, rfl, P7.same e9, .inl ⟨z, 1 + m, .inl (.inl u9), rfl, hz, by omega, by omega, fun y H10 e10 P10 => ?_⟩⟩
        have e11 := e9.trans e10
        refine ⟨_, rfl, two, fun d hd => ?_⟩
        have s12 := e11.trans (same_new (o := .lst [.ref y, .ref t']) hd)
        exact hQ d y t' zs zs2 (putG g z (1 + m)) o ps _ (ex7.same s12) upd_same ⟨⟨CA, CB, CS, s12 _ _ x0, s12 _ _ xA, s12 _ _ xB, s12 _ _ xS⟩, P10.same (same_new hd), N.setG (by omega) (by omega)⟩
      · refine ⟨_, rfl, _, rfl, .inl ⟨_, rfl, _, _, rfl, rfl, (show (0 : Int) < 2 by decide), t', _, _, .ref CB, rfl, rfl, SqL.of w5.2.1, (by rw [hk]; rfl), ?_⟩⟩
        obtain ⟨a0, b0, c0, hp5⟩ := ex5.pot
        refine ⟨_, rfl, p, 9, a0, b0, c0, rfl, hp5, by decide, by decide, fun m a' b' c' m0 m9 => ⟨_, _, rfl, rfl, _, _, rfl, ?_⟩⟩
        have ex6 := ex5.trans (Ex.turn (p := p) (a := a') (b := b') (c := c'))
        have w6 := step (Ex.turn (p := p) (a := a') (b := b') (c := c')) ex5.pot w5
        generalize upd H5 p (potO a' b' c') = H6 at ex6 w6 ⊢
        clear ex5 w5 a' b' c' hp5
        refine ⟨_, rfl, _, rfl, _, rfl, CB, _, rfl, .inl ⟨_, .inr z, w6.2.2.2.1, rfl, by simp only [dkF, List.length_map]; have := N.pm.length_eq; omega, rfl⟩, ?_⟩
        rw [dkF_set o (N.pm.mem_iff.mpr hz)]
        have ex7 : Ex p H (upd H6 CB (.dK (dkF zs2 (putG o z (1 + m))))) := ex6.put gB nBp
        have x0 : upd H6 CB (.dK (dkF zs2 (putG o z (1 + m)))) t' = some (.lst [.ref CA, .ref CB, .ref CS]) := by rw [upd_ne (fun z => by have := w6.2.1; rw [z, w6.2.2.2.1] at this; cases this)]; exact w6.2.1
        have xA : upd H6 CB (.dK (dkF zs2 (putG o z (1 + m)))) CA = some (.dK (dkF zs g)) := by rw [upd_ne nAB]; exact w6.2.2.1
        have xB : upd H6 CB (.dK (dkF zs2 (putG o z (1 + m)))) CB = some (.dK (dkF zs2 (putG o z (1 + m)))) := upd_same
        have xS : upd H6 CB (.dK (dkF zs2 (putG o z (1 + m)))) CS = some (.dT (dtF ps)) := by rw [upd_ne nBS.symm]; exact w6.2.2.2.2
        generalize upd H6 CB (.dK (dkF zs2 (putG o z (1 + m)))) = H7 at ex7 x0 xA xB xS ⊢
        clear ex6 w6
        have P7 := PS0.ex ex7 hp
        obtain ⟨dx, ws, sl⟩ := P7.slt
        refine ⟨_, rfl, x, dx, ws, rfl, sl, two, fun l hl => ?_⟩
        have e8 := same_new (o := .lst [.str "put", .str "out"]) hl
        have u8 : upd H7 l (.lst [.str "put", .str "out"]) l = some (.lst [.str "put", .str "out"]) := upd_same
        generalize upd H7 l (.lst [.str "put", .str "out"]) = H8 at e8 u8 ⊢
        refine ⟨_, rfl, .inl ⟨_, rfl, _, _, rfl, rfl, (show (0 : Int) < 2 by decide), l, _, _, .str "out", rfl, rfl, SqL.of u8, (by rw [hk]; rfl), _, rfl, two, fun T hT => ?_⟩⟩
        have e9 := e8.trans (same_new (o := .tup [.str "out", .str z]) hT)
        have u9 : upd H8 T (.tup [.str "out", .str z]) T = some (.tup [.str "out", .str z]) := upd_same
        generalize upd H8 T (.tup [.str "out", .str z]) = H9 at e9 u9 ⊢
        refine ⟨_, rfl, x, T, _, zs, g, o, ps, rfl, P7.same e9, .inr (.inl ⟨z, 1 + m, .inl (.inl u9), rfl, hz, by omega, by omega, fun y H10 e10 P10 => ?_⟩)⟩
        have e11 := e9.trans e10
        refine ⟨_, rfl, two, fun d hd => ?_⟩
        have s12 := e11.trans (same_new (o := .lst [.ref y, .ref t']) hd)
        exact hQ d y t' zs zs2 g (putG o z (1 + m)) ps _ (ex7.same s12) upd_same ⟨⟨CA, CB, CS, s12 _ _ x0, s12 _ _ xA, s12 _ _ xB, s12 _ _ xS⟩, P10.same (same_new hd), N.setO (by omega) (by omega)⟩
    refine iteDF (fun q => hzz (by injection q)) ?_
    refine ⟨_, rfl, t', _, _, .ref CS, rfl, rfl, SqL.of w5.2.1, rfl, ?_⟩
    obtain ⟨a0, b0, c0, hp5⟩ := ex5.pot
    refine ⟨_, rfl, p, 18, a0, b0, c0, rfl, hp5, by decide, by decide, fun m a' b' c' m0 m9 => ⟨_, _, rfl, rfl, _, _, rfl, ?_⟩⟩
    have ex6 := ex5.trans (Ex.turn (p := p) (a := a') (b := b') (c := c'))
    have w6 := step (Ex.turn (p := p) (a := a') (b := b') (c := c')) ex5.pot w5
    generalize upd H5 p (potO a' b' c') = H6 at ex6 w6 ⊢
    clear ex5 w5 a' b' c' hp5
    have l100 := N.sl
    refine ⟨_, rfl, rfl, _, rfl, ?_⟩
    by_cases hr3 : r = 2
    · refine iteDT (by rw [hr3]) ?_
      refine ⟨_, rfl, _, rfl, _, rfl, _, rfl, two, fun T0 hT0 => ?_⟩
      have ex60 := ex6.new (o := .tup [.str z, .str z']) hT0
      have u60 : upd H6 T0 (.tup [.str z, .str z']) T0 = some (.tup [.str z, .str z']) := upd_same
      have w60 := step (((Ex.refl ex6.pot).new (o := .tup [.str z, .str z']) hT0)) ex6.pot w6
      generalize upd H6 T0 (.tup [.str z, .str z']) = H60 at ex60 u60 w60 ⊢
      clear ex6 w6 hT0
      refine ⟨CS, _, rfl, .inr ⟨_, [.inr z, .inr z'], T0, w60.2.2.2.2, rfl, u60, by simp only [dtF, List.length_map]; omega, rfl⟩, ?_⟩
      rw [dtF_set]
      have ex7 : Ex p H (upd H60 CS (.dT (dtF (putP ps (z, z') (1 + m))))) := ex60.put gS nSp
      have x0 : upd H60 CS (.dT (dtF (putP ps (z, z') (1 + m)))) t' = some (.lst [.ref CA, .ref CB, .ref CS]) := by rw [upd_ne (fun z => by have := w60.2.1; rw [z, w60.2.2.2.2] at this; cases this)]; exact w60.2.1
      have xA : upd H60 CS (.dT (dtF (putP ps (z, z') (1 + m)))) CA = some (.dK (dkF zs g)) := by rw [upd_ne nAS]; exact w60.2.2.1
      have xB : upd H60 CS (.dT (dtF (putP ps (z, z') (1 + m)))) CB = some (.dK (dkF zs2 o)) := by rw [upd_ne nBS]; exact w60.2.2.2.1
      have xS : upd H60 CS (.dT (dtF (putP ps (z, z') (1 + m)))) CS = some (.dT (dtF (putP ps (z, z') (1 + m)))) := upd_same
      generalize upd H60 CS (.dT (dtF (putP ps (z, z') (1 + m)))) = H7 at ex7 x0 xA xB xS ⊢
      clear ex60 w60 u60
      have P7 := PS0.ex ex7 hp
      obtain ⟨dx, ws, sl⟩ := P7.slt
      refine ⟨_, rfl, x, dx, ws, rfl, sl, _, rfl, _, rfl, three, fun T hT => ?_⟩
      have e9 := same_new (o := .tup [.str "swap", .str z, .str z']) hT
      have u9 : upd H7 T (.tup [.str "swap", .str z, .str z']) T = some (.tup [.str "swap", .str z, .str z']) := upd_same
      generalize upd H7 T (.tup [.str "swap", .str z, .str z']) = H9 at e9 u9 ⊢
      refine ⟨_, rfl, x, T, _, zs, g, o, ps, rfl, P7.same e9, .inr (.inr (.inl ⟨z, z', 1 + m, .inl (.inl u9), rfl, hz, hz', hzz, by omega, by omega, fun y H10 e10 P10 => ?_⟩))⟩
      have e11 := e9.trans e10
      refine ⟨_, rfl, two, fun d hd => ?_⟩
      have s12 := e11.trans (same_new (o := .lst [.ref y, .ref t']) hd)
      exact hQ d y t' zs zs2 g o _ _ (ex7.same s12) upd_same ⟨⟨CA, CB, CS, s12 _ _ x0, s12 _ _ xA, s12 _ _ xB, s12 _ _ xS⟩, P10.same (same_new hd), N.setP hz hz' hzz (by omega) (by omega)⟩
    refine iteDF (fun q => hr3 (by injection q)) ?_
    refine ⟨_, rfl, CS, rfl, .inr ⟨_, .inl w6.2.2.2.2⟩, _, rfl, _, rfl, two, fun T0 hT0 => ?_⟩
    have ex60 := ex6.new (o := .tup [.str z, .str z']) hT0
    have u60 : upd H6 T0 (.tup [.str z, .str z']) T0 = some (.tup [.str z, .str z']) := upd_same
    have w60 := step (((Ex.refl ex6.pot).new (o := .tup [.str z, .str z']) hT0)) ex6.pot w6
    generalize upd H6 T0 (.tup [.str z, .str z']) = H60 at ex60 u60 w60 ⊢
    clear ex6 w6 hT0
    refine ⟨_, [.inr z, .inr z'], T0, w60.2.2.2.2, rfl, u60, fun v hv => ?_, fun hv => ?_⟩
    · rw [dtF_drop]
      have ex7 : Ex p H (upd H60 CS (.dT (dtF (dropP ps (z, z'))))) := ex60.put gS nSp
      have x0 : upd H60 CS (.dT (dtF (dropP ps (z, z')))) t' = some (.lst [.ref CA, .ref CB, .ref CS]) := by rw [upd_ne (fun z => by have := w60.2.1; rw [z, w60.2.2.2.2] at this; cases this)]; exact w60.2.1
      have xA : upd H60 CS (.dT (dtF (dropP ps (z, z')))) CA = some (.dK (dkF zs g)) := by rw [upd_ne nAS]; exact w60.2.2.1
      have xB : upd H60 CS (.dT (dtF (dropP ps (z, z')))) CB = some (.dK (dkF zs2 o)) := by rw [upd_ne nBS]; exact w60.2.2.2.1
      have xS : upd H60 CS (.dT (dtF (dropP ps (z, z')))) CS = some (.dT (dtF (dropP ps (z, z')))) := upd_same
      generalize upd H60 CS (.dT (dtF (dropP ps (z, z')))) = H7 at ex7 x0 xA xB xS ⊢
      have P7 := PS0.ex ex7 hp
      obtain ⟨dx, ws, sl⟩ := P7.slt
      refine ⟨_, rfl, x, dx, ws, rfl, sl, _, rfl, _, rfl, three, fun T hT => ?_⟩
      have e9 := same_new (o := .tup [.str "swap", .str z, .str z']) hT
      have u9 : upd H7 T (.tup [.str "swap", .str z, .str z']) T = some (.tup [.str "swap", .str z, .str z']) := upd_same
      generalize upd H7 T (.tup [.str "swap", .str z, .str z']) = H9 at e9 u9 ⊢
      refine ⟨x, T, _, zs, g, o, ps, rfl, P7.same e9, .inr (.inr (.inr ⟨z, z', .inl (.inl u9), rfl, hz, hz', hzz, fun y H10 e10 P10 => ?_⟩))⟩
      have e11 := e9.trans e10
      refine ⟨_, rfl, two, fun d hd => ?_⟩
      have s12 := e11.trans (same_new (o := .lst [.ref y, .ref t']) hd)
      exact hQ d y t' zs zs2 g o _ _ (ex7.same s12) upd_same ⟨⟨CA, CB, CS, s12 _ _ x0, s12 _ _ xA, s12 _ _ xB, s12 _ _ xS⟩, P10.same (same_new hd), N.filtP _⟩
    · have nk : (z, z') ∉ ps.map Prod.fst := fun q => by
        obtain ⟨e, he, ee⟩ := List.mem_map.mp q
        rw [dtF_val (x := z) (y := z') (p := e.2) N.sn (by rw [← ee]; exact he)] at hv
        cases hv
      have ex7 := ex60
      have x0 := w60.2.1
      have xA := w60.2.2.1
      have xB := w60.2.2.2.1
      have xS : H60 CS = some (.dT (dtF (dropP ps (z, z')))) := by rw [dropP_no nk]; exact w60.2.2.2.2
      clear ex60 w60 u60
      generalize H60 = H7 at ex7 x0 xA xB xS ⊢
      have P7 := PS0.ex ex7 hp
      obtain ⟨dx, ws, sl⟩ := P7.slt
      refine ⟨_, rfl, x, dx, ws, rfl, sl, _, rfl, _, rfl, three, fun T hT => ?_⟩
      have e9 := same_new (o := .tup [.str "swap", .str z, .str z']) hT
      have u9 : upd H7 T (.tup [.str "swap", .str z, .str z']) T = some (.tup [.str "swap", .str z, .str z']) := upd_same
      generalize upd H7 T (.tup [.str "swap", .str z, .str z']) = H9 at e9 u9 ⊢
      refine ⟨x, T, _, zs, g, o, ps, rfl, P7.same e9, .inr (.inr (.inr ⟨z, z', .inl (.inl u9), rfl, hz, hz', hzz, fun y H10 e10 P10 => ?_⟩))⟩
      have e11 := e9.trans e10
      refine ⟨_, rfl, two, fun d hd => ?_⟩
      have s12 := e11.trans (same_new (o := .lst [.ref y, .ref t']) hd)
      exact hQ d y t' zs zs2 g o _ _ (ex7.same s12) upd_same ⟨⟨CA, CB, CS, s12 _ _ x0, s12 _ _ xA, s12 _ _ xB, s12 _ _ xS⟩, P10.same (same_new hd), N.filtP _⟩
end
end MN
/-! _law_fewer -/
namespace MN
open PySem PySem.Spec PyProof.Rows L2
section
variable {K : PySem.W.Frag} {l D : Addr} {H1 : Hp} {σ : L2.St} {vs : List Nat} {te : TE} {j : Nat} {Qd : Hp → Prop} {us : List Str}
/-- [(z, g z) for z in signs] -/
theorem lc_tabK (hl : SqL K H1 l (strsV us)) (hz : us.length ≤ 1000) (g : Str → Int) (hD : H1 D = none) (hw : ∀ x ∈ strsV us, wipe ((wipe σ vs).set j (some x)) vs = wipe σ vs)
    (he : ∀ z ∈ us, ∀ H2, Same H1 H2 → ∀ Q : VK, (∀ T, H2 T = none → Q (.ref T) (upd H2 T (.tup [.str z, .int (g z)]))) → te ((wipe σ vs).set j (some (.str z))) H2 Q)
    (hd : ∀ H' ts, Same H1 H' → H' D = some (.lst (ts.map V.ref)) → Paired (fun t (kv : Key × V) => SqT K H' t [kV kv.1, kv.2]) ts (dkF us g) → Qd H') : LcGoal (Itl K l) (gName j) tYes te vs σ H1 D Qd := by
  have ll : (strsV us).length = us.length := by simp [strsV]
  refine lc_newF walk_list (strsV us) rfl (by rw [ll]; exact hz) (fun _ _ _ _ _ y => y) hD (fun H' e => Same.seq e hl) hw (fun k v H' => ∃ z, us[k]? = some z ∧ H' v = some (.tup [.str z, .int (g z)])) (fun k v _ _ up n r => ?_) (fun _ _ _ r => ?_) (fun i y hy H2 e2 _ Q' q' => ?_) (fun H2 qs e2 u2 nq nD lq r2 => ?_)
  · obtain ⟨z, h1, h2⟩ := r
    exact ⟨z, h1, up _ _ n h2⟩
  · obtain ⟨z, _, h2⟩ := r
    exact ⟨_, h2⟩
  · have hy' : (us.map V.str)[i]? = some y := hy
    rw [List.getElem?_map] at hy'
    obtain ⟨z, hz, rfl⟩ := Option.map_eq_some_iff.mp hy'
    exact he z (List.mem_of_getElem? hz) H2 e2 Q' fun T hT => q' T _ hT (same_new hT) ⟨z, hz, upd_same⟩
  · refine hd H2 qs e2 u2 (paired_of (by rw [lq, ll]; simp [dkF]) fun k t kv ht hkv => ?_)
    obtain ⟨z, h1, h2⟩ := r2 k t ht
    unfold dkF at hkv
    rw [List.getElem?_map, h1] at hkv
    cases hkv
    exact .inl (.inl h2)
end
section
variable {P : Program} {w : World} {K : PySem.W.Frag} {mg : Str → Option Value} {base : Heap} {Cp : Addr}
theorem r_plim (PD : PrD K mg Cp) (B : Blt mg) (c_require_signs : Cal P w K mg base 3 "require_signs" (spReqSigns K)) (c_are_prices2 : Cal P w K mg base 3 "are_prices" spAreP2) : ∃ g, Meth K Cp "limited" g ∧ FnR P w K mg base CX0 6 g (fun vs H Q E => spLim02 K Cp (vs ++ []) H Q E) := by
  obtain ⟨g, fd, h1, F⟩ := PD.lim
  have b := FunD.bindsN (ps := ["self", "signs"]) F fun _ _ _ _ _ _ us hl => match us, hl with | [_, _], _ => rfl
  exact ⟨g, h1, (f_plim PD F B c_require_signs c_are_prices2).raw b .nil⟩
abbrev N_law_fewer : List Str := ["_law_pot", "_law_prices", "_law_tables_here", "_law_signs_here", "_law_some", "_law_found", "_law_sign", "_law_table", "_law_pairs", "_law_pair"]
theorem sc_law_fewer : FnScope N_law_fewer ["_law_pot", "_law_prices", "_law_tables_here"] (defScope (top 37)) := ⟨rfl, rfl, rfl, by decide +kernel, rfl, by decide +kernel, by decide +kernel⟩
abbrev scF2 : Scope := { kind := .function, names := [(".0", .local), ("_law_table", .cell), ("dict", .globalImplicit), ("_law_some", .cell)], isGenerator := false, isCoroutine := false }
theorem c_law_fewer (A : At K mg "_law_fewer" (top 37)) (B : Blt mg) (PD : PrD K mg Cp) (c_require_signs : Cal P w K mg base 3 "require_signs" (spReqSigns K)) (c_are_prices2 : Cal P w K mg base 3 "are_prices" spAreP2)
    (c_law_dip : Cal P w K mg base 1 "_law_dip" spDip) (c_law_shuffled : Cal P w K mg base 2 "_law_shuffled" (spShufI K)) : Cal P w K mg base 7 "_law_fewer" (spDeed Cp) := by
  obtain ⟨gw, hL, Fw⟩ := r_plim (P := P) (w := w) (base := base) PD B c_require_signs c_are_prices2
  refine cal_of A sc_law_fewer (fun _ _ _ _ _ _ us hl => match us, hl with | [_, _, _], _ => rfl) (fun vs H Q E h => ?_) (fun _ cdv A outer s H vs Q E hr h => ?_)
  · obtain ⟨_, _, _, _, _, _, _, _, rfl, _⟩ := h; rfl
  · obtain ⟨p, x, t, zs, zs2, g, o, ps, rfl, hp, ST, hQ⟩ := h
    refine ⟨_, (pss_cons (ps_set (i := 3) sc_law_fewer.nd rfl (Or.inl rfl) (pe_callB (call_sortedD rfl) (by rfl) B.sorted (by decide +kernel) (pa_cons (pe_ix ix_list (pv 2) pe_int (fun _ _ => rfl)) pa_nil)))
      (pss_cons (ps_set (i := 4) sc_law_fewer.nd rfl (Or.inr rfl) (pe_callB cr_sortedS (by rfl) B.sorted (by decide +kernel) (pa_cons (pe_slice sl_list (pe_c c_law_shuffled hr (by decide) (by rfl) (pa_cons (pv 0) (pa_cons (pv 3) pa_nil))) po_none (po_some (pe_op op_add pe_int (pe_c c_law_dip hr (by decide) (by rfl) (pa_cons (pv 0) (pa_cons (pe_callB call_len_seq (by rfl) B.len (by decide +kernel) (pa_cons (pv 3) pa_nil)) pa_nil)))))) pa_nil)))
      (pss_cons (ps_setLc (i := 5) (own := [("_law_table", 7)]) (g := gName 7) (tt := tYes) (by rfl) sc_law_fewer.nd rfl rfl (sw_true rfl rfl rfl (by decide +kernel)) (pi_list (pe_slice sl_list (pv 2) po_none (po_some pe_int))) (blkOk_by (own := [("_law_table", 7)]) (N := N_law_fewer) (sc := defScope (top 37)) (by decide +kernel)) (fun _ _ _ _ _ => (pg_name (i := 7) sc_law_fewer.nd rfl (Or.inr rfl))) (fun _ _ _ _ _ => pts_nil)
        (fun _ _ _ _ _ => (pe_callTy (call_dictPK (K := K) rfl rfl) (by rfl) B.dict (by decide +kernel) (pa_cons (pe_lc (own := [("_law_sign", 6)]) (g := gName 6) (tt := tYes) (by rfl) sc_law_fewer.nd (piListK (K := K) rfl (pv 4)) (blkOk_by (own := [("_law_sign", 6)]) (N := N_law_fewer) (sc := scF2) (by decide +kernel)) (fun _ _ _ _ _ => (pg_name (i := 6) sc_law_fewer.nd rfl (Or.inl rfl))) (fun _ _ _ _ _ => pts_nil) (fun _ _ _ _ _ => (pe_tup (pa_cons (pv 6) (pa_cons (pe_dget (hu_of hr) (pv 7) (pv 6) (fun _ _ => rfl)) pa_nil))))) pa_nil))))
      (pss_cons (ps_lock (ps_setLc (i := 8) (own := [("_law_pair", 9)]) (g := gName 9) (by rfl) sc_law_fewer.nd rfl rfl (sw_true rfl rfl rfl (by decide +kernel)) (pi_keys (pe_ix ix_list (pv 2) pe_int (fun _ _ => rfl))) (blkOk_by (own := [("_law_pair", 9)]) (N := N_law_fewer) (sc := defScope (top 37)) (by decide +kernel)) (fun _ _ _ _ _ => (pg_name (i := 9) sc_law_fewer.nd rfl (Or.inl rfl)))
        (fun _ _ _ _ _ => pts_one (PW.pt (pw_and (pt_cmpR (inSeqK (K := K) rfl) (pe_ix (ixTK (K := K) rfl) (pv 9) pe_int (fun _ _ => rfl)) (pv 4) rfl) (pw_and1 (pt_cmpR (inSeqK (K := K) rfl) (pe_ix (ixTK (K := K) rfl) (pv 9) pe_int (fun _ _ => rfl)) (pv 4) rfl))))) (fun _ _ _ _ _ => (pv 9))))
      (pss_one (ps_ret (pe_lst (pa_cons (SlX.pe_methSl (E := E0) (pv 1) PD.sp.sc hL Fw (hr.mono (by decide)) pass0 (pa_cons (pe_callTy call_tuple_of (by rfl) B.tuple (by decide +kernel) (pa_cons (pv 4) pa_nil)) pa_nil)) (pa_cons (pe_op op_cat (pv 5) (pe_lst (pa_cons (pe_callTy (call_dictPT rfl hr.units) (by rfl) B.dict (by decide +kernel) (pa_cons (pe_lc (own := [("_law_pair", 9)]) (g := gName 9) (tt := tYes) (by rfl) sc_law_fewer.nd (pi_list (pv 8)) (blkOk_by (own := [("_law_pair", 9)]) (N := N_law_fewer) (sc := defScope (top 37)) (by decide +kernel)) (fun _ _ _ _ _ => (pg_name (i := 9) sc_law_fewer.nd rfl (Or.inl rfl))) (fun _ _ _ _ _ => pts_nil)
        (fun _ _ _ _ _ => (pe_tup (pa_cons (pv 9) (pa_cons (pe_dget (hu_of hr) (pe_ix (ixLK (K := K) rfl) (pv 2) pe_int (fun _ _ => rfl)) (pv 9) (fun _ _ => rfl)) pa_nil))))) pa_nil)) pa_nil))) pa_nil))))))))), ?_⟩
    have one : 1 ≤ sizeLine := by decide
    have two : 2 ≤ sizeLine := by decide
    have big : 1000 < sizeLine := by decide
    obtain ⟨RC, PS0, N⟩ := id ST
    obtain ⟨RA, RB, RS, ht, hA, hB, hS⟩ := id RC
    have l5 := N.le
    have l100 := N.sl
    -- the signs
    refine ⟨_, rfl, t, _, _, _, rfl, rfl, SqL.of ht, rfl, RA, _, zs, rfl, .inl hA, dkF_keys zs g, by omega, fun ys q1 hys _ hq1 => ?_⟩
    have e1 := same_new (o := .lst (ys.map V.str)) hq1
    have u1 : upd H q1 (.lst (ys.map V.str)) q1 = some (.lst (ys.map V.str)) := upd_same
    have ex1 : Ex p H (upd H q1 (.lst (ys.map V.str))) := (Ex.refl hp).same e1
    have nqp : q1 ≠ p := fun z => by
      obtain ⟨a, b, c, e⟩ := hp
      rw [z, e] at hq1
      cases hq1
    generalize upd H q1 (.lst (ys.map V.str)) = H1 at e1 u1 ex1 ⊢
    have lys := hys.length_eq
    have lp := N.pos
    clear e1 hq1
    refine ⟨_, rfl, _, rfl, p, _, _, rfl, ex1.pot, .inl ⟨q1, rfl, nqp, SqL.of u1⟩, by rw [List.length_map]; omega, fun vs q2 H2 hperm hq2 ex2 h2 => ?_⟩
    obtain ⟨ws, rfl, hws⟩ := perm_strsP hperm
    have lws := hws.length_eq
    have u2 := ex2.keep _ _ nqp u1
    have nq2 : q2 ≠ p := by obtain ⟨_, _, _, e⟩ := ex1.pot; exact (ne_of_none e hq2).symm
    have ex02 := ex1.trans ex2
    clear ex1 ex2 hq2 hperm u1
    obtain ⟨a0, b0, c0, hp2⟩ := ex02.pot
    have lsv : ∀ l : List Str, (l.map V.str).length = l.length := fun l => List.length_map ..
    refine ⟨_, rfl, _, rfl, q1, _, rfl, .inl (SqL.of u2), p, _, a0, b0, c0, rfl, hp2, by rw [lsv]; omega, by rw [lsv]; omega, fun r a' b' c' r0 r1 => ?_⟩
    rw [lsv] at r1
    have ex3 := ex02.trans (Ex.turn (p := p) (a := a') (b := b') (c := c'))
    have h3 : upd H2 p (potO a' b' c') q2 = some (.lst (strsV ws)) := by rw [upd_ne nq2]; exact h2
    generalize upd H2 p (potO a' b' c') = H3 at ex3 h3 ⊢
    clear ex02 h2 u2 hp2
    refine ⟨_, _, rfl, rfl, _, rfl, q2, strsV ws, rfl, SqL.of h3, fun l hl => ?_⟩
    have ex4 := ex3.new (o := .lst (cutV (strsV ws) none (some (1 + r)))) hl
    have h4 : upd H3 l (.lst (cutV (strsV ws) none (some (1 + r)))) l = some (.lst (strsV (ws.take (1 + r).toNat))) := by rw [upd_same, cut_to ws (by omega)]
    generalize upd H3 l (.lst (cutV (strsV ws) none (some (1 + r)))) = H4 at ex4 h4 ⊢
    clear ex3 h3 hl
    refine ⟨l, ws.take (1 + r).toNat, rfl, SqL.of h4, by rw [List.length_take]; omega, fun us q hup hus hq => ?_⟩
    have ex5 := ex4.new (o := .lst (strsV us)) hq
    have h5 : upd H4 q (.lst (strsV us)) q = some (.lst (strsV us)) := upd_same
    have nqp2 : q ≠ p := by obtain ⟨_, _, _, e⟩ := ex4.pot; exact (ne_of_none e hq).symm
    generalize upd H4 q (.lst (strsV us)) = H5 at ex5 h5 ⊢
    clear ex4 h4 hq
    have sub : ∀ z ∈ us, z ∈ zs := fun z hz => hys.mem_iff.mp (hws.mem_iff.mp (List.mem_of_mem_take (hup.mem_iff.mp hz)))
    have ndu : us.Nodup := hup.nodup_iff.mpr (((hws.trans hys).nodup_iff.mpr N.nd).sublist (List.take_sublist _ _))
    have lu : us.length = (1 + r).toNat := by rw [hup.length_eq, List.length_take]; omega
    have ok : SgnOk us := by
      have h1 := sorted_sL (fun z hz => N.sg z (sub z hz)) ndu hus
      exact ⟨h1, fun z hz => N.sg z (sub z hz), by omega, by omega⟩
    have RC5 := RC.ex ex5 hp
    have ht5 : H5 t = some (.lst [.ref RA, .ref RB, .ref RS]) := ex5.refs hp (bs := [RA, RB, RS]) ht
    have hA5 := ex5.dK hp hA
    have hB5 := ex5.dK hp hB
    have hS5 := ex5.dT hp hS
    have P5 := PS0.ex ex5 hp
    -- put and out
    refine ⟨_, rfl, _, rfl, t, _, rfl, SqL.of ht5, fun l hl => ⟨l, rfl, ⟨_, SqL.of upd_same⟩, fun D hD => ?_⟩⟩
    have e6 := same_new (o := .lst (cutV [.ref RA, .ref RB, .ref RS] none (some 2))) hl
    have u6 : upd H5 l (.lst (cutV [.ref RA, .ref RB, .ref RS] none (some 2))) l = some (.lst [.ref RA, .ref RB]) := upd_same
    generalize upd H5 l (.lst (cutV [.ref RA, .ref RB, .ref RS] none (some 2))) = H6 at e6 u6 hD ⊢
    refine lc_newF walk_list [.ref RA, .ref RB] rfl (by show 2 ≤ 1000; decide) (fun _ _ _ _ _ y => y) hD (fun H' e => SqL.of (e _ _ u6)) (fun _ _ => by kernel_rfl) (fun k v H' => (k = 0 → H' v = some (.dK (dkF us g))) ∧ (k = 1 → H' v = some (.dK (dkF us o))) ∧ ∃ u, H' v = some u)
      (fun k v _ _ up n r => ⟨fun e => up _ _ n (r.1 e), fun e => up _ _ n (r.2.1 e), r.2.2.elim fun u h => ⟨u, up _ _ n h⟩⟩) (fun _ _ _ r => r.2.2) (fun i y hy H7 e7 _ Q' q' => ?_) (fun H7 qs' e7 u7 nq nD lq r7 => ?_)
    · have e67 := e6.trans e7
      match i, hy with
      | 0, hy =>
        cases hy
        refine ⟨_, rfl, q, rfl, ⟨_, SqL.of (e67 _ _ h5)⟩, fun D2 hD2 => ?_⟩
        refine lc_tabK (SqL.of (e67 _ _ h5)) (by omega) g hD2 (fun _ _ => by kernel_rfl) (fun z hz H8 e8 Q q => ⟨_, rfl, _, rfl, _, rfl, RA, .int (g z), rfl, .inl ⟨_, .inr z, .inl (e8 _ _ (e67 _ _ hA5)), rfl, (dkF_val N.nd g (sub z hz)).symm⟩, two, fun T hT => q T hT⟩) (fun H8 ts e8 u8 pr => ⟨D2, ts, _, rfl, SqL.of u8, pr, fun v hv => ?_⟩)
        rw [show mergeK [] (dkF us g) = dkF us g from mergeK_nodup (more := dkF us g) [] (dkF_nodup ndu g)]
        exact q' v _ (e8.free hv) (e8.trans (same_new hv)) ⟨fun _ => upd_same, fun e => absurd e (by decide), _, upd_same⟩
      | 1, hy =>
        cases hy
        refine ⟨_, rfl, q, rfl, ⟨_, SqL.of (e67 _ _ h5)⟩, fun D2 hD2 => ?_⟩
        refine lc_tabK (SqL.of (e67 _ _ h5)) (by omega) o hD2 (fun _ _ => by kernel_rfl) (fun z hz H8 e8 Q q => ⟨_, rfl, _, rfl, _, rfl, RB, .int (o z), rfl, .inl ⟨_, .inr z, .inl (e8 _ _ (e67 _ _ hB5)), rfl, (dkF_val (N.pm.nodup_iff.mpr N.nd) o (N.pm.mem_iff.mpr (sub z hz))).symm⟩, two, fun T hT => q T hT⟩) (fun H8 ts e8 u8 pr => ⟨D2, ts, _, rfl, SqL.of u8, pr, fun v hv => ?_⟩)
        rw [show mergeK [] (dkF us o) = dkF us o from mergeK_nodup (more := dkF us o) [] (dkF_nodup ndu o)]
        exact q' v _ (e8.free hv) (e8.trans (same_new hv)) ⟨fun e => absurd e (by decide), fun _ => upd_same, _, upd_same⟩
      | i + 2, hy => cases hy
    · match qs', lq with
      | [q0, q3], _ =>
      have h0 := (r7 0 q0 rfl).1 rfl
      have h1 := (r7 1 q3 rfl).2.1 rfl
      have e57 : Same H5 H7 := e6.trans e7
      have u7' : H7 D = some (.lst [.ref q0, .ref q3]) := u7
      have hS7 := e57 _ _ hS5
      have ht7 := e57 _ _ ht5
      have h57 := e57 _ _ h5
      clear r7 u7 e6 e7 u6 hl hD nq nD lq
      -- pairs
      have tS : t ≠ RS := fun z => by rw [z, hS7] at ht7; cases ht7
      have qS : q ≠ RS := fun z => by rw [z, hS7] at h57; cases h57
      refine ⟨RS, _, hS7, trivial, fun od => ?_⟩
      have ht8 : upd H7 RS (.frz od (.dT (dtF ps))) t = some (.lst [.ref RA, .ref RB, .ref RS]) := by rw [upd_ne tS]; exact ht7
      have h58 : upd H7 RS (.frz od (.dT (dtF ps))) q = some (.lst (strsV us)) := by rw [upd_ne qS]; exact h57
      refine ⟨_, rfl, t, _, _, .ref RS, rfl, rfl, SqL.of ht8, rfl, RS, od, rfl, .inr ⟨_, upd_same, fun D3 hD3 => ?_⟩⟩
      have nD3 : D3 ≠ RS := fun z => by rw [z, upd_same] at hD3; cases hD3
      refine lc_it walk_keysT (fun i H' => Same (upd H7 RS (.frz od (.dT (dtF ps)))) H' ∧ ∃ F, H' D3 = some (.lst (refF F)) ∧ TupF H' F ∧ F.map Prod.fst = (withinP us (ps.take i)).map Prod.fst) ⟨same_new hD3, [], upd_same, fun _ h => (nomatch h), by rw [List.take_zero]; rfl⟩ (fun i H' _ e => e.1 _ _ upd_same) (fun i y Ha Hb hi e hy => ?_) (fun H8 e => ⟨e.1 _ _ upd_same, ?_⟩)
      · obtain ⟨rfl, k, v, b, hk, rfl, hb⟩ := hy
        obtain ⟨ea, F, hF, TF, kF⟩ := e
        unfold dtF at hk
        rw [List.getElem?_map] at hk
        obtain ⟨⟨⟨a, b2⟩, n⟩, hpi, ek⟩ := Option.map_eq_some_iff.mp hk
        cases ek
        have hb' : Hb b = some (.tup [.str a, .str b2]) := hb
        have hq8 := ea _ _ h58
        have tk1 : withinP us (ps.take (i + 1)) = withinP us (ps.take i) ++ (if (decide (a ∈ us) && decide (b2 ∈ us)) = true then [((a, b2), n)] else []) := by
          unfold withinP
          rw [List.take_add_one, hpi, List.filter_append]
          congr 1
          show List.filter _ [((a, b2), n)] = _
          simp only [List.filter_cons, List.filter_nil]
        have i1 : inV (.str a) (us.map V.str) = decide (a ∈ us) := inV_sgns a us
        have i2 : inV (.str b2) (us.map V.str) = decide (b2 ∈ us) := inV_sgns b2 us
        refine ⟨rfl, _, rfl, b, _, _, .str a, rfl, rfl, .inl (.inl hb'), rfl, _, rfl, q, _, rfl, .inl (SqL.of hq8), rfl, flat_sgns us, _, rfl, ?_⟩
        simp only [Bool.false_eq_true, if_false]
        rw [i1]
        by_cases ca : a ∈ us
        · refine iteDT ca ⟨_, rfl, b, _, _, .str b2, rfl, rfl, .inl (.inl hb'), rfl, _, rfl, q, _, rfl, .inl (SqL.of hq8), rfl, flat_sgns us, _, rfl, ?_⟩
          simp only [Bool.false_eq_true, if_false]
          rw [i2]
          by_cases cb : b2 ∈ us
          · refine iteDT cb ?_
            refine ⟨_, rfl, _, hF, ?_, fun c u z => ?_, F ++ [((a, b2), b)], by rw [upd_same, refF_snoc], fun e he => ?_, ?_⟩
            · have h1 : F.length = (withinP us (ps.take i)).length := by rw [← List.length_map (f := Prod.fst) (as := F), kF, List.length_map]
              have h2 : (withinP us (ps.take i)).length ≤ ps.length := Nat.le_trans (List.length_filter_le ..) (by rw [List.length_take]; omega)
              rw [List.length_map]
              omega
            · rw [upd_ne (ne_of_none z hD3)]; exact ea _ _ z
            · rcases List.mem_append.mp he with he | he
              · exact TK.put hF _ _ (TF e he)
              · rw [List.mem_singleton.mp he]
                exact TK.put hF _ _ hb'
            · rw [List.map_append, kF, tk1, decide_eq_true ca, decide_eq_true cb, if_pos (by decide : (true && true) = true), List.map_append]
              rfl
          · refine iteDF cb ⟨ea, F, hF, TF, ?_⟩
            rw [kF, tk1, decide_eq_false cb, Bool.and_false, if_neg (by decide), List.append_nil]
        · refine iteDF ca ⟨ea, F, hF, TF, ?_⟩
          rw [kF, tk1, decide_eq_false ca, Bool.false_and, if_neg (by decide), List.append_nil]
      obtain ⟨ea, F, hF, TF, kF⟩ := e
      have ll : (dtF ps).length = ps.length := by simp [dtF]
      rw [ll, List.take_length] at kF
      have e78 : Same H7 (upd H8 RS (.dT (dtF ps))) := fun c u z => by
        by_cases zz : c = RS
        · rw [zz, upd_same]; rw [zz, hS7] at z; exact z
        · rw [upd_ne zz]; exact ea _ _ (by rw [upd_ne zz]; exact z)
      have hF8 : upd H8 RS (.dT (dtF ps)) D3 = some (.lst (refF F)) := by rw [upd_ne nD3]; exact hF
      have TF8 : TupF (upd H8 RS (.dT (dtF ps))) F := fun e he => by
        have z := TF e he
        rw [upd_ne (fun y => by rw [y, ea _ _ upd_same] at z; cases z)]
        exact z
      generalize upd H8 RS (.dT (dtF ps)) = H9 at e78 hF8 TF8 ⊢
      clear ea hF TF hD3 ht8 h58
      have e59 := e57.trans e78
      have P9 := P5.same e59
      obtain ⟨dx, ws', sl⟩ := P9.slt
      refine ⟨_, rfl, x, dx, ws', rfl, sl, _, rfl, q, _, rfl, .inl ⟨SqL.of (e78 _ _ h57), fun T hT => ?_⟩⟩
      have e10 := same_new (o := .tup (strsV us)) hT
      have u10 : upd H9 T (.tup (strsV us)) T = some (.tup (strsV us)) := upd_same
      generalize upd H9 T (.tup (strsV us)) = H10 at e10 u10 ⊢
      refine ⟨x, T, zs, us, g, o, ps, rfl, P9.same e10, .inl (.inl u10), ok, sub, fun y H11 e11 P11 => ?_⟩
      have e911 := e10.trans e11
      have hD11 := e911 _ _ (e78 _ _ u7')
      have hF11 := e911 _ _ hF8
      have TF11 := TF8.same e911
      have ht11 := e911 _ _ (e78 _ _ ht7)
      have hS11 := e911 _ _ (e78 _ _ hS7)
      have lF : F.length ≤ 100 := by
        have h1 : F.length = (withinP us ps).length := by rw [← List.length_map (f := Prod.fst) (as := F), kF, List.length_map]
        have h2 : (withinP us ps).length ≤ ps.length := List.length_filter_le ..
        omega
      refine ⟨_, rfl, _, rfl, D3, rfl, ⟨_, SqL.of hF11⟩, fun D4 hD4 => ?_⟩
      refine lc_it walk_list (fun i H' => Same H11 H' ∧ ∃ ts : List Addr, H' D4 = some (.lst (ts.map V.ref)) ∧ ts.length = i ∧ PairsT H' ts (dtF ((withinP us ps).take i))) ⟨same_new hD4, [], upd_same, rfl, by rw [List.take_zero]; exact .nil⟩ (fun i H' _ e => SqL.of (e.1 _ _ hF11)) (fun i y Ha Hb hi e hy => ?_) (fun H12 e => ?_)
      · obtain ⟨rfl, hy⟩ := hy
        obtain ⟨ea, ts, hD', lt, PT⟩ := e
        rw [List.getElem?_map] at hy
        obtain ⟨e, he, rfl⟩ := Option.map_eq_some_iff.mp hy
        obtain ⟨f, hf, hfe⟩ : ∃ f, (withinP us ps)[i]? = some f ∧ f.1 = e.1 := by
          have h1 : (F.map Prod.fst)[i]? = some e.1 := by rw [List.getElem?_map, he]; rfl
          rw [kF, List.getElem?_map] at h1
          obtain ⟨f, h2, h3⟩ := Option.map_eq_some_iff.mp h1
          exact ⟨f, h2, h3⟩
        have hfm : f ∈ ps := (List.mem_filter.mp (List.mem_of_getElem? hf)).1
        have te := TF11 e (List.mem_of_getElem? he)
        refine ⟨rfl, yes_q (iteT ⟨_, rfl, _, rfl, t, _, _, .ref RS, rfl, rfl, SqL.of (ea _ _ ht11), rfl, _, rfl, RS, .int f.2, rfl, .inr ⟨_, [.inr e.1.1, .inr e.1.2], e.2, .inl (ea _ _ hS11), rfl, ea _ _ te, (dtF_val N.sn (by rw [show (e.1.1, e.1.2) = f.1 from hfe.symm]; exact hfm)).symm⟩, two, fun T2 hT2 => ⟨ts.map V.ref, ?_, ?_, fun c u z => ?_, ts ++ [T2], by rw [upd_same, List.map_append]; rfl, by rw [List.length_append, lt]; rfl, ?_⟩⟩)⟩
        · rw [upd_ne (ne_of_none hD' hT2)]; exact hD'
        · have : i < (refF F).length := hi
          rw [List.length_map] at this ⊢
          omega
        · rw [upd_ne (ne_of_none z hD4), upd_ne (ne_of_none (ea _ _ z) hT2)]
          exact ea _ _ z
        · have t2 : TK Hb (upd Hb T2 (.tup [.ref e.2, .int f.2])) := fun b xs z => same_new hT2 _ _ z
          have hD'' : upd Hb T2 (.tup [.ref e.2, .int f.2]) D4 = some (.lst (ts.map V.ref)) := by rw [upd_ne (ne_of_none hD' hT2)]; exact hD'
          have t3 := TK.put (ys := ts.map V.ref ++ [V.ref T2]) hD''
          have := (PT.tk (t2.trans t3)).snoc (k := [.inr e.1.1, .inr e.1.2]) (t3 _ _ upd_same) ((t2.trans t3) _ _ (ea _ _ te))
          rw [List.take_add_one, hf]
          unfold dtF at this ⊢
          rw [List.map_append]
          rw [← hfe] at this
          exact this
      obtain ⟨ea, ts, hD', lt, PT⟩ := e
      have lFw : (refF F).length = (withinP us ps).length := by rw [List.length_map, ← List.length_map (f := Prod.fst) (as := F), kF, List.length_map]
      rw [lFw, List.take_length] at PT
      have NW := N.within sub ndu ok.pos
      refine ⟨D4, ts, _, rfl, hD', PT, dtF_nodup NW.sn, fun S hS' => ⟨one, fun l2 hl2 => ?_⟩⟩
      have s12 := ea.trans (same_new (o := .dT (dtF (withinP us ps))) hS')
      have vS : upd H12 S (.dT (dtF (withinP us ps))) S = some (.dT (dtF (withinP us ps))) := upd_same
      generalize upd H12 S (.dT (dtF (withinP us ps))) = H13 at s12 vS hl2 ⊢
      have s13 := s12.trans (same_new (o := .lst [.ref S]) hl2)
      have vl : upd H13 l2 (.lst [.ref S]) l2 = some (.lst [.ref S]) := upd_same
      have vS2 := same_new (o := .lst [.ref S]) hl2 _ _ vS
      generalize upd H13 l2 (.lst [.ref S]) = H14 at s13 vl vS2 ⊢
      refine ⟨D, l2, _, _, rfl, rfl, s13 _ _ hD11, vl, by show 2 + 1 ≤ sizeLine; decide, fun t' ht' => ?_⟩
      have s15 := same_new (o := .lst ([.ref q0, .ref q3] ++ [.ref S])) ht'
      have vt : upd H14 t' (.lst ([.ref q0, .ref q3] ++ [.ref S])) t' = some (.lst [.ref q0, .ref q3, .ref S]) := upd_same
      generalize upd H14 t' (.lst ([.ref q0, .ref q3] ++ [.ref S])) = H15 at s15 vt ⊢
      refine ⟨two, fun d hd => ?_⟩
      have s16 := same_new (o := .lst [.ref y, .ref t']) hd
      have f1 := ((e78.trans e911).trans s13).trans (s15.trans s16)
      exact hQ d y t' us us g o (withinP us ps) _ ((ex5.same e57).same f1) upd_same ⟨⟨q0, q3, S, s16 _ _ vt, f1 _ _ h0, f1 _ _ h1, s16 _ _ (s15 _ _ vS2)⟩, P11.same (s13.trans (s15.trans s16)), NW⟩
end
end MN
/-! _law_times -/
namespace MN
open PySem PySem.Spec PyProof.Rows L2
theorem PE.imp2 {X : Cx} {e : Expr} {t t' : TE} (h : PE X e t) (i : ∀ σ H Q, t' σ H Q → t σ H Q) : PE X e t' := ⟨fun pins s σ H Q I q => h.run pins s σ H Q I (i _ _ _ q)⟩
section
variable {X : Cx} {CX : CXT} {k : Nat} {g C : Addr} {fd : FuncData} {ps : List Str} {sp : Sp} {E : L2.St → XK} {m : Str} {pos apos : Pos} {e o : Expr} {es : List Expr} {ta : TE} {t : TA} {pl : Sem Bool}
/-- o.m(e, ..) that may raise, o with slots -/
theorem pe_methSlS (he : PE X o ta) (c : SlX.SCls X.K C) (hm : Meth X.K C m g) (F : FnOk X.prog X.w X.K X.mg X.base CX k g fd ps sp) (hb : Binds X.K fd ps []) (hr : Room k X.A) (hx : ∀ σ, PassesAt CX X σ (E σ)) (ha : PA X (e :: es) t)
    (hst : starEach (e :: es) X.env = (false, eval e X.env) :: starEach es X.env := by rfl) (hpl : (backTo pos (starEach es X.env)).any (·.1) = false := by rfl)
    (ht : eval (.Call (.Attribute o m apos) (e :: es) [] pos) X.env = (do
      let ov ← eval o X.env
      standAt apos.atName
      let (f, first) ← holding [ov] (getMethod ov m pl)
      callWith pos f first (backTo pos (starEach (e :: es) X.env)) (backToKw pos (keywordEach [] X.env))) := by rfl) :
    PE X (.Call (.Attribute o m apos) (e :: es) [] pos) (fun σ H Q => ta σ H fun x H1 => ∃ a dx vs, x = .ref a ∧ SlX.Slt H1 a C dx vs ∧ t σ H1 fun ws H2 => sp (x :: ws) H2 Q (E σ)) := by
  refine ⟨fun pins s σ H Q I h => ?_⟩
  refine PySem.W.methodCall_KW (pl := pl) (thn (he.run pins s σ H _ I h) fun u s1 ⟨x, H1, I1, rx, a, dx, vs, ex, hsl, q⟩ => ?_) ht
  subst ex
  obtain rfl : u = Value.ref a := rx
  refine SlX.getmethsl_ok I1 hsl c hm ?_
  refine PySem.W.callWith_K (first := [.ref a]) (h₀ := X.base) I.ok.mod.kin hm.kp (thn (ha.run pos pins s1 σ H1 _ I1 q) fun us s2 ⟨ws, H2, I2, r, q2⟩ => ⟨I2.kIn, ?_⟩) hst hpl
  exact run_fnS (us := .ref a :: us) (vs := .ref a :: ws) F hr hb (hx σ) I2 (.cons rfl r) q2
end
/-- whether three greatest prices are let -/
def tLet (i : Nat) : TE := fun σ H Q => ∃ gr m0 m1 m2, σ[i]? = some (some (.ref gr)) ∧ H gr = some (.lst [.int m0, .int m1, .int m2]) ∧ Q (.bl (decide (m0 ≤ 9) && (decide (m1 ≤ 9) && decide (m2 ≤ 18)))) H
theorem imp_let {K : PySem.W.Frag} (i : Nat) (σ : L2.St) (H : Hp) (Q : VK) (h : tLet i σ H Q) : tAndV (tOp (rI0 fun i j => .bl (decide (i ≤ j))) (tOp (rIxL K) (tVar i) (tC (.int 0))) (tC (.int 9))) (tAndV (tOp (rI0 fun i j => .bl (decide (i ≤ j))) (tOp (rIxL K) (tVar i) (tC (.int 1))) (tC (.int 9))) (tOp (rI0 fun i j => .bl (decide (i ≤ j))) (tOp (rIxL K) (tVar i) (tC (.int 2))) (tC (.int 18)))) σ H Q := by
  obtain ⟨gr, m0, m1, m2, hi, hg, q⟩ := h
  refine ⟨_, hi, gr, _, _, .int m0, rfl, rfl, SqL.of hg, rfl, _, _, rfl, rfl, _, rfl, ?_⟩
  by_cases h0 : m0 ≤ 9
  · refine iteDT h0 ⟨_, hi, gr, _, _, .int m1, rfl, rfl, SqL.of hg, rfl, _, _, rfl, rfl, _, rfl, ?_⟩
    by_cases h1 : m1 ≤ 9
    · refine iteDT h1 ⟨_, hi, gr, _, _, .int m2, rfl, rfl, SqL.of hg, rfl, _, _, rfl, rfl, ?_⟩
      rw [decide_eq_true h0, decide_eq_true h1] at q
      exact q
    · refine iteDF h1 ?_
      rw [decide_eq_true h0, decide_eq_false h1] at q
      exact q
  · refine iteDF h0 ?_
    rw [decide_eq_false h0] at q
    exact q
/-- the greatest of some numbers and 0 -/
def MaxOf (m : Int) (l : List Int) : Prop := m ∈ (0 : Int) :: l ∧ ∀ y ∈ (0 : Int) :: l, y ≤ m
theorem MaxOf.le {m : Int} {l : List Int} (h : MaxOf m l) {b : Int} (hb : 0 ≤ b) : decide (m ≤ b) = l.all fun n => decide (n ≤ b) := by
  by_cases q : m ≤ b
  · rw [decide_eq_true q]
    exact (List.all_eq_true.mpr fun n hn => decide_eq_true (Int.le_trans (h.2 n (List.mem_cons_of_mem _ hn)) q)).symm
  · rw [decide_eq_false q]
    refine (List.all_eq_false.mpr ⟨m, ?_, by simpa using q⟩).symm
    rcases List.mem_cons.mp h.1 with e | e
    · omega
    · exact e
theorem fits_max {zs zs2 : List Str} {g o : Str → Int} {ps : List SP2} {m0 m1 m2 : Int} (h0 : MaxOf m0 (zs.map g)) (h1 : MaxOf m1 (zs2.map o)) (h2 : MaxOf m2 (ps.map Prod.snd)) : (decide (m0 ≤ 9) && (decide (m1 ≤ 9) && decide (m2 ≤ 18))) = fitsP zs zs2 g o ps := by
  rw [h0.le (by decide), h1.le (by decide), h2.le (by decide)]
  unfold fitsP
  rw [List.all_append, ← Bool.and_assoc]
  congr 1
  rw [List.all_map]
  rfl
section
variable {P : Program} {w : World} {K : PySem.W.Frag} {mg : Str → Option Value} {base : Heap} {Cp IO : Addr}
def spTimL (Cp : Addr) : Sp := fun vs H Q _ => ∃ p x t zs zs2 g o ps, vs = [.ref p, .ref x, .ref t] ∧ Pot H p ∧ StK Cp H x t zs zs2 g o ps ∧ (∀ H', Ex p H H' → Q .non H') ∧
  ∀ d x' t' zs' zs2' g' o' ps' H', Ex p H H' → H' d = some (.lst [.ref x', .ref t']) → StK Cp H' x' t' zs' zs2' g' o' ps' → Q (.ref d) H'
abbrev N_law_times : List Str := ["_law_pot", "_law_prices", "_law_tables_here", "_law_many", "_law_found", "_law_greatest", "_law_table", "_law_key", "_law_is_let", "_law_other"]
theorem sc_law_times : FnScope N_law_times ["_law_pot", "_law_prices", "_law_tables_here"] (defScope (top 38)) := ⟨rfl, rfl, rfl, by decide +kernel, rfl, by decide +kernel, by decide +kernel⟩
theorem c_law_times (A : At K mg "_law_times" (top 38)) (B : Blt mg) (PD : PrD K mg Cp) (ER : ErrC K mg IO) (GL : GlP mg) (c_are_prices3 : Cal P w K mg base 3 "are_prices" spAreP3) (c_are_prices2 : Cal P w K mg base 3 "are_prices" spAreP2) (c_require_number : Cal P w K mg base 2 "require_number" spReqNumber)
    (c_law_choose : Cal P w K mg base 2 "_law_choose" (spChoose K)) : Cal P w K mg base 7 "_law_times" (spTimL Cp) := by
  obtain ⟨gt, ft, hT, Fh⟩ := PD.tim
  have bT := FunD.bindsN (ps := ["self", "many"]) Fh fun _ _ _ _ _ _ us hl => match us, hl with | [_, _], _ => rfl
  have Ft := f_ptim (P := P) (w := w) (base := base) PD ER Fh B GL.G c_are_prices3 c_are_prices2 c_require_number
  refine cal_of A sc_law_times (fun _ _ _ _ _ _ us hl => match us, hl with | [_, _, _], _ => rfl) (fun vs H Q E h => ?_) (fun _ cdv A outer s H vs Q E hr h => ?_)
  · obtain ⟨_, _, _, _, _, _, _, _, rfl, _⟩ := h; rfl
  · obtain ⟨p, x, t, zs, zs2, g, o, ps, rfl, hp, ST, hN, hQ⟩ := h
    refine ⟨_, (pss_cons (ps_asg (pe_tup (pa_cons (pe_c c_law_choose hr (by decide) (by rfl) (pa_cons (pv 0) (pa_cons (pe_lst (pa_cons pe_int (pa_cons pe_int (pa_cons pe_int (pa_cons pe_int (pa_cons pe_int (pa_cons (pe_op op_powB pe_int pe_int) pa_nil))))))) pa_nil))) (pa_cons (pe_lst pa_nil) (pa_cons (pe_lst pa_nil) pa_nil)))) (pg_tup rfl (pgs_cons (pg_name (i := 3) sc_law_times.nd rfl (Or.inr rfl)) (pgs_cons (pg_name (i := 4) sc_law_times.nd rfl (Or.inl rfl)) (pgs_cons (pg_name (i := 5) sc_law_times.nd rfl (Or.inl rfl)) pgs_nil)))))
      (pss_cons (ps_for PassesOwn.never rfl (pi_list (pv 2)) (pg_name (i := 6) sc_law_times.nd rfl (Or.inr rfl))
        (pss_cons (ps_expr (pe_bm PySem.F.plainAttrs_list PySem.F.slot_list_append PySem.F.type_list_append mt_append (pv 4) (pa_cons (pe_or2 (pe_callTy (call_dictP rfl) (by rfl) B.dict (by decide +kernel) (pa_cons (pe_lock (pe_lc (own := [("_law_key", 7)]) (g := gName 7) (tt := tYes) (by rfl) sc_law_times.nd (pi_keys (pv 6)) (blkOk_by (own := [("_law_key", 7)]) (N := N_law_times) (sc := defScope (top 38)) (by decide +kernel)) (fun _ _ _ _ _ => (pg_name (i := 7) sc_law_times.nd rfl (Or.inl rfl))) (fun _ _ _ _ _ => pts_nil) (fun _ _ _ _ _ => pe_tup (pa_cons (pv 7) (pa_cons (pe_op op_mul (pe_dget (hu_of hr) (pv 6) (pv 7) (fun _ _ => rfl)) (pv 3)) pa_nil))))) pa_nil)) (pe_callTy (call_dictPT rfl hr.units) (by rfl) B.dict (by decide +kernel) (pa_cons (pe_lock (pe_lc (own := [("_law_key", 7)]) (g := gName 7) (tt := tYes) (by rfl) sc_law_times.nd (pi_keys (pv 6)) (blkOk_by (own := [("_law_key", 7)]) (N := N_law_times) (sc := defScope (top 38)) (by decide +kernel)) (fun _ _ _ _ _ => (pg_name (i := 7) sc_law_times.nd rfl (Or.inl rfl))) (fun _ _ _ _ _ => pts_nil) (fun _ _ _ _ _ => pe_tup (pa_cons (pv 7) (pa_cons (pe_op op_mul (pe_dget (hu_of hr) (pv 6) (pv 7) (fun _ _ => rfl)) (pv 3)) pa_nil))))) pa_nil))) pa_nil)))
        (pss_one (ps_expr (pe_bm PySem.F.plainAttrs_list PySem.F.slot_list_append PySem.F.type_list_append mt_append (pv 5) (pa_cons (pe_callB (cr_max rfl) (by rfl) B.max (by decide +kernel) (pa_cons (pe_op op_cat (pe_lst (pa_cons pe_int pa_nil)) (pe_or2 (pe_listVals rfl (pe_ix ix_list (pv 4) (pe_un un_neg pe_int) (fun _ _ => rfl)) (by rfl) B.list) (pe_listValsT rfl (pe_ix ix_list (pv 4) (pe_un un_neg pe_int) (fun _ _ => rfl)) (by rfl) B.list))) pa_nil)) pa_nil))))))
      (pss_cons (ps_set (i := 8) sc_law_times.nd rfl (Or.inl rfl) (PE.imp2 (pe_and (pe_cmpR op_le (pe_ix ix_list (pv 5) pe_int (fun _ _ => rfl)) pe_int (nomark _)) (pe_and (pe_cmpR op_le (pe_ix ix_list (pv 5) pe_int (fun _ _ => rfl)) pe_int (nomark _)) (pe_one (pe_cmpR op_le (pe_ix ix_list (pv 5) pe_int (fun _ _ => rfl)) pe_int (nomark _))))) (imp_let 5)))
      (pss_cons (ps_try_only rfl rfl ⟨rfl, by decide, .inl ER.g⟩ takes0 (fun W pn xe tk _ => pss_one (ps_set (i := 9) sc_law_times.nd rfl (Or.inl rfl) (pe_methSlS (pv 1) PD.sp.sc hT Ft bT (hr.mono (by decide)) (fun σ => passAt tk σ) (pa_cons (pv 3) pa_nil)))) (fun a oe cls d pn _ _ => pss_one (ps_ret (pe_ifExp (pt_not (pt_val (pv 8))) pe_non pe_no))))
      (pss_one (ps_ret (pe_ifExp (pt_val (pv 8)) (pe_lst (pa_cons (pv 9) (pa_cons (pv 4) pa_nil))) pe_no))))))), ?_⟩
    have one : 1 ≤ sizeLine := by decide
    have two : 2 ≤ sizeLine := by decide
    have three : 3 ≤ sizeLine := by decide
    have big1 : 1000 < sizeLine := by decide
    obtain ⟨RC, PS0, N⟩ := id ST
    obtain ⟨RA, RB, RS, ht, hA, hB, hS⟩ := id RC
    have l5 := N.le
    have l52 := N.pm.length_eq
    have l100 := N.sl
    -- how many times
    refine ⟨_, rfl, _, _, rfl, rfl, ⟨by decide, by decide +kernel⟩, (by show 6 ≤ sizeLine; decide), fun q0 hq0 => ?_⟩
    have ex0 : Ex p H (upd H q0 (.lst [.int 1, .int 2, .int 2, .int 3, .int 9, .int (10 ^ (59 : Int).toNat)])) := (Ex.refl hp).new hq0
    have nq0 : q0 ≠ p := by obtain ⟨_, _, _, e⟩ := hp; exact (ne_of_none e hq0).symm
    refine ⟨p, .ref q0, rfl, ex0.pot, .inr ⟨q0, [.int 1, .int 2, .int 2, .int 3, .int 9, .int (10 ^ (59 : Int).toNat)], rfl, nq0, SqL.of upd_same, (show 0 < 6 by decide), (show 6 < 100000 by decide), fun v a' b' c' hv => ?_⟩⟩
    obtain ⟨m, rfl, m1, mb⟩ : ∃ m : Int, v = .int m ∧ 1 ≤ m ∧ m < big := by
      rcases List.mem_cons.mp hv with rfl | hv
      · exact ⟨1, rfl, by decide, by decide +kernel⟩
      rcases List.mem_cons.mp hv with rfl | hv
      · exact ⟨2, rfl, by decide, by decide +kernel⟩
      rcases List.mem_cons.mp hv with rfl | hv
      · exact ⟨2, rfl, by decide, by decide +kernel⟩
      rcases List.mem_cons.mp hv with rfl | hv
      · exact ⟨3, rfl, by decide, by decide +kernel⟩
      rcases List.mem_cons.mp hv with rfl | hv
      · exact ⟨9, rfl, by decide, by decide +kernel⟩
      rcases List.mem_cons.mp hv with rfl | hv
      · exact ⟨_, rfl, by decide +kernel, by decide +kernel⟩
      cases hv
    have ex1 := ex0.trans (Ex.turn (p := p) (a := a') (b := b') (c := c'))
    generalize upd (upd H q0 (.lst [.int 1, .int 2, .int 2, .int 3, .int 9, .int (10 ^ (59 : Int).toNat)])) p (potO a' b' c') = H1 at ex1 ⊢
    clear ex0 hv hq0 nq0
    refine ⟨Nat.zero_le _, fun fd hfd => ⟨Nat.zero_le _, fun gr hgr => ⟨three, fun T hT => ⟨T, _, rfl, .inl (.inl upd_same), rfl, _, _, rfl, _, _, rfl, _, _, rfl, rfl, ?_⟩⟩⟩⟩
    have fFd : H fd = none := ex1.free hp hfd
    have s1 := same_new (o := .lst []) hfd
    have fGr : H gr = none := (ex1.same s1).free hp hgr
    have nFp : fd ≠ p := by obtain ⟨_, _, _, e⟩ := hp; exact (ne_of_none e fFd).symm
    have nGp : gr ≠ p := by obtain ⟨_, _, _, e⟩ := hp; exact (ne_of_none e fGr).symm
    have ngf : gr ≠ fd := fun z => by rw [z, upd_same] at hgr; cases hgr
    have u1 : upd H1 fd (.lst []) fd = some (.lst []) := upd_same
    have s2 := s1.trans (same_new (o := .lst []) hgr)
    have u2 := same_new (o := .lst []) hgr _ _ u1
    have v2 : upd (upd H1 fd (.lst [])) gr (.lst []) gr = some (.lst []) := upd_same
    have s3 := s2.trans (same_new (o := .tup [.int m, .ref fd, .ref gr]) hT)
    have u3 := same_new (o := .tup [.int m, .ref fd, .ref gr]) hT _ _ u2
    have v3 := same_new (o := .tup [.int m, .ref fd, .ref gr]) hT _ _ v2
    generalize upd (upd (upd H1 fd (.lst [])) gr (.lst [])) T (.tup [.int m, .ref fd, .ref gr]) = H2 at s3 u3 v3 ⊢
    have ex2 := ex1.same s3
    clear ex1 s1 s2 u1 u2 v2 hT hfd hgr s3
    refine ⟨_, rfl, t, rfl, ⟨_, SqL.of (ex2.refs hp (bs := [RA, RB, RS]) ht)⟩, for_it walk_list (fun i σ H' => (∃ o6, σ = [some (.ref p), some (.ref x), some (.ref t), some (.int m), some (.ref fd), some (.ref gr), o6, none, none, none]) ∧ Ex p H H' ∧ ∃ q0 q1 q2 m0 m1 m2, H' fd = some (.lst ([V.ref q0, .ref q1, .ref q2].take i)) ∧ H' gr = some (.lst ([V.int m0, .int m1, .int m2].take i)) ∧
      (0 < i → H' q0 = some (.dK (dkF zs fun z => g z * m)) ∧ MaxOf m0 (zs.map fun z => g z * m)) ∧ (1 < i → H' q1 = some (.dK (dkF zs2 fun z => o z * m)) ∧ MaxOf m1 (zs2.map fun z => o z * m)) ∧ (2 < i → H' q2 = some (.dT (dtF (timeP m ps))) ∧ MaxOf m2 ((timeP m ps).map Prod.snd)))
      ⟨⟨_, rfl⟩, ex2, 0, 0, 0, 0, 0, 0, u3, v3, fun z => absurd z (by decide), fun z => absurd z (by decide), fun z => absurd z (by decide)⟩ (fun i σ H' _ e => SqL.of (e.2.1.refs hp (bs := [RA, RB, RS]) ht)) (fun i y σ Ha Hb hi e hy => ?_) (fun σ H3 e => ?_)⟩
    · obtain ⟨rfl, hy⟩ := hy
      clear ex2 u3 v3
      match i, hi, hy with
      | 0, _, hy =>
        cases hy
        obtain ⟨⟨o6, rfl⟩, exa, q0, q1, q2, m0, m1', m2, hF0, hG0, k0, k1, k2⟩ := e
        have hF : Hb fd = some (.lst []) := hF0
        have hG : Hb gr = some (.lst []) := hG0
        clear hF0 hG0
        have hX : Hb RA = some (.dK (dkF zs g)) := exa.dK hp hA
        refine ⟨_, rfl, .inl ⟨rfl, _, SqL.of hF⟩, .inl ⟨RA, _, hX, trivial, fun od => ⟨_, rfl, RA, od, rfl, .inl ⟨_, upd_same, fun D hD => ?_⟩⟩⟩⟩
        have nD : D ≠ RA := fun z => by rw [z, upd_same] at hD; cases hD
        refine lc_newF walk_keys (strsV zs) (by simp [strsV, dkF]) (by simp only [dkF, List.length_map]; omega) (fun i H x H' hi y => ?_) hD (fun H' e => e _ _ upd_same) (fun _ _ => by kernel_rfl) (fun k v H' => ∃ z, zs[k]? = some z ∧ H' v = some (.tup [.str z, .int (g z * m)])) (fun k v _ _ up n r => r.imp fun z h => ⟨h.1, up _ _ n h.2⟩) (fun _ _ _ r => r.elim fun z h => ⟨_, h.2⟩) (fun i y hy H2 e2 _ Q' q' => ?_) (fun H2 qs e2 u2 nq nDq lq r2 => ⟨e2 _ _ upd_same, ?_⟩)
        · obtain ⟨rfl, k, v, hk, rfl⟩ := y
          unfold dkF at hk
          rw [List.getElem?_map] at hk
          obtain ⟨z, hz, ek⟩ := Option.map_eq_some_iff.mp hk
          cases ek
          exact ⟨rfl, by show (zs.map V.str)[i]? = _; rw [List.getElem?_map, hz]; rfl⟩
        · have hy' : (zs.map V.str)[i]? = some y := hy
          rw [List.getElem?_map] at hy'
          obtain ⟨z, hz, rfl⟩ := Option.map_eq_some_iff.mp hy'
          have mz := List.mem_of_getElem? hz
          have bnd := N.pg z mz
          exact ⟨_, rfl, _, rfl, _, rfl, RA, .int (g z), rfl, .inl ⟨_, .inr z, .inr ⟨od, e2 _ _ upd_same⟩, rfl, (dkF_val N.nd g mz).symm⟩, _, rfl, _, _, rfl, rfl, .inl ⟨by omega, by omega⟩, two, fun T hT => q' T _ hT (same_new hT) ⟨z, hz, upd_same⟩⟩
        have pr : Paired (fun t (kv : Key × V) => SqT K (upd H2 RA (.dK (dkF zs g))) t [kV kv.1, kv.2]) qs (dkF zs fun z => g z * m) := by
          refine paired_of (by rw [lq]; simp [dkF]) fun k t kv ht hkv => ?_
          obtain ⟨z, h1, h2⟩ := r2 k t ht
          unfold dkF at hkv
          rw [List.getElem?_map, h1] at hkv
          cases hkv
          exact .inl (.inl (by rw [upd_ne (fun y => by rw [y, e2 _ _ upd_same] at h2; cases h2)]; exact h2))
        have sab : Same Hb (upd H2 RA (.dK (dkF zs g))) := fun c u z => by
          by_cases zz : c = RA
          · rw [zz, upd_same]; rw [zz, hX] at z; exact z
          · rw [upd_ne zz]; exact e2 _ _ (by rw [upd_ne zz]; exact z)
        have hDb : upd H2 RA (.dK (dkF zs g)) D = some (.lst (qs.map V.ref)) := by rw [upd_ne nD]; exact u2
        generalize upd H2 RA (.dK (dkF zs g)) = Hc at sab hDb pr ⊢
        refine ⟨D, qs, _, rfl, SqL.of hDb, pr, fun q hq => ?_⟩
        rw [show mergeK [] (dkF zs fun z => g z * m) = dkF zs fun z => g z * m from mergeK_nodup (more := dkF zs fun z => g z * m) [] (dkF_nodup N.nd _)]
        have s1 := sab.trans (same_new (o := (.dK (dkF zs fun z => g z * m))) hq)
        have uq : upd Hc q (.dK (dkF zs fun z => g z * m)) q = some (.dK (dkF zs fun z => g z * m)) := upd_same
        generalize upd Hc q (.dK (dkF zs fun z => g z * m)) = Hd at s1 uq ⊢
        refine ⟨fd, _, _, rfl, rfl, s1 _ _ hF, (show 0 < sizeLine by decide), ?_⟩
        have nqf : q ≠ fd := fun z => by rw [z, s1 _ _ hF] at uq; cases uq
        have exd : Ex p H (upd Hd fd (.lst ([] ++ [.ref q]))) := (exa.same s1).put fFd nFp
        have hFd : upd Hd fd (.lst ([] ++ [.ref q])) fd = some (.lst ([] ++ [.ref q])) := upd_same
        have hGd : upd Hd fd (.lst ([] ++ [.ref q])) gr = some (.lst []) := by rw [upd_ne ngf]; exact s1 _ _ hG
        have hqd : upd Hd fd (.lst ([] ++ [.ref q])) q = some (.dK (dkF zs fun z => g z * m)) := by rw [upd_ne nqf]; exact uq
        generalize upd Hd fd (.lst ([] ++ [.ref q])) = He at exd hFd hGd hqd ⊢
        clear s1 uq hF hG hDb pr sab
        refine ⟨_, rfl, .inl ⟨rfl, _, SqL.of hGd⟩, one, fun l0 hl0 => ?_⟩
        have s2 := same_new (o := .lst [.int 0]) hl0
        have ul0 : upd He l0 (.lst [.int 0]) l0 = some (.lst [.int 0]) := upd_same
        generalize upd He l0 (.lst [.int 0]) = Hf at s2 ul0 ⊢
        refine .inl ⟨_, rfl, _, rfl, fd, _, _, .ref q, rfl, rfl, SqL.of (s2 _ _ hFd), atI_last _ _, q, _, rfl, s2 _ _ hqd, fun l1 hl1 => ?_⟩
        have s3 := s2.trans (same_new (o := .lst ((dkF zs fun z => g z * m).map (·.2))) hl1)
        have ul1 : upd Hf l1 (.lst ((dkF zs fun z => g z * m).map (·.2))) l1 = some (.lst ((dkF zs fun z => g z * m).map (·.2))) := upd_same
        have ul0' := same_new (o := .lst ((dkF zs fun z => g z * m).map (·.2))) hl1 _ _ ul0
        generalize upd Hf l1 (.lst ((dkF zs fun z => g z * m).map (·.2))) = Hg at s3 ul1 ul0' ⊢
        refine ⟨l0, l1, _, _, rfl, rfl, ul0', ul1, by show 1 + _ ≤ sizeLine; simp only [dkF, List.length_map]; have := N.le; omega, fun l2 hl2 => ?_⟩
        have eqs : [V.int 0] ++ ((dkF zs fun z => g z * m).map (·.2)) = ((0 : Int) :: (zs.map fun z => g z * m)).map V.int := by
          unfold dkF
          simp only [List.map_cons, List.map_map]
          rfl
        rw [eqs]
        have s4 := s3.trans (same_new (o := .lst (((0 : Int) :: (zs.map fun z => g z * m)).map V.int)) hl2)
        have ul2 : upd Hg l2 (.lst (((0 : Int) :: (zs.map fun z => g z * m)).map V.int)) l2 = some (.lst (((0 : Int) :: (zs.map fun z => g z * m)).map V.int)) := upd_same
        generalize upd Hg l2 (.lst (((0 : Int) :: (zs.map fun z => g z * m)).map V.int)) = Hh at s4 ul2 ⊢
        refine ⟨l2, _, rfl, SqL.of ul2, by simp, fun mm hm hle => ⟨gr, _, _, rfl, rfl, s4 _ _ hGd, (show 0 < sizeLine by decide), ?_⟩⟩
        exact ⟨⟨_, rfl⟩, (exd.same s4).put fGr nGp, q, q1, q2, mm, m1', m2, by rw [upd_ne ngf.symm]; exact s4 _ _ hFd, upd_same, fun _ => ⟨(by rw [upd_ne (fun z => by have := s4 _ _ hqd; rw [z, s4 _ _ hGd] at this; cases this)]; exact s4 _ _ hqd), hm, hle⟩, fun z => absurd z (by decide), fun z => absurd z (by decide)⟩
      | 1, _, hy =>
        cases hy
        obtain ⟨⟨o6, rfl⟩, exa, q0, q1, q2, m0, m1', m2, hF0, hG0, k0, k1, k2⟩ := e
        have hF : Hb fd = some (.lst [.ref q0]) := hF0
        have hG : Hb gr = some (.lst [.int m0]) := hG0
        clear hF0 hG0
        have hX : Hb RB = some (.dK (dkF zs2 o)) := exa.dK hp hB
        refine ⟨_, rfl, .inl ⟨rfl, _, SqL.of hF⟩, .inl ⟨RB, _, hX, trivial, fun od => ⟨_, rfl, RB, od, rfl, .inl ⟨_, upd_same, fun D hD => ?_⟩⟩⟩⟩
        have nD : D ≠ RB := fun z => by rw [z, upd_same] at hD; cases hD
        refine lc_newF walk_keys (strsV zs2) (by simp [strsV, dkF]) (by simp only [dkF, List.length_map]; omega) (fun i H x H' hi y => ?_) hD (fun H' e => e _ _ upd_same) (fun _ _ => by kernel_rfl) (fun k v H' => ∃ z, zs2[k]? = some z ∧ H' v = some (.tup [.str z, .int (o z * m)])) (fun k v _ _ up n r => r.imp fun z h => ⟨h.1, up _ _ n h.2⟩) (fun _ _ _ r => r.elim fun z h => ⟨_, h.2⟩) (fun i y hy H2 e2 _ Q' q' => ?_) (fun H2 qs e2 u2 nq nDq lq r2 => ⟨e2 _ _ upd_same, ?_⟩)
        · obtain ⟨rfl, k, v, hk, rfl⟩ := y
          unfold dkF at hk
          rw [List.getElem?_map] at hk
          obtain ⟨z, hz, ek⟩ := Option.map_eq_some_iff.mp hk
          cases ek
          exact ⟨rfl, by show (zs2.map V.str)[i]? = _; rw [List.getElem?_map, hz]; rfl⟩
        · have hy' : (zs2.map V.str)[i]? = some y := hy
          rw [List.getElem?_map] at hy'
          obtain ⟨z, hz, rfl⟩ := Option.map_eq_some_iff.mp hy'
          have mz := List.mem_of_getElem? hz
          have bnd := N.po z (N.pm.mem_iff.mp mz)
          exact ⟨_, rfl, _, rfl, _, rfl, RB, .int (o z), rfl, .inl ⟨_, .inr z, .inr ⟨od, e2 _ _ upd_same⟩, rfl, (dkF_val (N.pm.nodup_iff.mpr N.nd) o mz).symm⟩, _, rfl, _, _, rfl, rfl, .inl ⟨by omega, by omega⟩, two, fun T hT => q' T _ hT (same_new hT) ⟨z, hz, upd_same⟩⟩
        have pr : Paired (fun t (kv : Key × V) => SqT K (upd H2 RB (.dK (dkF zs2 o))) t [kV kv.1, kv.2]) qs (dkF zs2 fun z => o z * m) := by
          refine paired_of (by rw [lq]; simp [dkF]) fun k t kv ht hkv => ?_
          obtain ⟨z, h1, h2⟩ := r2 k t ht
          unfold dkF at hkv
          rw [List.getElem?_map, h1] at hkv
          cases hkv
          exact .inl (.inl (by rw [upd_ne (fun y => by rw [y, e2 _ _ upd_same] at h2; cases h2)]; exact h2))
        have sab : Same Hb (upd H2 RB (.dK (dkF zs2 o))) := fun c u z => by
          by_cases zz : c = RB
          · rw [zz, upd_same]; rw [zz, hX] at z; exact z
          · rw [upd_ne zz]; exact e2 _ _ (by rw [upd_ne zz]; exact z)
        have hDb : upd H2 RB (.dK (dkF zs2 o)) D = some (.lst (qs.map V.ref)) := by rw [upd_ne nD]; exact u2
        generalize upd H2 RB (.dK (dkF zs2 o)) = Hc at sab hDb pr ⊢
        refine ⟨D, qs, _, rfl, SqL.of hDb, pr, fun q hq => ?_⟩
        rw [show mergeK [] (dkF zs2 fun z => o z * m) = dkF zs2 fun z => o z * m from mergeK_nodup (more := dkF zs2 fun z => o z * m) [] (dkF_nodup (N.pm.nodup_iff.mpr N.nd) _)]
        have s1 := sab.trans (same_new (o := (.dK (dkF zs2 fun z => o z * m))) hq)
        have uq : upd Hc q (.dK (dkF zs2 fun z => o z * m)) q = some (.dK (dkF zs2 fun z => o z * m)) := upd_same
        generalize upd Hc q (.dK (dkF zs2 fun z => o z * m)) = Hd at s1 uq ⊢
        refine ⟨fd, _, _, rfl, rfl, s1 _ _ hF, (show 1 < sizeLine by decide), ?_⟩
        have nqf : q ≠ fd := fun z => by rw [z, s1 _ _ hF] at uq; cases uq
        have exd : Ex p H (upd Hd fd (.lst ([.ref q0] ++ [.ref q]))) := (exa.same s1).put fFd nFp
        have hFd : upd Hd fd (.lst ([.ref q0] ++ [.ref q])) fd = some (.lst ([.ref q0] ++ [.ref q])) := upd_same
        have hGd : upd Hd fd (.lst ([.ref q0] ++ [.ref q])) gr = some (.lst [.int m0]) := by rw [upd_ne ngf]; exact s1 _ _ hG
        have hqd : upd Hd fd (.lst ([.ref q0] ++ [.ref q])) q = some (.dK (dkF zs2 fun z => o z * m)) := by rw [upd_ne nqf]; exact uq
        have j0 := k0 (by decide)
        have w0 : upd Hd fd (.lst ([.ref q0] ++ [.ref q])) q0 = some (.dK (dkF zs fun z => g z * m)) := by rw [upd_ne (fun z => by have := j0.1; rw [z, hF] at this; cases this)]; exact s1 _ _ j0.1
        generalize upd Hd fd (.lst ([.ref q0] ++ [.ref q])) = He at exd hFd hGd hqd w0 ⊢
        clear s1 uq hF hG hDb pr sab
        refine ⟨_, rfl, .inl ⟨rfl, _, SqL.of hGd⟩, one, fun l0 hl0 => ?_⟩
        have s2 := same_new (o := .lst [.int 0]) hl0
        have ul0 : upd He l0 (.lst [.int 0]) l0 = some (.lst [.int 0]) := upd_same
        generalize upd He l0 (.lst [.int 0]) = Hf at s2 ul0 ⊢
        refine .inl ⟨_, rfl, _, rfl, fd, _, _, .ref q, rfl, rfl, SqL.of (s2 _ _ hFd), atI_last _ _, q, _, rfl, s2 _ _ hqd, fun l1 hl1 => ?_⟩
        have s3 := s2.trans (same_new (o := .lst ((dkF zs2 fun z => o z * m).map (·.2))) hl1)
        have ul1 : upd Hf l1 (.lst ((dkF zs2 fun z => o z * m).map (·.2))) l1 = some (.lst ((dkF zs2 fun z => o z * m).map (·.2))) := upd_same
        have ul0' := same_new (o := .lst ((dkF zs2 fun z => o z * m).map (·.2))) hl1 _ _ ul0
        generalize upd Hf l1 (.lst ((dkF zs2 fun z => o z * m).map (·.2))) = Hg at s3 ul1 ul0' ⊢
        refine ⟨l0, l1, _, _, rfl, rfl, ul0', ul1, by show 1 + _ ≤ sizeLine; simp only [dkF, List.length_map]; have := N.pm.length_eq; omega, fun l2 hl2 => ?_⟩
        have eqs : [V.int 0] ++ ((dkF zs2 fun z => o z * m).map (·.2)) = ((0 : Int) :: (zs2.map fun z => o z * m)).map V.int := by
          unfold dkF
          simp only [List.map_cons, List.map_map]
          rfl
        rw [eqs]
        have s4 := s3.trans (same_new (o := .lst (((0 : Int) :: (zs2.map fun z => o z * m)).map V.int)) hl2)
        have ul2 : upd Hg l2 (.lst (((0 : Int) :: (zs2.map fun z => o z * m)).map V.int)) l2 = some (.lst (((0 : Int) :: (zs2.map fun z => o z * m)).map V.int)) := upd_same
        generalize upd Hg l2 (.lst (((0 : Int) :: (zs2.map fun z => o z * m)).map V.int)) = Hh at s4 ul2 ⊢
        refine ⟨l2, _, rfl, SqL.of ul2, by simp, fun mm hm hle => ⟨gr, _, _, rfl, rfl, s4 _ _ hGd, (show 1 < sizeLine by decide), ?_⟩⟩
        exact ⟨⟨_, rfl⟩, (exd.same s4).put fGr nGp, q0, q, q2, m0, mm, m2, by rw [upd_ne ngf.symm]; exact s4 _ _ hFd, upd_same, fun _ => ⟨(by rw [upd_ne (fun z => by have := s4 _ _ w0; rw [z, s4 _ _ hGd] at this; cases this)]; exact s4 _ _ w0), j0.2⟩, fun _ => ⟨(by rw [upd_ne (fun z => by have := s4 _ _ hqd; rw [z, s4 _ _ hGd] at this; cases this)]; exact s4 _ _ hqd), hm, hle⟩, fun z => absurd z (by decide)⟩
      | 2, _, hy =>
        cases hy
        obtain ⟨⟨o6, rfl⟩, exa, q0, q1, q2, m0, m1', m2, hF0, hG0, k0, k1, k2⟩ := e
        have hF : Hb fd = some (.lst [.ref q0, .ref q1]) := hF0
        have hG : Hb gr = some (.lst [.int m0, .int m1']) := hG0
        clear hF0 hG0
        have hX : Hb RS = some (.dT (dtF ps)) := exa.dT hp hS
        refine ⟨_, rfl, .inl ⟨rfl, _, SqL.of hF⟩, .inr ⟨RS, _, hX, trivial, fun od => ⟨_, rfl, RS, od, rfl, .inr ⟨_, upd_same, fun D hD => ?_⟩⟩⟩⟩
        have nD : D ≠ RS := fun z => by rw [z, upd_same] at hD; cases hD
        refine lc_it walk_keysT (fun i H' => Same (upd Hb RS (.frz od (.dT (dtF ps)))) H' ∧ ∃ ts : List Addr, H' D = some (.lst (ts.map V.ref)) ∧ ts.length = i ∧ PairsT H' ts (dtF ((timeP m ps).take i))) ⟨same_new hD, [], upd_same, rfl, by rw [List.take_zero]; exact .nil⟩ (fun i H' _ e => e.1 _ _ upd_same) (fun i y Ha Hc hi e hy => ?_) (fun H2 e => ⟨e.1 _ _ upd_same, ?_⟩)
        · obtain ⟨rfl, k, v, b, hk, rfl, hb⟩ := hy
          obtain ⟨ea, ts, hD', lt, PT⟩ := e
          unfold dtF at hk
          rw [List.getElem?_map] at hk
          obtain ⟨⟨⟨a, b2⟩, n⟩, hpi, ek⟩ := Option.map_eq_some_iff.mp hk
          cases ek
          have hpm := List.mem_of_getElem? hpi
          have bnd := N.sp _ hpm
          have bnd1 : 1 ≤ n := bnd.2.2.2.1
          have bnd2 : n ≤ 18 := bnd.2.2.2.2
          have hb' : Hc b = some (.tup [.str a, .str b2]) := hb
          have hti : (timeP m ps)[i]? = some ((a, b2), n * m) := by unfold timeP; rw [List.getElem?_map, hpi]; rfl
          refine ⟨rfl, yes_q (iteT ⟨_, rfl, _, rfl, _, rfl, RS, .int n, rfl, .inr ⟨_, [.inr a, .inr b2], b, .inr ⟨od, ea _ _ upd_same⟩, rfl, hb', (dtF_val N.sn hpm).symm⟩, _, rfl, _, _, rfl, rfl, .inl ⟨by omega, by omega⟩, two, fun T2 hT2 => ⟨ts.map V.ref, ?_, ?_, fun c u z => ?_, ts ++ [T2], by rw [upd_same, List.map_append]; rfl, by rw [List.length_append, lt]; rfl, ?_⟩⟩)⟩
          · rw [upd_ne (ne_of_none hD' hT2)]; exact hD'
          · have : i < (dtF ps).length := hi
            simp only [dtF, List.length_map] at this ⊢
            omega
          · rw [upd_ne (ne_of_none z hD), upd_ne (ne_of_none (ea _ _ z) hT2)]
            exact ea _ _ z
          · have t2 : TK Hc (upd Hc T2 (.tup [.ref b, .int (n * m)])) := fun b xs z => same_new hT2 _ _ z
            have hD'' : upd Hc T2 (.tup [.ref b, .int (n * m)]) D = some (.lst (ts.map V.ref)) := by rw [upd_ne (ne_of_none hD' hT2)]; exact hD'
            have t3 := TK.put (ys := ts.map V.ref ++ [V.ref T2]) hD''
            have := (PT.tk (t2.trans t3)).snoc (k := [.inr a, .inr b2]) (t3 _ _ upd_same) ((t2.trans t3) _ _ hb')
            rw [List.take_add_one, hti]
            unfold dtF at this ⊢
            rw [List.map_append]
            exact this
        obtain ⟨e2, qs, u2, lt, PT⟩ := e
        have ll : (dtF ps).length = (timeP m ps).length := by simp [dtF, timeP]
        rw [ll, List.take_length] at PT
        have pr : PairsT (upd H2 RS (.dT (dtF ps))) qs (dtF (timeP m ps)) := PT.tk fun b xs z => by rw [upd_ne (fun y => by rw [y, e2 _ _ upd_same] at z; cases z)]; exact z
        have sab : Same Hb (upd H2 RS (.dT (dtF ps))) := fun c u z => by
          by_cases zz : c = RS
          · rw [zz, upd_same]; rw [zz, hX] at z; exact z
          · rw [upd_ne zz]; exact e2 _ _ (by rw [upd_ne zz]; exact z)
        have hDb : upd H2 RS (.dT (dtF ps)) D = some (.lst (qs.map V.ref)) := by rw [upd_ne nD]; exact u2
        generalize upd H2 RS (.dT (dtF ps)) = Hc at sab hDb pr ⊢
        refine ⟨D, qs, _, rfl, hDb, pr, dtF_nodup (by rw [timeP_keys]; exact N.sn), fun q hq => ?_⟩
        have s1 := sab.trans (same_new (o := (.dT (dtF (timeP m ps)))) hq)
        have uq : upd Hc q (.dT (dtF (timeP m ps))) q = some (.dT (dtF (timeP m ps))) := upd_same
        generalize upd Hc q (.dT (dtF (timeP m ps))) = Hd at s1 uq ⊢
        refine ⟨fd, _, _, rfl, rfl, s1 _ _ hF, (show 2 < sizeLine by decide), ?_⟩
        have nqf : q ≠ fd := fun z => by rw [z, s1 _ _ hF] at uq; cases uq
        have exd : Ex p H (upd Hd fd (.lst ([.ref q0, .ref q1] ++ [.ref q]))) := (exa.same s1).put fFd nFp
        have hFd : upd Hd fd (.lst ([.ref q0, .ref q1] ++ [.ref q])) fd = some (.lst ([.ref q0, .ref q1] ++ [.ref q])) := upd_same
        have hGd : upd Hd fd (.lst ([.ref q0, .ref q1] ++ [.ref q])) gr = some (.lst [.int m0, .int m1']) := by rw [upd_ne ngf]; exact s1 _ _ hG
        have hqd : upd Hd fd (.lst ([.ref q0, .ref q1] ++ [.ref q])) q = some (.dT (dtF (timeP m ps))) := by rw [upd_ne nqf]; exact uq
        have j0 := k0 (by decide)
        have w0 : upd Hd fd (.lst ([.ref q0, .ref q1] ++ [.ref q])) q0 = some (.dK (dkF zs fun z => g z * m)) := by rw [upd_ne (fun z => by have := j0.1; rw [z, hF] at this; cases this)]; exact s1 _ _ j0.1
        have j1 := k1 (by decide)
        have w1 : upd Hd fd (.lst ([.ref q0, .ref q1] ++ [.ref q])) q1 = some (.dK (dkF zs2 fun z => o z * m)) := by rw [upd_ne (fun z => by have := j1.1; rw [z, hF] at this; cases this)]; exact s1 _ _ j1.1
        generalize upd Hd fd (.lst ([.ref q0, .ref q1] ++ [.ref q])) = He at exd hFd hGd hqd w0 w1 ⊢
        clear s1 uq hF hG hDb pr sab
        refine ⟨_, rfl, .inl ⟨rfl, _, SqL.of hGd⟩, one, fun l0 hl0 => ?_⟩
        have s2 := same_new (o := .lst [.int 0]) hl0
        have ul0 : upd He l0 (.lst [.int 0]) l0 = some (.lst [.int 0]) := upd_same
        generalize upd He l0 (.lst [.int 0]) = Hf at s2 ul0 ⊢
        refine .inr ⟨_, rfl, _, rfl, fd, _, _, .ref q, rfl, rfl, SqL.of (s2 _ _ hFd), atI_last _ _, q, _, rfl, s2 _ _ hqd, fun l1 hl1 => ?_⟩
        have s3 := s2.trans (same_new (o := .lst ((dtF (timeP m ps)).map (·.2))) hl1)
        have ul1 : upd Hf l1 (.lst ((dtF (timeP m ps)).map (·.2))) l1 = some (.lst ((dtF (timeP m ps)).map (·.2))) := upd_same
        have ul0' := same_new (o := .lst ((dtF (timeP m ps)).map (·.2))) hl1 _ _ ul0
        generalize upd Hf l1 (.lst ((dtF (timeP m ps)).map (·.2))) = Hg at s3 ul1 ul0' ⊢
        refine ⟨l0, l1, _, _, rfl, rfl, ul0', ul1, by show 1 + _ ≤ sizeLine; simp only [dtF, timeP, List.length_map]; omega, fun l2 hl2 => ?_⟩
        have eqs : [V.int 0] ++ ((dtF (timeP m ps)).map (·.2)) = ((0 : Int) :: ((timeP m ps).map Prod.snd)).map V.int := by
          unfold dtF
          simp only [List.map_cons, List.map_map]
          rfl
        rw [eqs]
        have s4 := s3.trans (same_new (o := .lst (((0 : Int) :: ((timeP m ps).map Prod.snd)).map V.int)) hl2)
        have ul2 : upd Hg l2 (.lst (((0 : Int) :: ((timeP m ps).map Prod.snd)).map V.int)) l2 = some (.lst (((0 : Int) :: ((timeP m ps).map Prod.snd)).map V.int)) := upd_same
        generalize upd Hg l2 (.lst (((0 : Int) :: ((timeP m ps).map Prod.snd)).map V.int)) = Hh at s4 ul2 ⊢
        refine ⟨l2, _, rfl, SqL.of ul2, by simp, fun mm hm hle => ⟨gr, _, _, rfl, rfl, s4 _ _ hGd, (show 2 < sizeLine by decide), ?_⟩⟩
        exact ⟨⟨_, rfl⟩, (exd.same s4).put fGr nGp, q0, q1, q, m0, m1', mm, by rw [upd_ne ngf.symm]; exact s4 _ _ hFd, upd_same, fun _ => ⟨(by rw [upd_ne (fun z => by have := s4 _ _ w0; rw [z, s4 _ _ hGd] at this; cases this)]; exact s4 _ _ w0), j0.2⟩, fun _ => ⟨(by rw [upd_ne (fun z => by have := s4 _ _ w1; rw [z, s4 _ _ hGd] at this; cases this)]; exact s4 _ _ w1), j1.2⟩, fun _ => ⟨(by rw [upd_ne (fun z => by have := s4 _ _ hqd; rw [z, s4 _ _ hGd] at this; cases this)]; exact s4 _ _ hqd), hm, hle⟩⟩
      | i + 3, hi, _ => exact absurd hi (by simp)
    clear ex2 u3 v3
    obtain ⟨⟨o6, rfl⟩, ex3, q0, q1, q2, m0, m1', m2, hF, hG, k0, k1, k2⟩ := e
    have j0 := k0 (show 0 < 3 by decide)
    have j1 := k1 (show 1 < 3 by decide)
    have j2 := k2 (show 2 < 3 by decide)
    have hF' : H3 fd = some (.lst [.ref q0, .ref q1, .ref q2]) := hF
    have fm := fits_max j0.2 j1.2 j2.2
    refine ⟨gr, m0, m1', m2, rfl, hG, ?_⟩
    rw [fm]
    have P3 := PS0.ex ex3 hp
    obtain ⟨dx, ws, sl⟩ := P3.slt
    have fe : fitsP zs zs (fun z => g z * m) (fun z => o z * m) (timeP m ps) = fitsP zs zs2 (fun z => g z * m) (fun z => o z * m) (timeP m ps) := fitsP_perm _ _ (List.Perm.refl _) N.pm.symm (List.Perm.refl _)
    refine ⟨_, rfl, x, dx, ws, rfl, sl, _, rfl, x, m, zs, g, o, ps, rfl, P3, m1, mb, fun hf y H4 e4 P4 => ?_, fun hf H4 e4 => ?_⟩
    · rw [fe] at hf
      rw [hf]
      refine ⟨_, rfl, _, rfl, iteT ⟨_, rfl, _, rfl, two, fun d hd => ?_⟩⟩
      have s5 := e4.trans (same_new (o := .lst [.ref y, .ref fd]) hd)
      have M2 : PrN zs zs2 (fun z => g z * m) (fun z => o z * m) (timeP m ps) := PrM.fits (N.timeM m1) hf
      exact hQ d y fd zs zs2 _ _ _ _ (ex3.same s5) upd_same ⟨⟨q0, q1, q2, s5 _ _ hF', s5 _ _ j0.1, s5 _ _ j1.1, s5 _ _ j2.1⟩, P4.same (same_new hd), M2⟩
    · rw [fe] at hf
      rw [hf]
      exact ⟨true, ER.e, fun _ a ha => ⟨_, rfl, _, rfl, iteT (hN H4 (ex3.same e4))⟩, fun q => nomatch q⟩
end
end MN
/-! _law_deed -/
namespace MN
open PySem PySem.Spec PyProof.Rows L2
theorem PairsT.app {H : Hp} {ts ts2 : List Addr} {k k2 : List (List Key × V)} (h : PairsT H ts k) (h2 : PairsT H ts2 k2) : PairsT H (ts ++ ts2) (k ++ k2) := by
  unfold PairsT at *
  induction h with
  | nil => exact h2
  | cons a b ih => exact .cons a ih
theorem perm_of_mem {α : Type} {l m : List α} (h1 : l.Nodup) (h2 : m.Nodup) (h : ∀ a, a ∈ l ↔ a ∈ m) : l.Perm m := (List.perm_ext_iff_of_nodup h1 h2).mpr h
theorem AllP.perm {zs : List Str} {h : Str → Str → Int} {ps qs : List SP2} (P : AllP zs h ps) (Q : AllP zs h qs) : ps.Perm qs := by
  have nd : ∀ {l : List SP2}, (l.map Prod.fst).Nodup → l.Nodup := fun {l} h => by
    rw [List.Nodup, List.pairwise_map] at h
    exact h.imp fun h e => h (by rw [e])
  exact perm_of_mem (nd P.nd) (nd Q.nd) fun e => by rw [P.iff, Q.iff]
section
variable {P : Program} {w : World} {K : PySem.W.Frag} {mg : Str → Option Value} {base : Heap} {Cp : Addr}
theorem r_evens (PD : PrD K mg Cp) (B : Blt mg) (G1 : GlC mg "MAX_PRICE" (.int 9)) (c_are_prices2 : Cal P w K mg base 3 "are_prices" spAreP2) (c_require_signs : Cal P w K mg base 3 "require_signs" (spReqSigns K)) (c_require_number : Cal P w K mg base 2 "require_number" spReqNumber) :
    ∃ mc p g, ClX.CRead K Cp mc ∧ ClX.CMet K Cp mc "even" p g ∧ FnR P w K mg base CX0 6 g (fun vs H Q E => spEvn K Cp (vs ++ [.int 1]) H Q E) ∧ FnR P w K mg base CX0 6 g (fun vs H Q E => spEvn K Cp (vs ++ []) H Q E) := by
  obtain ⟨mc, p, g, fd, r, c, F⟩ := PD.ev
  obtain ⟨ds, hd, hb⟩ := F.binds1 (ps := ["cls", "signs", "price"]) 2 0 (by simp) rfl fun T kV doc pm an cdv ct us its l1 l2 => by
    match us, its, l1, l2 with
    | [_, _], [_], _, _ => exact ⟨_, rfl, rfl⟩
  obtain ⟨ds2, hd2, hb2⟩ := F.binds1 (ps := ["cls", "signs", "price"]) 3 1 (by simp) rfl fun T kV doc pm an cdv ct us its l1 l2 => by
    match us, its, l1, l2 with
    | [_, _, _], [_], _, _ => exact ⟨_, rfl, rfl⟩
  have Fe := f_even2 (P := P) (w := w) (base := base) PD.sp PD.ip F B G1 c_are_prices2 c_require_signs c_require_number
  exact ⟨mc, p, g, r, c, Fe.raw hb hd, Fe.raw hb2 hd2⟩
abbrev N_law_deed : List Str := ["_law_pot", "_law_prices", "_law_tables_here", "_law_way", "_law_found", "_law_signs_here", "_law_price", "_law_single", "_law_pairs", "_law_sign", "_law_one", "_law_other"]
theorem sc_law_deed : FnScope N_law_deed ["_law_pot", "_law_prices", "_law_tables_here"] (defScope (top 39)) := ⟨rfl, rfl, rfl, by decide +kernel, rfl, by decide +kernel, by decide +kernel⟩
theorem c_law_deed (A : At K mg "_law_deed" (top 39)) (B : Blt mg) (PD : PrD K mg Cp) (GL : GlP mg) (c_are_prices2 : Cal P w K mg base 3 "are_prices" spAreP2) (c_require_signs : Cal P w K mg base 3 "require_signs" (spReqSigns K)) (c_require_number : Cal P w K mg base 2 "require_number" spReqNumber)
    (c_law_dip : Cal P w K mg base 1 "_law_dip" spDip) (c_law_signs : Cal P w K mg base 3 "_law_signs" spSignsL) (c_law_with : Cal P w K mg base 7 "_law_with" (spDeed Cp)) (c_law_fewer : Cal P w K mg base 7 "_law_fewer" (spDeed Cp)) (c_law_times : Cal P w K mg base 7 "_law_times" (spTimL Cp)) : Cal P w K mg base 8 "_law_deed" (spDeed Cp) := by
  obtain ⟨mc, pm, gm, rd, cm, F1, F2⟩ := r_evens (P := P) (w := w) (base := base) PD B GL.M c_are_prices2 c_require_signs c_require_number
  refine cal_of A sc_law_deed (fun _ _ _ _ _ _ us hl => match us, hl with | [_, _, _], _ => rfl) (fun vs H Q E h => ?_) (fun _ cdv A outer s H vs Q E hr h => ?_)
  · obtain ⟨_, _, _, _, _, _, _, _, rfl, _⟩ := h; rfl
  · obtain ⟨p, x, t, zs0, zs2, g0, o0, ps0, rfl, hp, ST, hQ⟩ := h
    refine ⟨_, (pss_cons (ps_set (i := 3) sc_law_deed.nd rfl (Or.inl rfl) (pe_c c_law_dip hr (by decide) (by rfl) (pa_cons (pv 0) (pa_cons pe_int pa_nil))))
      (pss_cons (ps_if (pt_cmpR op_lt (pv 3) pe_int (nomark _)) (pss_one (ps_ret (pe_c c_law_with hr (by decide) (by rfl) (pa_cons (pv 0) (pa_cons (pv 1) (pa_cons (pv 2) pa_nil)))))) pss_nil)
      (pss_cons (ps_if (pt_cmpR op_eq (pv 3) pe_int (nomark _)) (pss_one (ps_ret (pe_c c_law_fewer hr (by decide) (by rfl) (pa_cons (pv 0) (pa_cons (pv 1) (pa_cons (pv 2) pa_nil)))))) pss_nil)
      (pss_cons (ps_if (pt_cmpR op_eq (pv 3) pe_int (nomark _))
        (pss_cons (ps_set (i := 4) sc_law_deed.nd rfl (Or.inl rfl) (pe_c c_law_times hr (by decide) (by rfl) (pa_cons (pv 0) (pa_cons (pv 1) (pa_cons (pv 2) pa_nil)))))
        (pss_one (ps_ret (pe_ifExp (pt_cmpR op_isN (pv 4) pe_non (nomark _)) (pe_lst (pa_cons (pv 1) (pa_cons (pv 2) pa_nil))) (pv 4)))))
        pss_nil)
      (pss_cons (ps_asg (pe_tup (pa_cons (pe_c c_law_signs hr (by decide) (by rfl) (pa_cons (pv 0) pa_nil)) (pa_cons (pe_op op_add pe_int (pe_c c_law_dip hr (by decide) (by rfl) (pa_cons (pv 0) (pa_cons pe_int pa_nil)))) pa_nil))) (pg_tup rfl (pgs_cons (pg_name (i := 5) sc_law_deed.nd rfl (Or.inl rfl)) (pgs_cons (pg_name (i := 6) sc_law_deed.nd rfl (Or.inr rfl)) pgs_nil))))
      (pss_cons (ps_par (i := 7) (j := 8) (by rfl) sc_law_deed.nd rfl rfl (by decide) rfl rfl (pa_cons (pe_callTy (call_dictP rfl) (by rfl) B.dict (by decide +kernel) (pa_cons (pe_lc (own := [("_law_sign", 9)]) (g := gName 9) (tt := tYes) (by rfl) sc_law_deed.nd (pi_list (pv 5)) (blkOk_by (own := [("_law_sign", 9)]) (N := N_law_deed) (sc := defScope (top 39)) (by decide +kernel)) (fun _ _ _ _ _ => (pg_name (i := 9) sc_law_deed.nd rfl (Or.inl rfl))) (fun _ _ _ _ _ => pts_nil) (fun _ _ _ _ _ => (pe_tup (pa_cons (pv 9) (pa_cons (pv 6) pa_nil))))) pa_nil)) (pa_cons (pe_lst pa_nil) pa_nil)) (by rfl))
      (pss_cons (ps_for PassesOwn.never rfl (pi_list (pv 5)) (pg_name (i := 10) sc_law_deed.nd rfl (Or.inr rfl))
        (pss_one (ps_expr (pe_bm PySem.F.plainAttrs_list PySem.F.slot_list_extend PySem.F.type_list_extend mt_extend (pv 8) (pa_cons (pe_lc (own := [("_law_other", 11)]) (g := gName 11) (by rfl) sc_law_deed.nd (pi_list (pv 5)) (blkOk_by (own := [("_law_other", 11)]) (N := N_law_deed) (sc := defScope (top 39)) (by decide +kernel)) (fun _ _ _ _ _ => (pg_name (i := 11) sc_law_deed.nd rfl (Or.inl rfl))) (fun _ _ _ _ _ => pts_one (pt_cmpR op_ne (pv 10) (pv 11) (nomark _))) (fun _ _ _ _ _ => (pe_tup (pa_cons (pe_tup (pa_cons (pv 10) (pa_cons (pv 11) pa_nil))) (pa_cons (pv 6) pa_nil))))) pa_nil)))))
      (pss_cons (ps_if (PW.pt (pw_and (pt_cmpR op_eq (pv 6) pe_int (nomark _)) (pw_and1 (pt_cmpR op_eq (pe_c c_law_dip hr (by decide) (by rfl) (pa_cons (pv 0) (pa_cons pe_int pa_nil))) pe_int (nomark _)))))
        (pss_one (ps_ret (pe_lst (pa_cons (ClX.pe_cmeth (pe_glob (v := .ref Cp) (by rfl) PD.gp rfl) rd cm F1 (hr.mono (by decide)) pass0 (pa_cons (pe_callTy call_tuple_of (by rfl) B.tuple (by decide +kernel) (pa_cons (pv 5) pa_nil)) pa_nil)) (pa_cons (pe_lst (pa_cons (pv 7) (pa_cons (pv 7) (pa_cons (pe_callTy (call_dictPT rfl hr.units) (by rfl) B.dict (by decide +kernel) (pa_cons (pv 8) pa_nil)) pa_nil)))) pa_nil)))))
        pss_nil)
      (pss_one (ps_ret (pe_lst (pa_cons (ClX.pe_cmeth (pe_glob (v := .ref Cp) (by rfl) PD.gp rfl) rd cm F2 (hr.mono (by decide)) pass0 (pa_cons (pe_callTy call_tuple_of (by rfl) B.tuple (by decide +kernel) (pa_cons (pv 5) pa_nil)) (pa_cons (pv 6) pa_nil))) (pa_cons (pe_lst (pa_cons (pv 7) (pa_cons (pv 7) (pa_cons (pe_callTy (call_dictPT rfl hr.units) (by rfl) B.dict (by decide +kernel) (pa_cons (pv 8) pa_nil)) pa_nil)))) pa_nil))))))))))))), ?_⟩
    have two : 2 ≤ sizeLine := by decide
    have three : 3 ≤ sizeLine := by decide
    have big : 1000 < sizeLine := by decide
    obtain ⟨a0, b0, c0, hp0⟩ := id hp
    refine ⟨_, rfl, p, 10, a0, b0, c0, rfl, hp0, by decide, by decide, fun r a' b' c' r0 r10 => ?_⟩
    have ex1 : Ex p H (upd H p (potO a' b' c')) := Ex.turn
    generalize upd H p (potO a' b' c') = H1 at ex1 ⊢
    clear hp0 a' b' c'
    have ST1 := ST.ex ex1 hp
    refine ⟨_, rfl, _, _, rfl, rfl, _, rfl, ?_⟩
    by_cases r7 : r < 7
    · refine iteDT r7 ?_
      exact ⟨_, rfl, _, rfl, _, rfl, p, x, t, _, _, _, _, _, rfl, ex1.pot, ST1, fun d x' t' zs' zs2' g' o' ps' H' ex2 hd S2 => hQ d x' t' _ _ _ _ _ H' (ex1.trans ex2) hd S2⟩
    refine iteDF r7 ?_
    refine ⟨_, rfl, rfl, _, rfl, ?_⟩
    by_cases r8 : r = 7
    · refine iteDT (by rw [r8]) ?_
      exact ⟨_, rfl, _, rfl, _, rfl, p, x, t, _, _, _, _, _, rfl, ex1.pot, ST1, fun d x' t' zs' zs2' g' o' ps' H' ex2 hd S2 => hQ d x' t' _ _ _ _ _ H' (ex1.trans ex2) hd S2⟩
    refine iteDF (fun q => r8 (by injection q)) ?_
    refine ⟨_, rfl, rfl, _, rfl, ?_⟩
    by_cases r9 : r = 8
    · refine iteDT (by rw [r9]) ?_
      refine ⟨_, rfl, _, rfl, _, rfl, p, x, t, _, _, _, _, _, rfl, ex1.pot, ST1, fun H2 ex2 => ?_, fun d x' t' zs' zs2' g' o' ps' H2 ex2 hd S2 => ?_⟩
      · refine ⟨_, rfl, rfl, _, rfl, iteDT rfl ⟨_, rfl, _, rfl, two, fun d hd => ?_⟩⟩
        have e3 := same_new (o := .lst [.ref x, .ref t]) hd
        exact hQ d x t _ _ _ _ _ _ ((ex1.trans ex2).same e3) upd_same ((ST1.ex ex2 ex1.pot).same e3)
      · exact ⟨_, rfl, rfl, _, rfl, iteDF (fun q => by cases q) ⟨_, rfl, hQ d x' t' _ _ _ _ _ H2 (ex1.trans ex2) hd S2⟩⟩
    refine iteDF (fun q => r9 (by injection q)) ?_
    clear r0 r10 r7 r8 r9 ST1
    -- even prices
    refine ⟨_, rfl, p, rfl, ex1.pot, fun l zs H2 ok fl ex2 hl => ?_⟩
    have ex02 := ex1.trans ex2
    have nlp : l ≠ p := by obtain ⟨_, _, _, e⟩ := ex1.pot; exact (ne_of_none e fl).symm
    obtain ⟨a0, b0, c0, hp2⟩ := ex02.pot
    refine ⟨_, rfl, p, 9, a0, b0, c0, rfl, hp2, by decide, by decide, fun r a' b' c' r0 r9 => ⟨_, _, rfl, rfl, two, fun T hT => ⟨T, [.ref l, .int (1 + r)], rfl, .inl (.inl upd_same), rfl, .ref l, [.int (1 + r)], rfl, .int (1 + r), [], rfl, rfl, ?_⟩⟩⟩
    have ex3 := (ex02.trans (Ex.turn (p := p) (a := a') (b := b') (c := c'))).new (o := .tup [.ref l, .int (1 + r)]) hT
    have hl3 : upd (upd H2 p (potO a' b' c')) T (.tup [.ref l, .int (1 + r)]) l = some (.lst (strsV zs)) := by
      have h1 : upd H2 p (potO a' b' c') l = some (.lst (strsV zs)) := by rw [upd_ne nlp]; exact hl
      rw [upd_ne (ne_of_none h1 hT)]; exact h1
    generalize upd (upd H2 p (potO a' b' c')) T (.tup [.ref l, .int (1 + r)]) = H3 at ex3 hl3 ⊢
    obtain ⟨n, hn⟩ : ∃ n, n = 1 + r := ⟨_, rfl⟩
    have n1 : 1 ≤ n := by omega
    have n9 : n ≤ 9 := by omega
    try rw [← hn]
    try simp only [← hn]
    clear hT ex1 ex2 ex02 hp2 fl hl hn r0 r9 a' b' c'
    have nd := ok.nodup
    have l5 := ok.le
    have lz : (strsV zs).length = zs.length := by simp [strsV]
    refine ⟨_, rfl, l, rfl, ⟨_, SqL.of hl3⟩, fun D hD => ?_⟩
    refine lc_tabK (SqL.of hl3) (by omega) (fun _ => n) hD (fun _ _ => by kernel_rfl) (fun z hz H4 e4 Q q => ⟨_, rfl, _, rfl, two, fun T hT => q T hT⟩) (fun H4 ts e4 u4 pr => ⟨D, ts, _, rfl, SqL.of u4, pr, fun S hS => ?_⟩)
    rw [show mergeK [] (dkF zs fun _ => n) = dkF zs fun _ => n from mergeK_nodup (more := dkF zs fun _ => n) [] (dkF_nodup nd _)]
    have s5 := e4.trans (same_new (o := .dK (dkF zs fun _ => n)) hS)
    have uS : upd H4 S (.dK (dkF zs fun _ => n)) S = some (.dK (dkF zs fun _ => n)) := upd_same
    generalize upd H4 S (.dK (dkF zs fun _ => n)) = H5 at s5 uS ⊢
    refine ⟨Nat.zero_le _, fun L hL => ⟨_, _, rfl, ?_⟩⟩
    have s6 := s5.trans (same_new (o := .lst []) hL)
    have uS6 := same_new (o := .lst []) hL _ _ uS
    have uL : upd H5 L (.lst []) L = some (.lst []) := upd_same
    have ex5 := ex3.same s5
    have fL : H L = none := ex5.free hp hL
    have nLp : L ≠ p := by obtain ⟨_, _, _, e⟩ := hp; exact (ne_of_none e fL).symm
    have ex6 := ex3.same s6
    have hl6 := s6 _ _ hl3
    have nlL : l ≠ L := ne_of_none (s5 _ _ hl3) hL
    have nSL : S ≠ L := ne_of_none uS hL
    generalize upd H5 L (.lst []) = H6 at s6 uS6 uL ex6 hl6 ⊢
    clear hD e4 u4 pr hS s5 uS hL ex5 s6 hl3 ex3
    have keepL : ∀ {qs : List SP2} {i j : Nat}, PreP zs (fun _ _ => n) i j qs → qs.length ≤ 25 := fun {qs i j} P => by
      have := P.len
      have : zs.length * zs.length ≤ 5 * 5 := Nat.mul_le_mul l5 l5
      omega
    refine ⟨_, rfl, l, rfl, ⟨_, SqL.of hl6⟩, for_it walk_list (fun i σ H' => (∃ o3 o10, σ = [some (.ref p), some (.ref x), some (.ref t), o3, none, some (.ref l), some (.int n), some (.ref S), some (.ref L), none, o10, none]) ∧ Ex p H H' ∧ H' l = some (.lst (strsV zs)) ∧ H' S = some (.dK (dkF zs fun _ => n)) ∧ ∃ (ts : List Addr) (ps : List SP2), H' L = some (.lst (ts.map V.ref)) ∧ PairsT H' ts (dtF ps) ∧ ts.length = ps.length ∧ PreP zs (fun _ _ => n) i 0 ps)
      ⟨⟨_, _, rfl⟩, ex6, hl6, uS6, [], [], uL, .nil, rfl, by simp, fun e => by simp⟩ (fun i σ H' _ e => SqL.of e.2.2.1) (fun i y σ Ha Hb hi e hy => ?_) (fun σ H7 e => ?_)⟩
    · obtain ⟨rfl, hy⟩ := hy
      clear ex6 hl6 uS6 uL
      obtain ⟨⟨o3, o10, rfl⟩, exa, hla, hSa, ts, ps, hLa, PT, ltp, PP⟩ := e
      have hi' : i < zs.length := by rw [← lz]; exact hi
      have gi := List.getElem?_eq_getElem hi'
      rw [List.getElem?_map, gi] at hy
      cases hy
      refine ⟨_, rfl, .inl ⟨rfl, _, SqL.of hLa⟩, _, rfl, l, rfl, ⟨_, SqL.of hla⟩, fun D hD => ?_⟩
      refine lc_it walk_list (fun j H' => Same Hb H' ∧ ∃ (ts2 : List Addr) (ps2 : List SP2), H' D = some (.lst (ts2.map V.ref)) ∧ PairsT H' ts2 (dtF ps2) ∧ ts2.length = ps2.length ∧ PreP zs (fun _ _ => n) i j (ps ++ ps2)) ⟨same_new hD, [], [], upd_same, .nil, rfl, by rw [List.append_nil]; exact PP⟩ (fun j H' _ e => SqL.of (e.1 _ _ hla)) (fun j y2 Hq Hc hj e hy => ?_) (fun Hc e => ?_)
      · obtain ⟨rfl, hy⟩ := hy
        obtain ⟨ea, ts2, ps2, hD2, PT2, lt2, PP2⟩ := e
        have hj' : j < zs.length := by rw [← lz]; exact hj
        have gj := List.getElem?_eq_getElem hj'
        rw [List.getElem?_map, gj] at hy
        cases hy
        refine ⟨rfl, _, rfl, _, rfl, rfl, _, rfl, ?_⟩
        by_cases ne : zs[i] = zs[j]
        · rw [show (!decide (V.str zs[i] = V.str zs[j])) = false by simp [ne]]
          exact iteF ⟨ea, ts2, ps2, hD2, PT2, lt2, PP2.skip gi (by rw [gj, ne])⟩
        · rw [show (!decide (V.str zs[i] = V.str zs[j])) = true by simp [ne]]
          refine iteT ⟨_, rfl, _, rfl, two, fun T1 hT1 => ⟨_, rfl, two, fun T2 hT2 => ⟨ts2.map V.ref, ?_, ?_, fun b u q => ?_, ts2 ++ [T2], ps2 ++ [((zs[i], zs[j]), n)], by rw [upd_same, List.map_append]; rfl, ?_, by rw [List.length_append, List.length_append, lt2]; rfl, ?_⟩⟩⟩
          · have h1 : upd Hc T1 (.tup [.str zs[i], .str zs[j]]) D = some (.lst (ts2.map V.ref)) := by rw [upd_ne (ne_of_none hD2 hT1)]; exact hD2
            rw [upd_ne (ne_of_none h1 hT2)]; exact h1
          · have := keepL PP2
            rw [List.length_append] at this
            rw [List.length_map]
            omega
          · have h1 := same_new (o := .tup [.str zs[i], .str zs[j]]) hT1 _ _ (ea _ _ q)
            rw [upd_ne (ne_of_none q hD), upd_ne (ne_of_none h1 hT2)]
            exact h1
          · have h1 : upd Hc T1 (.tup [.str zs[i], .str zs[j]]) D = some (.lst (ts2.map V.ref)) := by rw [upd_ne (ne_of_none hD2 hT1)]; exact hD2
            have h2 : upd (upd Hc T1 (.tup [.str zs[i], .str zs[j]])) T2 (.tup [.ref T1, .int n]) D = some (.lst (ts2.map V.ref)) := by rw [upd_ne (ne_of_none h1 hT2)]; exact h1
            have t1 : TK Hc (upd Hc T1 (.tup [.str zs[i], .str zs[j]])) := fun b xs z => same_new hT1 _ _ z
            have t2 : TK (upd Hc T1 (.tup [.str zs[i], .str zs[j]])) (upd (upd Hc T1 (.tup [.str zs[i], .str zs[j]])) T2 (.tup [.ref T1, .int n])) := fun b xs z => same_new hT2 _ _ z
            have t3 := TK.put (ys := ts2.map V.ref ++ [V.ref T2]) h2
            have := (PT2.tk ((t1.trans t2).trans t3)).snoc (k := [.inr zs[i], .inr zs[j]]) (t3 _ _ upd_same) (t3 _ _ (t2 _ _ upd_same))
            unfold dtF at this ⊢
            rw [List.map_append]
            exact this
          · rw [← List.append_assoc]
            exact (PP2.new nd gi gj ne).1
      · obtain ⟨ea, ts2, ps2, hD2, PT2, lt2, PP2⟩ := e
        rw [lz] at PP2
        have hLc := ea _ _ hLa
        have l25 := keepL PP2
        rw [List.length_append] at l25
        refine ⟨L, D, _, _, rfl, rfl, hLc, hD2, by rw [List.length_map, List.length_map]; omega, ?_⟩
        rw [← List.map_append]
        have tk : TK Hc (upd Hc L (.lst ((ts ++ ts2).map V.ref))) := TK.put hLc
        refine ⟨⟨_, _, rfl⟩, (exa.same ea).put fL nLp, by rw [upd_ne nlL]; exact ea _ _ hla, by rw [upd_ne nSL]; exact ea _ _ hSa, ts ++ ts2, ps ++ ps2, upd_same, ?_, by rw [List.length_append, List.length_append, ltp, lt2], PP2.row hi'⟩
        have p1 := PT.tk (fun b xs z => tk _ _ (ea _ _ z))
        have p2 := PT2.tk tk
        have e12 : dtF (ps ++ ps2) = dtF ps ++ dtF ps2 := by unfold dtF; rw [List.map_append]
        rw [e12]
        exact PairsT.app p1 p2
    clear ex6 hl6 uS6 uL
    obtain ⟨⟨o3, o10, rfl⟩, ex7, hl7, hS7, ts, ps, hL7, PT, ltp, PP⟩ := e
    rw [lz] at PP
    have AP := PP.all
    have NN : PrN zs zs (fun _ => n) (fun _ => n) ps := ⟨ok.one, nd, ok.pos, l5, List.Perm.refl _, fun _ _ => ⟨n1, n9⟩, fun _ _ => ⟨n1, n9⟩, AP.nd, fun x hx => by obtain ⟨a1, a2, a3, a4⟩ := (AP.iff x).mp hx; exact ⟨a1, a2, a3, by omega, by omega⟩, by have := keepL PP; omega⟩
    have done : ∀ (Hx H8 : Hp) (y : Addr) (dx : Addr) (ys : List Str) (qs ps' : List SP2), Ex p H Hx → Hx S = some (.dK (dkF zs fun _ => n)) → Hx L = some (.lst (ts.map V.ref)) → PairsT Hx ts (dtF ps) → Same Hx H8 → PrAt Cp H8 y dx ys ys (fun _ => n) (fun _ => n) qs → PrN ys ys (fun _ => n) (fun _ => n) qs → ys.Perm zs → (ys.Pairwise fun a b => sL a < sL b) → AllP zs (fun _ _ => n) ps' → qs.Perm ps' → (qs.Pairwise fun a b => kLt a.1 b.1) →
        ∃ v, some (some (V.ref S)) = some (some v) ∧ ∃ v2, some (some (V.ref S)) = some (some v2) ∧ ∃ v3, some (some (V.ref L)) = some (some v3) ∧ rDictPT [v3] H8 fun d H9 => 3 ≤ sizeLine ∧ ∀ t', H9 t' = none → 2 ≤ sizeLine ∧ ∀ e, upd H9 t' (.lst [v, v2, d]) e = none → Q (.ref e) (upd (upd H9 t' (.lst [v, v2, d])) e (.lst [.ref y, .ref t'])) := fun Hx H8 y dx ys qs ps' exx hSx hLx PTx e8 PA PN pm' asc APs pq srt => by
      refine ⟨_, rfl, _, rfl, _, rfl, L, ts, dtF ps, rfl, e8 _ _ hLx, PTx.tk fun b xs z => e8 _ _ z, dtF_nodup AP.nd, fun W hW => ⟨three, fun t' ht' => ⟨two, fun e he => ?_⟩⟩⟩
      have s9 := same_new (o := .dT (dtF ps)) hW
      have uW : upd H8 W (.dT (dtF ps)) W = some (.dT (dtF ps)) := upd_same
      have s10 := same_new (o := .lst [.ref S, .ref S, .ref W]) ht'
      have s11 := same_new (o := .lst [.ref y, .ref t']) he
      have f := (s9.trans s10).trans s11
      exact hQ e y t' zs zs _ _ ps _ ((exx.same e8).same f) upd_same ⟨⟨S, S, W, s11 _ _ upd_same, f _ _ (e8 _ _ hSx), f _ _ (e8 _ _ hSx), s11 _ _ (s10 _ _ uW)⟩, (PrS.mk' PA PN pm' asc (pq.trans (APs.perm AP)) srt).same f, NN⟩
    refine ⟨_, rfl, rfl, _, rfl, ?_⟩
    by_cases c : n = 1
    · refine iteDT (by rw [c]) ?_
      obtain ⟨a0, b0, c0, hp7⟩ := ex7.pot
      refine ⟨_, rfl, p, 2, a0, b0, c0, rfl, hp7, by decide, by decide, fun r2 a' b' c' _ _ => ⟨rfl, _, rfl, ?_⟩⟩
      have tn := Ex.turn (p := p) (H := H7) (a := a') (b := b') (c := c')
      have ex8 := ex7.trans tn
      have hS8 := tn.dK ex7.pot hS7
      have hL8 := tn.refs ex7.pot hL7
      have PT8 := PT.tk (tn.tk ex7.pot)
      have hl8 := tn.keep _ _ nlp hl7
      generalize upd H7 p (potO a' b' c') = H8 at ex8 hS8 hL8 PT8 hl8 ⊢
      refine ite2 (fun _ => ?_) (fun _ => ?_)
      · refine ⟨rfl, _, rfl, l, _, rfl, .inl ⟨SqL.of hl8, fun T hT => ?_⟩⟩
        refine ⟨T, zs, 1, rfl, .inl (.inl upd_same), sgn_are ok, ok.one, nd, ok.pos, l5, by decide, by decide, fun y dx ys qs ps' H9 e9 PA PN pm' asc APs pq srt => ?_⟩
        rw [← c] at PA PN APs
        exact done H8 H9 y dx ys qs ps' ex8 hS8 hL8 PT8 ((same_new hT).trans e9) PA PN pm' asc APs pq srt
      · refine ⟨rfl, _, rfl, l, _, rfl, .inl ⟨SqL.of hl8, fun T hT => ⟨_, rfl, ?_⟩⟩⟩
        exact ⟨T, zs, n, rfl, .inl (.inl upd_same), sgn_are ok, ok.one, nd, ok.pos, l5, n1, n9, fun y dx ys qs ps' H9 e9 PA PN pm' asc APs pq srt => done H8 H9 y dx ys qs ps' ex8 hS8 hL8 PT8 ((same_new hT).trans e9) PA PN pm' asc APs pq srt⟩
    · refine iteDF (fun q => c (by injection q)) ?_
      refine ⟨rfl, _, rfl, l, _, rfl, .inl ⟨SqL.of hl7, fun T hT => ⟨_, rfl, ?_⟩⟩⟩
      exact ⟨T, zs, n, rfl, .inl (.inl upd_same), sgn_are ok, ok.one, nd, ok.pos, l5, n1, n9, fun y dx ys qs ps' H9 e9 PA PN pm' asc APs pq srt => done H7 H9 y dx ys qs ps' ex7 hS7 hL7 PT ((same_new hT).trans e9) PA PN pm' asc APs pq srt⟩
end
end MN
/-! what is told, as data; bounds of its shown text -/
namespace MN
open PySem PySem.Spec PyProof.Rows L2
/-- data of small depth and weight, without dicts -/
structure Sm (n w : Nat) (d : PyData) : Prop where
  dp : d.depth ≤ n
  wt : d.weight ≤ w
  sh : d.showable = true
  nd : d.hasDict = false
  cl : d.canLay0 = true
  ss : d.intsShort 13 = true
theorem Sm.mono {n w n' w' : Nat} {d : PyData} (h : Sm n w d) (hn : n ≤ n') (hw : w ≤ w') : Sm n' w' d := { h with dp := Nat.le_trans h.dp hn, wt := Nat.le_trans h.wt hw }
theorem sm_all {n w : Nat} {l : List PyData} (h : ∀ d ∈ l, Sm n w d) : PyData.depthAll l ≤ n ∧ PyData.weightAll l ≤ l.length * (w + 1) ∧ PyData.showableAll l = true ∧ PyData.hasDictAll l = false ∧ PyData.canLayAll0 l = true ∧ PyData.intsShortAll 13 l = true := by
  induction l with
  | nil => exact ⟨Nat.zero_le _, Nat.zero_le _, rfl, rfl, rfl, rfl⟩
  | cons a l ih =>
    obtain ⟨i1, i2, i3, i4, i5, i6⟩ := ih fun d hd => h d (List.mem_cons_of_mem _ hd)
    have k := h a List.mem_cons_self
    refine ⟨?_, ?_, ?_, ?_, ?_, ?_⟩
    · rw [PyData.depthAll]; have := k.dp; omega
    · rw [PyData.weightAll, List.length_cons, Nat.add_mul]; have := k.wt; omega
    · rw [PyData.showableAll, k.sh, i3]; rfl
    · rw [PyData.hasDictAll, k.nd, i4]; rfl
    · rw [PyData.canLayAll0, k.cl, i5]; rfl
    · rw [PyData.intsShortAll, k.ss, i6]; rfl
theorem Sm.list {n w : Nat} {l : List PyData} (h : ∀ d ∈ l, Sm n w d) : Sm (n + 1) (l.length * (w + 1)) (.list l) := by
  obtain ⟨i1, i2, i3, i4, i5, i6⟩ := sm_all h
  exact ⟨by rw [PyData.depth]; omega, by rw [PyData.weight]; exact i2, by rw [PyData.showable]; exact i3, by rw [PyData.hasDict]; exact i4, by rw [PyData.canLay0]; exact i5, by rw [PyData.intsShort]; exact i6⟩
theorem Sm.tuple {n w : Nat} {l : List PyData} (h : ∀ d ∈ l, Sm n w d) : Sm (n + 1) (l.length * (w + 1)) (.tuple l) := by
  obtain ⟨i1, i2, i3, i4, i5, i6⟩ := sm_all h
  exact ⟨by rw [PyData.depth]; omega, by rw [PyData.weight]; exact i2, by rw [PyData.showable]; exact i3, by rw [PyData.hasDict]; exact i4, by rw [PyData.canLay0]; exact i5, by rw [PyData.intsShort]; exact i6⟩
theorem Sm.int {k : Int} (h0 : 0 ≤ k) (h1 : k ≤ 1000) : Sm 0 20 (.int k) := by
  have lg : k.natAbs.log2 < 11 := by
    by_cases z : k.natAbs = 0
    · rw [z]; decide
    · rw [Nat.log2_lt z]
      have : (2 : Nat) ^ 11 = 2048 := by decide
      omega
  refine ⟨by rw [PyData.depth]; exact Nat.le_refl _, ?_, ?_, rfl, rfl, ?_⟩
  · rw [PyData.weight]
    split <;> omega
  · have := PyData.showableAll_ints [k] fun m hm => by rw [show m = k from by simpa using hm]; omega
    rw [List.map_cons, PyData.showableAll, Bool.and_eq_true] at this
    exact this.1
  · have := PyData.intsShortAll_ints [k] fun m hm => by
      rw [show m = k from by simpa using hm]
      have : (10 : Nat) ^ 12 = 1000000000000 := by decide
      omega
    rw [List.map_cons, PyData.intsShortAll, Bool.and_eq_true] at this
    exact this.1
theorem Sm.bool (b : Bool) : Sm 0 0 (.bool b) := ⟨by rw [PyData.depth]; exact Nat.le_refl _, by rw [PyData.weight]; exact Nat.le_refl _, rfl, rfl, rfl, rfl⟩
theorem Sm.str {z : Str} {L : Nat} (hl : z.length ≤ L) (hc : (PyData.str z).canLay0 = true) : Sm 0 L (.str z) := ⟨by rw [PyData.depth]; exact Nat.le_refl _, by rw [PyData.weight]; exact hl, rfl, rfl, hc, rfl⟩
theorem Sm.sign {z : Str} (h : ∃ c ∈ ("abcde" : Str).cps.toList, z = ⟨#[c]⟩) : Sm 0 1 (.str z) := by
  refine .str (by rw [len_one h]; exact Nat.le_refl _) ?_
  obtain ⟨c, hc, rfl⟩ := h
  have hc' : c = 97 ∨ c = 98 ∨ c = 99 ∨ c = 100 ∨ c = 101 := by
    have e : ("abcde" : Str).cps.toList = [97, 98, 99, 100, 101] := by decide +kernel
    rw [e] at hc
    simpa using hc
  rcases hc' with rfl | rfl | rfl | rfl | rfl <;> decide +kernel
theorem Sm.shows {n w : Nat} {l : List PyData} (h : Sm n w (.list l)) (hn : n ≤ 60) (hw : w ≤ 2 ^ 20) : isDisplay (.list l) = true ∧ (PyData.list l).showable = true ∧ (PyData.list l).hasDict = false ∧ (PyData.list l).depth ≤ 60 ∧ (PyData.list l).shown.length ≤ sizeLine := by
  refine ⟨rfl, h.sh, h.nd, Nat.le_trans h.dp hn, PyData.shown_fits_of_layable0 (B := 13) (by decide) (by decide) ?_ h.ss⟩
  unfold PyData.layable0
  rw [h.cl, Bool.true_and, Bool.and_eq_true]
  exact ⟨decide_eq_true (Nat.le_trans h.dp (by omega)), decide_eq_true (Nat.le_trans h.wt hw)⟩
/-- pairs of a sign and a number -/
def dPair (g : Str → Int) (z : Str) : PyData := .tuple [.str z, .int (g z)]
def dSwap (e : (Str × Str) × Int) : PyData := .tuple [.tuple [.str e.1.1, .str e.1.2], .int e.2]
def dTold1 (ys : List Str) (g o : Str → Int) (qs : List ((Str × Str) × Int)) : List PyData := [.tuple (ys.map PyData.str), .list (ys.map (dPair g)), .list (ys.map (dPair o)), .list (qs.map dSwap)]
theorem told1_shows {ys : List Str} {g o : Str → Int} {qs : List ((Str × Str) × Int)} (N : PrN ys ys g o qs) : isDisplay (.list (dTold1 ys g o qs)) = true ∧ (PyData.list (dTold1 ys g o qs)).showable = true ∧ (PyData.list (dTold1 ys g o qs)).hasDict = false ∧ (PyData.list (dTold1 ys g o qs)).depth ≤ 60 ∧ (PyData.list (dTold1 ys g o qs)).shown.length ≤ sizeLine := by
  have l5 := N.le
  have l100 := N.sl
  have pr : ∀ {f : Str → Int}, (∀ z ∈ ys, 1 ≤ f z ∧ f z ≤ 9) → Sm 2 300 (.list (ys.map (dPair f))) := fun {f} hf => by
    have h1 : ∀ d ∈ ys.map (dPair f), Sm 1 42 d := fun d hd => by
      obtain ⟨z, hz, rfl⟩ := List.mem_map.mp hd
      have b := hf z hz
      refine (Sm.tuple (n := 0) (w := 20) fun e he => ?_).mono (by omega) (by simp)
      rcases List.mem_cons.mp he with rfl | he
      · exact (Sm.sign (N.sg z hz)).mono (by omega) (by omega)
      · rw [List.mem_singleton.mp he]
        exact .int (by omega) (by omega)
    refine (Sm.list h1).mono (by omega) ?_
    rw [List.length_map]
    have := Nat.mul_le_mul_right 43 l5
    omega
  have sg : Sm 2 300 (.tuple (ys.map PyData.str)) := by
    refine (Sm.tuple (n := 0) (w := 1) fun d hd => ?_).mono (by omega) ?_
    · obtain ⟨z, hz, rfl⟩ := List.mem_map.mp hd
      exact .sign (N.sg z hz)
    · rw [List.length_map]; omega
  have sw : Sm 3 6000 (.list (qs.map dSwap)) := by
    have h1 : ∀ d ∈ qs.map dSwap, Sm 2 50 d := fun d hd => by
      obtain ⟨e, he, rfl⟩ := List.mem_map.mp hd
      obtain ⟨a, b, _, c1, c2⟩ := N.sp e he
      refine (Sm.tuple (n := 1) (w := 20) fun f hf => ?_).mono (by omega) (by simp)
      rcases List.mem_cons.mp hf with rfl | hf
      · refine (Sm.tuple (n := 0) (w := 1) fun f hf => ?_).mono (by omega) (by simp)
        rcases List.mem_cons.mp hf with rfl | hf
        · exact .sign (N.sg _ a)
        · rw [List.mem_singleton.mp hf]
          exact .sign (N.sg _ b)
      · rw [List.mem_singleton.mp hf]
        exact (Sm.int (by omega) (by omega)).mono (by omega) (by omega)
    refine (Sm.list h1).mono (by omega) ?_
    rw [List.length_map]
    have := Nat.mul_le_mul_right 51 l100
    omega
  have top : Sm 4 24004 (.list (dTold1 ys g o qs)) := by
    refine (Sm.list (n := 3) (w := 6000) fun d hd => ?_).mono (by omega) (by simp [dTold1])
    unfold dTold1 at hd
    rcases List.mem_cons.mp hd with rfl | hd
    · exact sg.mono (by omega) (by omega)
    rcases List.mem_cons.mp hd with rfl | hd
    · exact (pr N.pg).mono (by omega) (by omega)
    rcases List.mem_cons.mp hd with rfl | hd
    · exact (pr N.po).mono (by omega) (by omega)
    · rw [List.mem_singleton.mp hd]
      exact sw
  exact top.shows (by omega) (by decide)
/-- the text -/
theorem textP_ok : ∀ n < 6, ∀ m < 101, (PyData.str (textP n m)).canLay0 = true ∧ (textP n m).length ≤ 100 := by decide +kernel
def dTold2 (m : Int) (n : Nat) (t : Str) (bs : List Bool) : List PyData := [.int m, .int n, .str t, .list (bs.map PyData.bool)]
theorem told2_shows {m : Int} {n k : Nat} {bs : List Bool} (m0 : 0 ≤ m) (m1 : m ≤ 1000) (hn : n < 6) (hk : k < 101) (hb : bs.length ≤ 20) : isDisplay (.list (dTold2 m n (textP n k) bs)) = true ∧ (PyData.list (dTold2 m n (textP n k) bs)).showable = true ∧ (PyData.list (dTold2 m n (textP n k) bs)).hasDict = false ∧ (PyData.list (dTold2 m n (textP n k) bs)).depth ≤ 60 ∧ (PyData.list (dTold2 m n (textP n k) bs)).shown.length ≤ sizeLine := by
  have top : Sm 2 404 (.list (dTold2 m n (textP n k) bs)) := by
    refine (Sm.list (n := 1) (w := 100) fun d hd => ?_).mono (by omega) (by simp [dTold2])
    unfold dTold2 at hd
    rcases List.mem_cons.mp hd with rfl | hd
    · exact (Sm.int m0 m1).mono (by omega) (by omega)
    rcases List.mem_cons.mp hd with rfl | hd
    · exact (Sm.int (by omega) (by omega)).mono (by omega) (by omega)
    rcases List.mem_cons.mp hd with rfl | hd
    · obtain ⟨t1, t2⟩ := textP_ok n hn k hk
      exact (Sm.str t2 t1).mono (by omega) (by omega)
    · rw [List.mem_singleton.mp hd]
      refine (Sm.list (n := 0) (w := 0) fun d hd => ?_).mono (by omega) (by rw [List.length_map]; omega)
      obtain ⟨b, _, rfl⟩ := List.mem_map.mp hd
      exact .bool b
  exact top.shows (by omega) (by decide)
section
variable {K : PySem.W.Frag} {H : Hp}
theorem dpPairs {g : Str → Int} : ∀ {ts : List Addr} {ys : List Str}, Paired (fun (t : Addr) (z : Str) => H t = some (.tup [.str z, .int (g z)])) ts ys → DpAll K H (ts.map V.ref) (ys.map (dPair g))
  | _, _, .nil => .nil
  | _, _, .cons h r => .cons (.tup (.inl (.inl h)) (.cons (.str _) (.cons (.int _) .nil))) (dpPairs r)
theorem dpSwaps : ∀ {ts : List Addr} {qs : List ((Str × Str) × Int)}, Paired (fun (t : Addr) (e : (Str × Str) × Int) => ∃ q, H t = some (.tup [.ref q, .int e.2]) ∧ H q = some (.tup [.str e.1.1, .str e.1.2])) ts qs → DpAll K H (ts.map V.ref) (qs.map dSwap)
  | _, _, .nil => .nil
  | _, _, .cons ⟨q, h1, h2⟩ r => .cons (.tup (.inl (.inl h1)) (.cons (.tup (.inl (.inl h2)) (.cons (.str _) (.cons (.str _) .nil))) (.cons (.int _) .nil))) (dpSwaps r)
theorem paired_dkF {g : Str → Int} : ∀ {ts : List Addr} {ys : List Str}, Paired (fun (t : Addr) (q : Key × V) => H t = some (.tup [kV q.1, q.2])) ts (dkF ys g) → Paired (fun (t : Addr) (z : Str) => H t = some (.tup [.str z, .int (g z)])) ts ys
  | _, [], h => by cases h; exact .nil
  | _, z :: ys, h => by
    cases h with
    | cons a r => exact .cons a (paired_dkF r)
theorem paired_dtF : ∀ {ts : List Addr} {qs : List ((Str × Str) × Int)}, PairsT H ts (dtF qs) → Paired (fun (t : Addr) (e : (Str × Str) × Int) => ∃ q, H t = some (.tup [.ref q, .int e.2]) ∧ H q = some (.tup [.str e.1.1, .str e.1.2])) ts qs
  | _, [], h => by cases h; exact .nil
  | _, e :: qs, h => by
    cases h with
    | cons a r => exact .cons a (paired_dtF r)
end
/-- two least of the same numbers are one -/
theorem least_one {l l' : List Int} (h : ∀ n, n ∈ l ↔ n ∈ l') {m m' : Int} (hm : m ∈ l) (hle : ∀ y ∈ l, m ≤ y) (hm' : m' ∈ l') (hle' : ∀ y ∈ l', m' ≤ y) : m = m' :=
  Int.le_antisymm (hle _ ((h _).mpr hm')) (hle' _ ((h _).mp hm))
end MN
/-! in, not in by an own __contains__ (from SetU, for laws without sets) -/
namespace MN
open PySem PySem.Spec PyProof.Rows L2
section
variable {prog : Program} {w : World} {A : Around} {E : Value → Shared → Prop} {s : Shared} {K : PySem.W.Frag} {x C f : Addr} {ox : Obj} {od : Option Obj}
theorem contains_own {y : Value} {Q : Bool → Shared → Prop} (X : K.In s.heap) (I : PySem.W.InstAt s.heap x ox C od) (hs : PySem.W.findIn K (.ref C) "__contains__" = some (some (.ref f))) (hf : PySem.W.isFn K (.ref f) = true)
    (h : wpAny (model prog w) A (call (.ref f) [.ref x, y]) (fun v z => ∃ b, v = .bool b ∧ Q b z) E s) : wpAny (model prog w) A (contains (.ref x) y) Q E s := by
  unfold contains
  refine wpAny_holding ?_
  have hst : stdlibNamesSay? (.ref x) y = none := rfl
  rw [hst]
  dsimp only
  refine wpAny_bind (m := specialOf (.ref x) (Str.ofString "__contains__")) (wpAny_bind (I.type.here ((PySem.W.looks_findIn X hs).here ?_)))
  rw [if_neg (by intro q; cases q)]
  refine wpAny_bind (m := callSpecialUnlessNone? (.ref x) (Str.ofString "__contains__") [y] _) ?_
  unfold callSpecialUnlessNone?
  refine wpAny_bind (m := specialOf (.ref x) (Str.ofString "__contains__")) (wpAny_bind (I.type.here ((PySem.W.looks_findIn X hs).here ?_)))
  refine wpAny_holding (wpAny_bind ((PySem.W.bind_fn X _ (beq_iff_eq.mp hf)).here ?_))
  dsimp only
  rw [if_neg (by intro q; cases q)]
  refine wpAny_bind (wpAny_mono h (fun v z q => wpAny_pure ?_) fun _ _ q => q)
  obtain ⟨b, rfl, q⟩ := q
  exact wpAny_truthy_bool q
end
section
variable {X : Cx} {CX : CXT} {n : Nat} {C g : Addr} {sp : Sp} {E : XK}
def rInOwn (C : Addr) (sp : Sp) (E : XK) (neg : Bool) : V → V → Hp → VK → Prop := fun y x H Q => ∃ a dx vs, x = V.ref a ∧ SlX.Slt H a C dx vs ∧ sp [.ref a, y] H (fun z H' => ∃ b, z = .bl b ∧ Q (.bl (if neg then !b else b)) H') E
theorem op_notInOwn (hs : PySem.W.findIn X.K (.ref C) "__contains__" = some (some (.ref g))) (hf : PySem.W.isFn X.K (.ref g) = true) (F : FnR X.prog X.w X.K X.mg X.base CX n g sp) (hr : Room n X.A) (hx : Passes CX X E) : OpR X (compareOp .NotIn) (rInOwn C sp E true) := by
  intro pins s σ H y x v u Q I ry rx h
  obtain ⟨a, dx, vs, rfl, ha, q⟩ := h
  cases (show u = Value.ref a from rx)
  obtain ⟨sl, od, _, J, _⟩ := SlX.slt_inst I ha
  refine wpAny_bind (m := contains (.ref a) v) (contains_own I.kIn J hs hf (wpAny_mono (wpAny_call (run_fnR (us := [.ref a, v]) (vs := [.ref a, y]) F hr hx I (.cons rfl (.cons ry .nil)) q)) (fun w s' z => ?_) fun _ _ x => x))
  obtain ⟨z', H', I', rz, b, rfl, qz⟩ := z
  cases (show w = Value.bool b from rz)
  exact ⟨b, rfl, wpAny_pure ⟨.bl (!b), H', I', rfl, qz⟩⟩
theorem op_inOwn (hs : PySem.W.findIn X.K (.ref C) "__contains__" = some (some (.ref g))) (hf : PySem.W.isFn X.K (.ref g) = true) (F : FnR X.prog X.w X.K X.mg X.base CX n g sp) (hr : Room n X.A) (hx : Passes CX X E) : OpR X (compareOp .In) (rInOwn C sp E false) := by
  intro pins s σ H y x v u Q I ry rx h
  obtain ⟨a, dx, vs, rfl, ha, q⟩ := h
  cases (show u = Value.ref a from rx)
  obtain ⟨sl, od, _, J, _⟩ := SlX.slt_inst I ha
  refine wpAny_bind (m := contains (.ref a) v) (contains_own I.kIn J hs hf (wpAny_mono (wpAny_call (run_fnR (us := [.ref a, v]) (vs := [.ref a, y]) F hr hx I (.cons rfl (.cons ry .nil)) q)) (fun w s' z => ?_) fun _ _ x => x))
  obtain ⟨z', H', I', rz, b, rfl, qz⟩ := z
  cases (show w = Value.bool b from rz)
  exact ⟨b, rfl, wpAny_pure ⟨.bl b, H', I', rfl, qz⟩⟩
end
end MN
/-! _law_is_told -/
namespace MN
open PySem PySem.Spec PyProof.Rows L2
/-- what is told first, or due: the tuple of the signs, three lists of pairs -/
structure TdAt (K : PySem.W.Frag) (H : Hp) (ys : List Str) (g o : Str → Int) (qs : List SP2) (d1 p1 p2 p3 : Addr) (ts1 ts2 ts3 : List Addr) : Prop where
  sg : SqT K H d1 (strsV ys)
  l1 : H p1 = some (.lst (ts1.map V.ref))
  k1 : Paired (fun (t : Addr) (z : Str) => H t = some (.tup [.str z, .int (g z)])) ts1 ys
  l2 : H p2 = some (.lst (ts2.map V.ref))
  k2 : Paired (fun (t : Addr) (z : Str) => H t = some (.tup [.str z, .int (o z)])) ts2 ys
  l3 : H p3 = some (.lst (ts3.map V.ref))
  k3 : Paired (fun (t : Addr) (e : SP2) => ∃ q, H t = some (.tup [.ref q, .int e.2]) ∧ H q = some (.tup [.str e.1.1, .str e.1.2])) ts3 qs
theorem pair_same {H H' : Hp} (e : Same H H') {f : Str → Int} {ts : List Addr} {ys : List Str} (h : Paired (fun (t : Addr) (z : Str) => H t = some (.tup [.str z, .int (f z)])) ts ys) : Paired (fun (t : Addr) (z : Str) => H' t = some (.tup [.str z, .int (f z)])) ts ys := Paired.mapP h fun _ _ a => e _ _ a
theorem swap_same {H H' : Hp} (e : Same H H') {ts : List Addr} {qs : List SP2} (h : Paired (fun (t : Addr) (e : SP2) => ∃ q, H t = some (.tup [.ref q, .int e.2]) ∧ H q = some (.tup [.str e.1.1, .str e.1.2])) ts qs) : Paired (fun (t : Addr) (e : SP2) => ∃ q, H' t = some (.tup [.ref q, .int e.2]) ∧ H' q = some (.tup [.str e.1.1, .str e.1.2])) ts qs := Paired.mapP h fun _ _ a => a.imp fun _ b => ⟨e _ _ b.1, e _ _ b.2⟩
theorem TdAt.dp {K : PySem.W.Frag} {H : Hp} {ys : List Str} {g o : Str → Int} {qs : List SP2} {d1 p1 p2 p3 : Addr} {ts1 ts2 ts3 : List Addr} (h : TdAt K H ys g o qs d1 p1 p2 p3 ts1 ts2 ts3) {T : Addr} (hT : H T = some (.lst [.ref d1, .ref p1, .ref p2, .ref p3])) : Dp K H (.ref T) (.list (dTold1 ys g o qs)) :=
  .lst (SqL.of hT) (.cons (.tup h.sg (dp_strs ys)) (.cons (.lst (SqL.of h.l1) (dpPairs h.k1)) (.cons (.lst (SqL.of h.l2) (dpPairs h.k2)) (.cons (.lst (SqL.of h.l3) (dpSwaps h.k3)) .nil))))
theorem TdAt.same {K : PySem.W.Frag} {H H' : Hp} {ys : List Str} {g o : Str → Int} {qs : List SP2} {d1 p1 p2 p3 : Addr} {ts1 ts2 ts3 : List Addr} (h : TdAt K H ys g o qs d1 p1 p2 p3 ts1 ts2 ts3) (e : Same H H') : TdAt K H' ys g o qs d1 p1 p2 p3 ts1 ts2 ts3 :=
  ⟨Same.seqT e h.sg, e _ _ h.l1, pair_same e h.k1, e _ _ h.l2, pair_same e h.k2, e _ _ h.l3, swap_same e h.k3⟩
theorem PrAt.inst {C : Addr} {H : Hp} {x dx : Addr} {ys ys2 : List Str} {g o : Str → Int} {qs : List SP2} (h : PrAt C H x dx ys ys2 g o qs) : ∃ ws, SlX.Slt H x C dx ws := by
  obtain ⟨_, _, _, ws, hs, _⟩ := h
  exact ⟨ws, .inr hs⟩
def six : List Str := ["a", "b", "c", "d", "e", "f"]
def sees (ys : List Str) : List Bool := (six.map fun z => decide (z ∈ ys)) ++ List.replicate 7 false
theorem dpTold2 {K : PySem.W.Frag} {H : Hp} {T D : Addr} {m : Int} {n : Nat} {t : Str} {bs : List Bool} (h : H T = some (.lst [.int m, .int n, .str t, .ref D])) (hD : H D = some (.lst (bs.map V.bl))) : Dp K H (.ref T) (.list (dTold2 m n t bs)) :=
  .lst (SqL.of h) (.cons (.int _) (.cons (.int _) (.cons (.str _) (.cons (.lst (SqL.of hD) (dp_bls bs)) .nil))))
theorem eStr (z : Str) : Str.empty ++ z = z := by
  cases z
  show (⟨#[] ++ _⟩ : Str) = _
  rw [Array.empty_append]
section
variable {P : Program} {w : World} {K : PySem.W.Frag} {mg : Str → Option Value} {base : Heap} {Cp : Addr}
def spTold (Cp : Addr) : Sp := fun vs H Q _ => ∃ x t zs zs2 g o ps, vs = [.ref x, .ref t] ∧ StK Cp H x t zs zs2 g o ps ∧ ∀ H', Same H H' → Q (.bl true) H'
abbrev N_law_is_told : List Str := ["_law_prices", "_law_tables_here", "_law_puts", "_law_outs", "_law_swaps", "_law_told", "_law_due", "_law_sign", "_law_text"]
theorem sc_law_is_told : FnScope N_law_is_told ["_law_prices", "_law_tables_here"] (defScope (top 40)) := ⟨rfl, rfl, rfl, by decide +kernel, rfl, by decide +kernel, by decide +kernel⟩
theorem c_law_is_told (A : At K mg "_law_is_told" (top 40)) (B : Blt mg) (PD : PrD K mg Cp) (c_is_sign : Cal P w K mg base 1 "is_sign" (spIsSign K)) : CalG P w K mg base 4 "_law_is_told" (spTold Cp) := by
  obtain ⟨⟨pp1, pg1, hpp, Fp⟩, ⟨pp2, pg2, hpo, Fo⟩, ⟨pp3, pg3, hpw, Fw⟩⟩ := r_props2 (P := P) (w := w) (base := base) PD B
  obtain ⟨pp4, pg4, fd4, hps, Gs⟩ := PD.psig
  obtain ⟨pp5, pg5, fd5, hpm, Gm⟩ := PD.psml
  obtain ⟨lg, lfd, hL, fL, Gl⟩ := PD.len
  obtain ⟨sg, sfd, hT, fT, Gt⟩ := PD.st
  obtain ⟨cg, cfd, hC, fC, Gc⟩ := PD.con
  have Fs := (f_psigns (P := P) (w := w) (base := base) PD.sp Gs B).raw (FunD.bindsN (ps := ["self"]) Gs fun _ _ _ _ _ _ us hl => match us, hl with | [_], _ => rfl) .nil
  have Fm := (f_psmall (P := P) (w := w) (base := base) PD.sp Gm B).raw (FunD.bindsN (ps := ["self"]) Gm fun _ _ _ _ _ _ us hl => match us, hl with | [_], _ => rfl) .nil
  have Fl := (f_plen (P := P) (w := w) (base := base) PD.sp Gl B).raw (FunD.bindsN (ps := ["self"]) Gl fun _ _ _ _ _ _ us hl => match us, hl with | [_], _ => rfl) .nil
  have Ft := (f_pstr (P := P) (w := w) (base := base) PD.sp Gt B).raw (FunD.bindsN (ps := ["self"]) Gt fun _ _ _ _ _ _ us hl => match us, hl with | [_], _ => rfl) .nil
  have Fc := (f_has02 (P := P) (w := w) (base := base) PD.sp Gc c_is_sign).raw (FunD.bindsN (ps := ["self", "value"]) Gc fun _ _ _ _ _ _ us hl => match us, hl with | [_, _], _ => rfl) .nil
  refine calG_of A sc_law_is_told (fun _ _ _ _ _ _ us hl => match us, hl with | [_, _], _ => rfl) (fun vs H Q E h => ?_) (fun _ cdv A outer s H vs Q E gd hr h => ?_)
  · obtain ⟨_, _, _, _, _, _, _, rfl, _⟩ := h; rfl
  · obtain ⟨x, t, zs, zs2, g, o, ps, rfl, ST, hQ⟩ := h
    refine ⟨_, (pss_cons (ps_asg (pv 1) (pg_lst rfl (pgs_cons (pg_name (i := 2) sc_law_is_told.nd rfl (Or.inr rfl)) (pgs_cons (pg_name (i := 3) sc_law_is_told.nd rfl (Or.inl rfl)) (pgs_cons (pg_name (i := 4) sc_law_is_told.nd rfl (Or.inl rfl)) pgs_nil)))))
      (pss_cons (ps_set (i := 5) sc_law_is_told.nd rfl (Or.inl rfl) (pe_lst (pa_cons (SlX.pe_propSl (E := E0) (pv 0) PD.sp.sc hps.at_ hps.get hps.tak hps.rec_ Fs (hr.mono (by decide)) (fun _ _ _ _ h => h)) (pa_cons (LiI.pe_listItems rfl (SlX.pe_propSl (E := E0) (pv 0) PD.sp.sc hpp.at_ hpp.get hpp.tak hpp.rec_ Fp (hr.mono (by decide)) (fun _ _ _ _ h => h)) (by rfl) B.list (by decide +kernel)) (pa_cons (LiI.pe_listItems rfl (SlX.pe_propSl (E := E0) (pv 0) PD.sp.sc hpo.at_ hpo.get hpo.tak hpo.rec_ Fo (hr.mono (by decide)) (fun _ _ _ _ h => h)) (by rfl) B.list (by decide +kernel)) (pa_cons (pe_listItemsT rfl (SlX.pe_propSl (E := E0) (pv 0) PD.sp.sc hpw.at_ hpw.get hpw.tak hpw.rec_ Fw (hr.mono (by decide)) (fun _ _ _ _ h => h)) (by rfl) B.list (by decide +kernel)) pa_nil))))))
      (pss_cons (ps_set (i := 6) sc_law_is_told.nd rfl (Or.inl rfl) (pe_lst (pa_cons (pe_callTy call_tuple_of (by rfl) B.tuple (by decide +kernel) (pa_cons (pe_callB (call_sortedD rfl) (by rfl) B.sorted (by decide +kernel) (pa_cons (pv 2) pa_nil)) pa_nil)) (pa_cons (pe_callB (cr_sortedK rfl hr.units) (by rfl) B.sorted (by decide +kernel) (pa_cons (pe_items (pv 2)) pa_nil)) (pa_cons (pe_callB (cr_sortedK rfl hr.units) (by rfl) B.sorted (by decide +kernel) (pa_cons (pe_items (pv 3)) pa_nil)) (pa_cons (pe_callB (cr_sortedT rfl hr.units) (by rfl) B.sorted (by decide +kernel) (pa_cons (pe_items (pv 4)) pa_nil)) pa_nil))))))
      (pss_cons (ps_if (pt_cmpR op_ne (pe_callB (call_repr gd hr.units) (by rfl) B.repr (by decide +kernel) (pa_cons (pv 5) pa_nil)) (pe_callB (call_repr gd hr.units) (by rfl) B.repr (by decide +kernel) (pa_cons (pv 6) pa_nil)) (nomark _)) (pss_one (ps_ret pe_bl)) pss_nil)
      (pss_cons (ps_set (i := 5) sc_law_is_told.nd rfl (Or.inl rfl) (pe_lst (pa_cons (SlX.pe_propSl (E := E0) (pv 0) PD.sp.sc hpm.at_ hpm.get hpm.tak hpm.rec_ Fm (hr.mono (by decide)) (fun _ _ _ _ h => h)) (pa_cons (pe_callB (call_lenOwn hL fL Fl (hr.mono (by decide)) pass0) (by rfl) B.len (by decide +kernel) (pa_cons (pv 0) pa_nil)) (pa_cons (pe_callTy (call_strOwn hT fT Ft (hr.mono (by decide)) pass0) (by rfl) B.str (by decide +kernel) (pa_cons (pv 0) pa_nil)) pa_nil)))))
      (pss_cons (ps_expr (pe_bm PySem.F.plainAttrs_list PySem.F.slot_list_append PySem.F.type_list_append mt_append (pv 5) (pa_cons (pe_lc (own := [("_law_sign", 7)]) (g := gName 7) (tt := tYes) (by rfl) sc_law_is_told.nd (pi_tup (pe_tup (pa_cons pe_str (pa_cons pe_str (pa_cons pe_str (pa_cons pe_str (pa_cons pe_str (pa_cons pe_str (pa_cons pe_str (pa_cons pe_str (pa_cons pe_non (pa_cons pe_int (pa_cons (pe_tup (pa_cons pe_str pa_nil)) (pa_cons (pe_lst (pa_cons pe_str pa_nil)) (pa_cons pe_dnewK pa_nil))))))))))))))) (blkOk_by (own := [("_law_sign", 7)]) (N := N_law_is_told) (sc := defScope (top 40)) (by decide +kernel)) (fun _ _ _ _ _ => (pg_name (i := 7) sc_law_is_told.nd rfl (Or.inl rfl))) (fun _ _ _ _ _ => pts_nil) (fun _ _ _ _ _ => (pe_cmpR (op_inOwn hC fC Fc (hr.mono (by decide)) pass0) (pv 7) (pv 0) (by rfl)))) pa_nil)))
      (pss_cons (ps_set (i := 8) sc_law_is_told.nd rfl (Or.inl rfl) (pe_op op_add_str (pe_op op_add_str (pe_op op_add_str (pe_op op_add_str pe_str (pe_callTy call_str_int (by rfl) B.str (by decide +kernel) (pa_cons (pe_callB call_lenD (by rfl) B.len (by decide +kernel) (pa_cons (pv 2) pa_nil)) pa_nil))) pe_str) (pe_callTy call_str_int (by rfl) B.str (by decide +kernel) (pa_cons (pe_callB call_len_dT (by rfl) B.len (by decide +kernel) (pa_cons (pv 4) pa_nil)) pa_nil))) pe_str))
      (pss_cons (ps_set (i := 6) sc_law_is_told.nd rfl (Or.inl rfl) (pe_lst (pa_cons (pe_callB (cr_min rfl) (by rfl) B.min (by decide +kernel) (pa_cons (pe_op op_cat (pe_op op_cat (pe_listVals rfl (pv 2) (by rfl) B.list) (pe_listVals rfl (pv 3) (by rfl) B.list)) (pe_listValsT rfl (pv 4) (by rfl) B.list)) pa_nil)) (pa_cons (pe_callB call_lenD (by rfl) B.len (by decide +kernel) (pa_cons (pv 2) pa_nil)) (pa_cons (pv 8) pa_nil)))))
      (pss_cons (ps_expr (pe_bm PySem.F.plainAttrs_list PySem.F.slot_list_append PySem.F.type_list_append mt_append (pv 6) (pa_cons (pe_op op_cat (pe_lc (own := [("_law_sign", 7)]) (g := gName 7) (tt := tYes) (by rfl) sc_law_is_told.nd (pi_tup (pe_tup (pa_cons pe_str (pa_cons pe_str (pa_cons pe_str (pa_cons pe_str (pa_cons pe_str (pa_cons pe_str pa_nil)))))))) (blkOk_by (own := [("_law_sign", 7)]) (N := N_law_is_told) (sc := defScope (top 40)) (by decide +kernel)) (fun _ _ _ _ _ => (pg_name (i := 7) sc_law_is_told.nd rfl (Or.inl rfl))) (fun _ _ _ _ _ => pts_nil) (fun _ _ _ _ _ => (pe_cmp (pc_din (hu_of hr) (pv 7) (pv 2)) rfl))) (pe_op op_rep (pe_lst (pa_cons pe_bl pa_nil)) pe_int)) pa_nil)))
      (pss_one (ps_ret (pe_cmpR op_eq (pe_callB (call_repr gd hr.units) (by rfl) B.repr (by decide +kernel) (pa_cons (pv 5) pa_nil)) (pe_callB (call_repr gd hr.units) (by rfl) B.repr (by decide +kernel) (pa_cons (pv 6) pa_nil)) (nomark _))))))))))))), ?_⟩
    have one : 1 ≤ sizeLine := by decide
    have three : 3 ≤ sizeLine := by decide
    have four : 4 ≤ sizeLine := by decide
    have big : 100000 ≤ sizeLine := by decide
    obtain ⟨RC, PSx, N⟩ := id ST
    obtain ⟨RA, RB, RS, ht, hA, hB, hS⟩ := id RC
    obtain ⟨dx, ys, qs, hP, NY, pm, asc, pq, srt⟩ := id PSx
    have l5 := N.le
    have l100 := N.sl
    have ly := pm.length_eq
    have lz2 := N.pm.length_eq
    have lq := pq.length_eq
    have inst : ∀ {H' : Hp}, Same H H' → ∃ ws, SlX.Slt H' x Cp dx ws := fun e => (hP.same e).inst
    refine ⟨_, rfl, t, _, rfl, SqL.of ht, rfl, _, _, rfl, _, _, rfl, _, _, rfl, rfl, ?_⟩
    -- what is told
    obtain ⟨ws, sl⟩ := inst (Same.refl H)
    refine ⟨_, rfl, x, dx, ws, rfl, sl, x, dx, ys, ys, g, o, qs, rfl, hP, fun d1 H1 e1 u1 => ?_⟩
    obtain ⟨ws, sl⟩ := inst e1
    refine ⟨_, rfl, x, dx, ws, rfl, sl, x, dx, ys, ys, g, o, qs, rfl, hP.same e1, NY, fun d2 H2 f2 e2 u2 => ⟨d2, _, rfl, u2, fun H3 p1 ts1 e3 f3 _ _ h3 pr3 => ?_⟩⟩
    have e13 : Same H H3 := (e1.trans e2).trans e3
    obtain ⟨ws, sl⟩ := inst e13
    refine ⟨_, rfl, x, dx, ws, rfl, sl, x, dx, ys, ys, g, o, qs, rfl, hP.same e13, NY, fun d4 H4 f4 e4 u4 => ⟨d4, _, rfl, u4, fun H5 p2 ts2 e5 f5 _ _ h5 pr5 => ?_⟩⟩
    have e45 : Same H3 H5 := e4.trans e5
    have e15 : Same H H5 := e13.trans e45
    obtain ⟨ws, sl⟩ := inst e15
    refine ⟨_, rfl, x, dx, ws, rfl, sl, x, dx, ys, ys, g, o, qs, rfl, hP.same e15, NY, fun d6 H6 f6 e6 u6 => ⟨d6, _, rfl, u6, fun H7 p3 ts3 e7 f7 h7 pr7 => ⟨four, fun T1 hT1 => ?_⟩⟩⟩
    have e67 : Same H5 H7 := e6.trans e7
    have TD : TdAt K H7 ys g o qs d1 p1 p2 p3 ts1 ts2 ts3 := ⟨Same.seqT ((e2.trans e3).trans (e45.trans e67)) u1, e67 _ _ (e45 _ _ h3), pair_same (e45.trans e67) (paired_dkF pr3), e67 _ _ h5, pair_same e67 (paired_dkF pr5), h7, paired_dtF pr7⟩
    have e8 := same_new (o := .lst [.ref d1, .ref p1, .ref p2, .ref p3]) hT1
    have uT1 : upd H7 T1 (.lst [.ref d1, .ref p1, .ref p2, .ref p3]) T1 = some (.lst [.ref d1, .ref p1, .ref p2, .ref p3]) := upd_same
    have TD8 := TD.same e8
    have e18 := (e15.trans e67).trans e8
    generalize upd H7 T1 (.lst [.ref d1, .ref p1, .ref p2, .ref p3]) = H8 at TD8 uT1 e18 ⊢
    clear e8 TD e67 e45 e15 e13 u1 u2 u4 u6 h3 h5 h7 pr3 pr5 pr7 hT1 e1 e2 e3 e4 e5 e6 e7 f2 f3 f4 f5 f6 f7 sl
    -- what is due
    refine ⟨_, rfl, RA, _, zs, rfl, .inl (e18 _ _ hA), dkF_keys zs g, by omega, fun ys2 q hys hso hq => ⟨q, _, rfl, .inl ⟨SqL.of upd_same, fun Tt hTt => ?_⟩⟩⟩
    obtain rfl : ys2 = ys := pairwise_one (R := fun a b : Str => sL a < sL b) (fun a b h q => List.lt_asymm h q) (sorted_sL (fun z hz => N.sg z (hys.mem_iff.mp hz)) (hys.nodup_iff.mpr N.nd) hso) asc fun z => by rw [hys.mem_iff, pm.mem_iff]
    have e9 := e18.trans ((same_new (o := .lst (ys2.map V.str)) hq).trans (same_new (o := .tup (ys2.map V.str)) hTt))
    have k9 : Same H8 (upd (upd H8 q (.lst (ys2.map V.str))) Tt (.tup (ys2.map V.str))) := (same_new (o := .lst (ys2.map V.str)) hq).trans (same_new (o := .tup (ys2.map V.str)) hTt)
    have uTt : upd (upd H8 q (.lst (ys2.map V.str))) Tt (.tup (ys2.map V.str)) Tt = some (.tup (ys2.map V.str)) := upd_same
    generalize upd (upd H8 q (.lst (ys2.map V.str))) Tt (.tup (ys2.map V.str)) = H9 at e9 k9 uTt ⊢
    refine ⟨_, rfl, RA, rfl, .inl ⟨_, e9 _ _ hA⟩, fun r hr1 => ⟨r, RA, zs, g, rfl, upd_same, same_new hr1 _ _ (e9 _ _ hA), by omega, fun H10 q1 rs1 e10 f10 h10 pr10 => ?_⟩⟩
    rw [sorted_oneK pm N.nd g asc] at pr10
    have k10 : Same H9 H10 := (same_new hr1).trans e10
    have e910 := e9.trans k10
    refine ⟨_, rfl, RB, rfl, .inl ⟨_, e910 _ _ hB⟩, fun r hr2 => ⟨r, RB, zs2, o, rfl, upd_same, same_new hr2 _ _ (e910 _ _ hB), by omega, fun H11 q2 rs2 e11 f11 h11 pr11 => ?_⟩⟩
    rw [sorted_oneK (pm.trans N.pm.symm) (N.pm.nodup_iff.mpr N.nd) o asc] at pr11
    have k11 : Same H10 H11 := (same_new hr2).trans e11
    have e911 := e910.trans k11
    refine ⟨_, rfl, RS, rfl, .inr ⟨_, e911 _ _ hS⟩, fun r hr3 => ⟨r, RS, ps, rfl, upd_same, same_new hr3 _ _ (e911 _ _ hS), by omega, fun H12 q3 rs3 e12 f12 h12 pr12 => ⟨four, fun T2 hT2 => ?_⟩⟩⟩
    rw [sorted_oneT pq N.sn srt] at pr12
    have k12 : Same H11 H12 := (same_new hr3).trans e12
    have TE' : TdAt K H12 ys2 g o qs Tt q1 q2 q3 rs1 rs2 rs3 := ⟨.inl (.inl (k12 _ _ (k11 _ _ (k10 _ _ uTt)))), k12 _ _ (k11 _ _ h10), pair_same (k11.trans k12) pr10, k12 _ _ h11, pair_same k12 pr11, h12, pr12⟩
    have e13 := same_new (o := .lst [.ref Tt, .ref q1, .ref q2, .ref q3]) hT2
    have uT2 : upd H12 T2 (.lst [.ref Tt, .ref q1, .ref q2, .ref q3]) T2 = some (.lst [.ref Tt, .ref q1, .ref q2, .ref q3]) := upd_same
    have TE13 := TE'.same e13
    have k813 : Same H8 (upd H12 T2 (.lst [.ref Tt, .ref q1, .ref q2, .ref q3])) := (((k9.trans k10).trans k11).trans k12).trans e13
    have e113 := e18.trans k813
    have TD13 := TD8.same k813
    have uT13 := k813 _ _ uT1
    generalize upd H12 T2 (.lst [.ref Tt, .ref q1, .ref q2, .ref q3]) = H13 at TE13 uT2 e113 TD13 uT13 ⊢
    clear TE' TD8 uT1 e18 k813 e13 k12 k11 k10 k9 e9 e910 e911 pr10 pr11 pr12 h10 h11 h12 uTt hTt hq hT2 f10 f11 f12 e10 e11 e12 hr1 hr2 hr3
    have sh := told1_shows NY
    refine ⟨_, rfl, .ref T1, _, rfl, TD13.dp uT13, sh.1, sh.2.1, sh.2.2.1, sh.2.2.2.1, sh.2.2.2.2, _, rfl, .ref T2, _, rfl, TE13.dp uT2, sh.1, sh.2.1, sh.2.2.1, sh.2.2.2.1, sh.2.2.2.2, rfl, _, rfl, ?_⟩
    rw [show (!decide (V.str (PyData.list (dTold1 ys2 g o qs)).shown = V.str (PyData.list (dTold1 ys2 g o qs)).shown)) = false by simp]
    refine iteF ?_
    clear sh TD13 TE13 uT13 uT2 hys hso
    -- the second
    obtain ⟨ws, sl⟩ := inst e113
    refine ⟨_, rfl, x, dx, ws, rfl, sl, x, dx, ys2, ys2, g, o, qs, rfl, hP.same e113, NY, fun m H14 e14 hm hle => ?_⟩
    have e114 := e113.trans e14
    obtain ⟨ws, sl⟩ := inst e114
    refine ⟨_, rfl, x, dx, ws, rfl, sl, x, dx, ys2, ys2, g, o, qs, rfl, hP.same e114, ys2.length, rfl, by omega, by omega, ?_⟩
    refine ⟨_, rfl, x, dx, ws, rfl, sl, x, dx, ys2, ys2, g, o, qs, rfl, hP.same e114, NY, _, rfl, three, fun T3 hT3 => ?_⟩
    have e15 := same_new (o := .lst [.int m, .int ys2.length, .str (textP ys2.length qs.length)]) hT3
    have uT3 : upd H14 T3 (.lst [.int m, .int ys2.length, .str (textP ys2.length qs.length)]) T3 = some (.lst [.int m, .int ys2.length, .str (textP ys2.length qs.length)]) := upd_same
    have e115 := e114.trans e15
    have fT3 : H T3 = none := e114.free hT3
    generalize upd H14 T3 (.lst [.int m, .int ys2.length, .str (textP ys2.length qs.length)]) = H15 at uT3 e115 ⊢
    clear e15 e14 hT3
    refine ⟨_, rfl, .inl ⟨rfl, _, SqL.of uT3⟩, one, fun a1 ha1 => ⟨one, fun a2 ha2 => fun a3 ha3 => ⟨(show 13 ≤ sizeLine by decide), fun Tv hTv => ⟨Tv, rfl, ⟨_, .inl (.inl upd_same)⟩, fun D hD => ?_⟩⟩⟩⟩
    have w1 : upd H15 a1 (.tup [.str "a"]) a1 = some (.tup [.str "a"]) := upd_same
    have k1 := same_new (o := .tup [.str "a"]) ha1
    generalize upd H15 a1 (.tup [.str "a"]) = H16 at w1 k1 ha2 ha3 hTv hD ⊢
    have w2 : upd H16 a2 (.lst [.str "a"]) a2 = some (.lst [.str "a"]) := upd_same
    have k2 := same_new (o := .lst [.str "a"]) ha2
    generalize upd H16 a2 (.lst [.str "a"]) = H17 at w2 k2 ha3 hTv hD ⊢
    have w3 : upd H17 a3 (.dK []) a3 = some (.dK []) := upd_same
    have k3 := same_new (o := .dK []) ha3
    generalize upd H17 a3 (.dK []) = H18 at w3 k3 hTv hD ⊢
    have w4 : upd H18 Tv (.tup [.str "a", .str "b", .str "c", .str "d", .str "e", .str "f", .str "", .str "ab", .non, .int 0, .ref a1, .ref a2, .ref a3]) Tv = some (.tup [.str "a", .str "b", .str "c", .str "d", .str "e", .str "f", .str "", .str "ab", .non, .int 0, .ref a1, .ref a2, .ref a3]) := upd_same
    have k4 := same_new (o := .tup [.str "a", .str "b", .str "c", .str "d", .str "e", .str "f", .str "", .str "ab", .non, .int 0, .ref a1, .ref a2, .ref a3]) hTv
    generalize upd H18 Tv (.tup [.str "a", .str "b", .str "c", .str "d", .str "e", .str "f", .str "", .str "ab", .non, .int 0, .ref a1, .ref a2, .ref a3]) = H19 at w4 k4 hD ⊢
    have k1519 : Same H15 H19 := ((k1.trans k2).trans k3).trans k4
    have e119 := e115.trans k1519
    have w1' := k4 _ _ (k3 _ _ (k2 _ _ w1))
    have w2' := k4 _ _ (k3 _ _ w2)
    have w3' := k4 _ _ w3
    refine lc_tplE (.inl (.inl w4)) hD (show 13 ≤ 1000000 by decide) (fun _ => true) (fun v => .bl (hasP ys2 v)) (fun x _ => by kernel_rfl) (fun x _ H2 e2 Q q => q _ (Same.refl _)) (fun v hv _ H20 e20 Q q => ?_) (fun H20 e20 h20 => ?_)
    · have vok : ValOk K H20 v := by
        have st : ∀ z : Str, z.length ≤ 100000 → ValOk K H20 (.str z) := fun z h => .str h
        rcases List.mem_cons.mp hv with rfl | hv
        · exact st _ (by decide)
        rcases List.mem_cons.mp hv with rfl | hv
        · exact st _ (by decide)
        rcases List.mem_cons.mp hv with rfl | hv
        · exact st _ (by decide)
        rcases List.mem_cons.mp hv with rfl | hv
        · exact st _ (by decide)
        rcases List.mem_cons.mp hv with rfl | hv
        · exact st _ (by decide)
        rcases List.mem_cons.mp hv with rfl | hv
        · exact st _ (by decide)
        rcases List.mem_cons.mp hv with rfl | hv
        · exact st _ (by decide)
        rcases List.mem_cons.mp hv with rfl | hv
        · exact st _ (by decide)
        rcases List.mem_cons.mp hv with rfl | hv
        · exact .inr ⟨(fun z q => by cases q), IsX.ty (a := "NoneType") (.base .non) (by decide +kernel)⟩
        rcases List.mem_cons.mp hv with rfl | hv
        · exact .inr ⟨(fun z q => by cases q), IsX.ty (a := "int") (.base (.int 0)) (by decide +kernel)⟩
        rcases List.mem_cons.mp hv with rfl | hv
        · exact .inr ⟨(fun z q => by cases q), IsX.ty (a := "tuple") (.base (.tup (e20 _ _ w1'))) (by decide +kernel)⟩
        rcases List.mem_cons.mp hv with rfl | hv
        · exact .inr ⟨(fun z q => by cases q), IsX.ty (a := "list") (.base (.lst (e20 _ _ w2'))) (by decide +kernel)⟩
        rcases List.mem_cons.mp hv with rfl | hv
        · exact .inr ⟨(fun z q => by cases q), IsX.ty (a := "dict") (.base (.dK (e20 _ _ w3'))) (by decide +kernel)⟩
        cases hv
      have e120 := e119.trans e20
      obtain ⟨ws, sl⟩ := inst e120
      exact ⟨_, rfl, _, rfl, x, dx, ws, rfl, sl, x, dx, ys2, ys2, g, o, qs, v, rfl, hP.same e120, NY, vok, _, rfl, q _ (Same.refl _)⟩
    have o1 : decide ((("" : Str)) ∈ ys2) = false := decide_eq_false fun q => by have := len_one (NY.sg _ q); revert this; decide
    have o2 : decide ((("ab" : Str)) ∈ ys2) = false := decide_eq_false fun q => by have := len_one (NY.sg _ q); revert this; decide
    have hbs : (([V.str "a", .str "b", .str "c", .str "d", .str "e", .str "f", .str "", .str "ab", .non, .int 0, .ref a1, .ref a2, .ref a3].filter fun _ => true).map fun v => V.bl (hasP ys2 v)) = (sees ys2).map V.bl := by
      rw [filter_all]
      simp only [List.map_cons, List.map_nil, hasP, o1, o2]
      rfl
    rw [hbs] at h20
    have k20 := k1519.trans e20
    have nDT : D ≠ T3 := (ne_of_none (k1519 _ _ uT3) hD).symm
    refine ⟨T3, _, _, rfl, rfl, k20 _ _ uT3, (show 3 < sizeLine by decide), ?_⟩
    have e121 : Same H (upd H20 T3 (.lst ([.int m, .int ys2.length, .str (textP ys2.length qs.length)] ++ [.ref D]))) := fun b u z => by
      rw [upd_ne (fun y => by rw [y, fT3] at z; cases z)]; exact k20 _ _ (e115 _ _ z)
    have v3 : upd H20 T3 (.lst ([.int m, .int ys2.length, .str (textP ys2.length qs.length)] ++ [.ref D])) T3 = some (.lst [.int m, .int ys2.length, .str (textP ys2.length qs.length), .ref D]) := upd_same
    have vD : upd H20 T3 (.lst ([.int m, .int ys2.length, .str (textP ys2.length qs.length)] ++ [.ref D])) D = some (.lst ((sees ys2).map V.bl)) := by rw [upd_ne nDT]; exact h20
    generalize upd H20 T3 (.lst ([.int m, .int ys2.length, .str (textP ys2.length qs.length)] ++ [.ref D])) = H21 at e121 v3 vD ⊢
    clear h20 k20 e20 hD k1519 e119 w1 w2 w3 w4 w1' w2' w3' k1 k2 k3 k4 ha1 ha2 ha3 hTv uT3 e115 hbs
    -- the text
    have la : (dkF zs g).length = ys2.length := by simp [dkF]; omega
    have lb : (dtF ps).length = qs.length := by simp [dtF]; omega
    have g1 := log_small (n := ys2.length) (by omega)
    have g2 := log_small (n := qs.length) (by omega)
    have t1 := int_text_len_1921 g1
    have t2 := int_text_len_1921 g2
    have c0 : ("prices of " : Str).length = 10 := by decide +kernel
    have c1 : (" signs, " : Str).length = 8 := by decide +kernel
    have c2 : (" swaps" : Str).length = 6 := by decide +kernel
    refine ⟨_, rfl, RA, _, rfl, e121 _ _ hA, ?_⟩
    rw [la]
    refine ⟨_, rfl, g1, _, _, rfl, rfl, by rw [c0]; omega, _, _, rfl, rfl, by rw [strLen_app, c0, c1]; omega, _, rfl, RS, _, rfl, e121 _ _ hS, ?_⟩
    rw [lb]
    refine ⟨_, rfl, g2, _, _, rfl, rfl, by rw [strLen_app, strLen_app, c0, c1]; omega, _, _, rfl, rfl, by rw [strLen_app, strLen_app, strLen_app, c0, c1, c2]; omega, ?_⟩
    have tx : (((("prices of " : Str) ++ Str.ofString (toString (ys2.length : Int))) ++ " signs, ") ++ Str.ofString (toString (qs.length : Int))) ++ " swaps" = textP ys2.length qs.length := by unfold textP; rw [eStr]
    rw [tx]
    -- the due numbers
    refine ⟨_, rfl, RA, _, rfl, e121 _ _ hA, fun l1 hl1 => ?_⟩
    have j1 := same_new (o := .lst ((dkF zs g).map (·.2))) hl1
    have x1 : upd H21 l1 (.lst ((dkF zs g).map (·.2))) l1 = some (.lst ((dkF zs g).map (·.2))) := upd_same
    generalize upd H21 l1 (.lst ((dkF zs g).map (·.2))) = H22 at j1 x1 ⊢
    refine ⟨_, rfl, RB, _, rfl, j1 _ _ (e121 _ _ hB), fun l2 hl2 => ?_⟩
    have j2 := same_new (o := .lst ((dkF zs2 o).map (·.2))) hl2
    have x2 : upd H22 l2 (.lst ((dkF zs2 o).map (·.2))) l2 = some (.lst ((dkF zs2 o).map (·.2))) := upd_same
    have x1' := j2 _ _ x1
    generalize upd H22 l2 (.lst ((dkF zs2 o).map (·.2))) = H23 at j2 x2 x1' ⊢
    refine ⟨l1, l2, _, _, rfl, rfl, x1', x2, by simp only [dkF, List.length_map]; omega, fun l3 hl3 => ?_⟩
    have q12 : (dkF zs g).map (·.2) ++ (dkF zs2 o).map (·.2) = (zs.map g ++ zs2.map o).map V.int := by unfold dkF; simp only [List.map_append, List.map_map]; rfl
    rw [q12]
    have j3 := same_new (o := .lst ((zs.map g ++ zs2.map o).map V.int)) hl3
    have x3 : upd H23 l3 (.lst ((zs.map g ++ zs2.map o).map V.int)) l3 = some (.lst ((zs.map g ++ zs2.map o).map V.int)) := upd_same
    have j123 := (j1.trans j2).trans j3
    generalize upd H23 l3 (.lst ((zs.map g ++ zs2.map o).map V.int)) = H24 at j123 x3 ⊢
    refine ⟨_, rfl, RS, _, rfl, j123 _ _ (e121 _ _ hS), fun l4 hl4 => ?_⟩
    have j4 := same_new (o := .lst ((dtF ps).map (·.2))) hl4
    have x4 : upd H24 l4 (.lst ((dtF ps).map (·.2))) l4 = some (.lst ((dtF ps).map (·.2))) := upd_same
    have x3' := j4 _ _ x3
    generalize upd H24 l4 (.lst ((dtF ps).map (·.2))) = H25 at j4 x4 x3' ⊢
    refine ⟨l3, l4, _, _, rfl, rfl, x3', x4, by simp only [dtF, List.length_map, List.length_append]; omega, fun l5' hl5 => ?_⟩
    have q34 : (zs.map g ++ zs2.map o).map V.int ++ (dtF ps).map (·.2) = (allN zs zs2 g o ps).map V.int := by unfold allN dtF; simp only [List.map_append, List.map_map]; rfl
    rw [q34]
    have j5 := same_new (o := .lst ((allN zs zs2 g o ps).map V.int)) hl5
    have x5 : upd H25 l5' (.lst ((allN zs zs2 g o ps).map V.int)) l5' = some (.lst ((allN zs zs2 g o ps).map V.int)) := upd_same
    have j15 := (j123.trans j4).trans j5
    generalize upd H25 l5' (.lst ((allN zs zs2 g o ps).map V.int)) = H26 at j15 x5 ⊢
    refine ⟨l5', _, rfl, SqL.of x5, by unfold allN; simp only [List.length_append, List.length_map]; have := N.pos; omega, fun m' hm' hle' => ?_⟩
    obtain rfl : m' = m := (least_one (fun n => by
      unfold allN
      simp only [List.mem_append, List.mem_map]
      constructor
      · rintro ((⟨a, b, c⟩ | ⟨a, b, c⟩) | ⟨a, b, c⟩)
        · exact .inl (.inl ⟨a, pm.mem_iff.mp b, c⟩)
        · exact .inl (.inr ⟨a, N.pm.mem_iff.mpr (pm.mem_iff.mp b), c⟩)
        · exact .inr ⟨a, pq.mem_iff.mp b, c⟩
      · rintro ((⟨a, b, c⟩ | ⟨a, b, c⟩) | ⟨a, b, c⟩)
        · exact .inl (.inl ⟨a, pm.mem_iff.mpr b, c⟩)
        · exact .inl (.inr ⟨a, pm.mem_iff.mpr (N.pm.mem_iff.mp b), c⟩)
        · exact .inr ⟨a, pq.mem_iff.mpr b, c⟩) hm hle hm' hle').symm
    have e126 := e121.trans j15
    refine ⟨_, rfl, RA, _, rfl, e126 _ _ hA, ?_⟩
    rw [la]
    refine ⟨_, rfl, three, fun T4 hT4 => ?_⟩
    have j6 := same_new (o := .lst [.int m', .int ys2.length, .str (textP ys2.length qs.length)]) hT4
    have x6 : upd H26 T4 (.lst [.int m', .int ys2.length, .str (textP ys2.length qs.length)]) T4 = some (.lst [.int m', .int ys2.length, .str (textP ys2.length qs.length)]) := upd_same
    have k27 := j15.trans j6
    have fT4 : H21 T4 = none := j15.free hT4
    generalize upd H26 T4 (.lst [.int m', .int ys2.length, .str (textP ys2.length qs.length)]) = H27 at k27 x6 ⊢
    clear j1 j2 j3 j4 j5 j6 j15 j123 x1 x2 x3 x4 x5 x1' x3' hl1 hl2 hl3 hl4 hl5 hT4 e126
    have e127 := e121.trans k27
    refine ⟨_, rfl, .inl ⟨rfl, _, SqL.of x6⟩, (show 6 ≤ sizeLine by decide), fun Tv hTv => ⟨Tv, rfl, ⟨_, .inl (.inl upd_same)⟩, fun D2 hD2 => ?_⟩⟩
    have w4 : upd H27 Tv (.tup [.str "a", .str "b", .str "c", .str "d", .str "e", .str "f"]) Tv = some (.tup [.str "a", .str "b", .str "c", .str "d", .str "e", .str "f"]) := upd_same
    have k4 := same_new (o := .tup [.str "a", .str "b", .str "c", .str "d", .str "e", .str "f"]) hTv
    generalize upd H27 Tv (.tup [.str "a", .str "b", .str "c", .str "d", .str "e", .str "f"]) = H28 at w4 k4 hD2 ⊢
    refine lc_tplE (.inl (.inl w4)) hD2 (show 6 ≤ 1000000 by decide) (fun _ => true) (fun v => .bl (hasP ys2 v)) (fun x _ => by kernel_rfl) (fun x _ H2 e2 Q q => q _ (Same.refl _)) (fun v hv _ H29 e29 Q q => ?_) (fun H29 e29 h29 => ?_)
    · obtain ⟨z, rfl⟩ : ∃ z, v = .str z := by
        simp only [List.mem_cons, List.not_mem_nil, or_false] at hv
        rcases hv with rfl | rfl | rfl | rfl | rfl | rfl <;> exact ⟨_, rfl⟩
      have hA29 := e29 _ _ (k4 _ _ (e127 _ _ hA))
      have q' := q _ (Same.refl _)
      by_cases hz : z ∈ zs
      · have : hasP ys2 (.str z) = true := decide_eq_true (pm.mem_iff.mpr hz)
        simp only [this] at q'
        exact ⟨_, rfl, _, rfl, RA, some (.int (g z)), rfl, .inl ⟨_, .inr z, .inl hA29, rfl, (dkF_val N.nd g hz).symm⟩, q'⟩
      · have : hasP ys2 (.str z) = false := decide_eq_false fun q => hz (pm.mem_iff.mp q)
        simp only [this] at q'
        exact ⟨_, rfl, _, rfl, RA, none, rfl, .inl ⟨_, .inr z, .inl hA29, rfl, (dkF_no g hz).symm⟩, q'⟩
    have h6 : (([V.str "a", .str "b", .str "c", .str "d", .str "e", .str "f"].filter fun _ => true).map fun v => V.bl (hasP ys2 v)) = (six.map fun z => decide (z ∈ ys2)).map V.bl := by
      rw [filter_all]
      rfl
    rw [h6] at h29
    have k29 := k4.trans e29
    refine ⟨one, fun l6 hl6 => ?_⟩
    have j7 := same_new (o := .lst [.bl false]) hl6
    have x7 : upd H29 l6 (.lst [.bl false]) l6 = some (.lst [.bl false]) := upd_same
    have h29' := j7 _ _ h29
    generalize upd H29 l6 (.lst [.bl false]) = H30 at j7 x7 h29' ⊢
    refine ⟨l6, 7, _, rfl, rfl, x7, by decide, by decide, (show 1 * 7 ≤ sizeLine by decide), fun l7 hl7 => ?_⟩
    have j8 := same_new (o := .lst (List.replicate (7 : Int).toNat [V.bl false]).flatten) hl7
    have x8 : upd H30 l7 (.lst (List.replicate (7 : Int).toNat [V.bl false]).flatten) l7 = some (.lst ((List.replicate 7 false).map V.bl)) := upd_same
    have h29'' := j8 _ _ h29'
    generalize upd H30 l7 (.lst (List.replicate (7 : Int).toNat [V.bl false]).flatten) = H31 at j8 x8 h29'' ⊢
    refine ⟨D2, l7, _, _, rfl, rfl, h29'', x8, (show 6 + 7 ≤ sizeLine by decide), fun l8 hl8 => ?_⟩
    rw [← List.map_append]
    have j9 := same_new (o := .lst ((sees ys2).map V.bl)) hl8
    have x9 : upd H31 l8 (.lst ((sees ys2).map V.bl)) l8 = some (.lst ((sees ys2).map V.bl)) := upd_same
    have k2731 := k29.trans ((j7.trans j8).trans j9)
    refine ⟨T4, _, _, rfl, rfl, k2731 _ _ x6, (show 3 < sizeLine by decide), ?_⟩
    change Same H27 (upd H31 l8 (.lst ((sees ys2).map V.bl))) at k2731
    have n8 : l8 ≠ T4 := (ne_of_none (j8 _ _ (j7 _ _ (k29 _ _ x6))) hl8).symm
    have x9' : upd (upd H31 l8 (.lst ((sees ys2).map V.bl))) T4 (.lst ([.int m', .int ys2.length, .str (textP ys2.length qs.length)] ++ [.ref l8])) l8 = some (.lst ((sees ys2).map V.bl)) := by rw [upd_ne n8]; exact x9
    have x10 : upd (upd H31 l8 (.lst ((sees ys2).map V.bl))) T4 (.lst ([.int m', .int ys2.length, .str (textP ys2.length qs.length)] ++ [.ref l8])) T4 = some (.lst [.int m', .int ys2.length, .str (textP ys2.length qs.length), .ref l8]) := upd_same
    have k32 : Same H21 (upd (upd H31 l8 (.lst ((sees ys2).map V.bl))) T4 (.lst ([.int m', .int ys2.length, .str (textP ys2.length qs.length)] ++ [.ref l8]))) := fun b u z => by
      rw [upd_ne (fun y => by rw [y, fT4] at z; cases z)]; exact k2731 _ _ (k27 _ _ z)
    have y3 := k32 _ _ v3
    have yD := k32 _ _ vD
    have e132 := e121.trans k32
    have mb : 0 ≤ m' ∧ m' ≤ 1000 := by
      unfold allN at hm'
      simp only [List.mem_append, List.mem_map] at hm'
      rcases hm' with (⟨a, b, c⟩ | ⟨a, b, c⟩) | ⟨a, b, c⟩
      · have := N.pg a b; omega
      · have := N.po a (N.pm.mem_iff.mp b); omega
      · have := N.sp a b; omega
    have sh := told2_shows (m := m') (n := ys2.length) (k := qs.length) (bs := sees ys2) mb.1 mb.2 (by omega) (by omega) (by show 6 + 7 ≤ 20; decide)
    refine ⟨_, rfl, .ref T3, _, rfl, dpTold2 y3 yD, sh.1, sh.2.1, sh.2.2.1, sh.2.2.2.1, sh.2.2.2.2, _, rfl, .ref T4, _, rfl, dpTold2 x10 x9', sh.1, sh.2.1, sh.2.2.1, sh.2.2.2.1, sh.2.2.2.2, rfl, ?_⟩
    rw [show decide (V.str (PyData.list (dTold2 m' ys2.length (textP ys2.length qs.length) (sees ys2))).shown = V.str (PyData.list (dTold2 m' ys2.length (textP ys2.length qs.length) (sees ys2))).shown) = true by simp]
    exact hQ _ e132
end
end MN
/-! xs[::-1] of a list; d.clear() -/
namespace MN
open PySem PySem.Spec PyProof.Rows L2
theorem range_back (n : Nat) : sliceRange ((n : Int) - 1) (-1) (-1) = (List.range n).map fun k => n - 1 - k := by
  have c : (if (-1 : Int) > 0 then (if ((n : Int) - 1) < -1 then (-1 - ((n : Int) - 1) + -1 - 1) / (-1) else 0) else (if ((n : Int) - 1) > -1 then (((n : Int) - 1) - -1 - -1 - 1) / (- -1) else 0)).toNat = n := by
    rw [if_neg (by decide)]
    by_cases h : n = 0
    · subst h; rfl
    · rw [if_pos (by omega), Int.neg_neg, Int.ediv_one]
      omega
  show (List.range (Int.toNat _)).map _ = _
  rw [c]
  refine List.map_congr_left fun k hk => ?_
  have := List.mem_range.mp hk
  omega
theorem pick_revL (xs : Array Value) : slicePick xs none none (some (-1)) = xs.toList.reverse.toArray := by
  have hb : sliceBounds none none (some (-1)) xs.size = ((xs.size : Int) - 1, -1, -1) := rfl
  unfold slicePick
  rw [hb, range_back]
  congr 1
  rw [List.filterMap_map]
  have e : ∀ k ∈ List.range xs.size, ((fun (j : Nat) => xs[j]?) ∘ fun k => xs.size - 1 - k) k = some (xs.toList.reverse.getD k .none) := by
    intro k hk
    have hk : k < xs.size := List.mem_range.mp hk
    have hl : k < xs.toList.reverse.length := by simpa using hk
    show xs[xs.size - 1 - k]? = _
    rw [List.getD_eq_getElem?_getD, List.getElem?_eq_getElem hl, List.getElem_reverse]
    rw [Array.getElem?_eq_getElem (by omega)]
    simp
  rw [filterMap_some e]
  apply List.ext_getElem?
  intro i
  rw [List.getElem?_map]
  by_cases hi : i < xs.size
  · rw [List.getElem?_range hi]
    have hl : i < xs.toList.reverse.length := by simpa using hi
    simp only [Option.map_some]
    rw [List.getD_eq_getElem?_getD, List.getElem?_eq_getElem hl]
    simp
  · rw [List.getElem?_eq_none (by simpa using hi), List.getElem?_eq_none (by simpa using hi)]
    rfl
section
variable {X : Cx}
def tRevL (K : PySem.W.Frag) (te : TE) : TE := fun σ H Q => te σ H fun x H1 => ∃ a xs, x = .ref a ∧ SqL K H1 a xs ∧ ∀ p, H1 p = none → Q (.ref p) (upd H1 p (.lst xs.reverse))
theorem pe_revL {K : PySem.W.Frag} (hK : X.K = K) {e : Expr} {te : TE} {k : Nat} {p1 p2 p3 pos : Pos} (he : PE X e te) : PE X (.Subscript e (.Slice none none (some (.UnaryOp .USub (.Constant (.int 1) k p1) p2)) p3) pos) (tRevL K te) := by
  subst hK
  refine ⟨fun pins s σ H Q I h => ?_⟩
  refine Subscript_ (thn (he.run pins s σ H _ I h) fun v s1 ⟨x, H1, I1, r1, a, xs, ex, hx, q⟩ => ?_)
  subst ex
  cases r1
  have hst : PO X (some (.UnaryOp .USub (.Constant (.int 1) k p1) p2)) (tPart (tUn (rU fun i => .int (-i)) (tC (.int 1)))) := po_some (pe_un un_neg pe_int)
  refine wpAny_Slice (thn (po_none.run pins s1 σ H1 (fun o H2 => o = none ∧ H2 = H1) I1 ⟨rfl, rfl⟩) fun vl s2 ⟨l, H2, I2, pl, el, e2⟩ => ?_)
  cases el
  cases e2
  refine thn (po_none.run pins s2 σ H1 (fun o H3 => o = none ∧ H3 = H1) I2 ⟨rfl, rfl⟩) fun vu s3 ⟨u, H3, I3, pu, eu, e3⟩ => ?_
  cases eu
  cases e3
  refine thn (hst.run pins s3 σ H1 (fun o H4 => o = some (-1) ∧ H4 = H1) I3 ⟨1, rfl, -1, rfl, rfl, rfl⟩) fun vs s4 ⟨o, H4, I4, ps, eo, e4⟩ => ?_
  cases eo
  cases e4
  cases pl
  cases pu
  have I5 : Inv X pins σ H1 { s4 with heap := s4.heap.push { cls := .type "slice", data := .fields #[.none, .none, vs] } } := I4.kept (t' := s4.toks) fun b ob q => Heap.get?_push_of_some _ q
  obtain ⟨its, r, ht, hz⟩ := I5.list hx
  have hlen := r.length
  show wpAny (model X.prog X.w) X.A (subscriptTail e (.Slice none none (some (.UnaryOp .USub (.Constant (.int 1) k p1) p2)) p3) (.ref a) (.ref s4.heap.objs.size)) (EP X pins σ Q) X.xe { s4 with heap := s4.heap.push { cls := .type "slice", data := .fields #[.none, .none, vs] } }
  refine tail_any (ops := [.ref a, .ref s4.heap.objs.size]) ht.isList.typeIs slot_list_getitem.lookup ?_ (by with_unfolding_all rfl)
  refine wpAny_getItem_list_slice ht.isList (Heap.IsSliceOf.new _ .none .none vs) .none .none ps (by decide) ?_ (by rw [List.size_toArray]; omega)
  rw [pick_revL]
  refine ⟨.ref _, _, I5.laid (t' := s4.toks) (o := .lst xs.reverse) (fun b ob q => Heap.get?_push_of_some _ q) (Nat.le_refl _) ?_, rfl, q _ (I5.hok.fresh (Nat.le_refl _))⟩
  exact ⟨by rw [List.length_reverse]; exact hz, _, 0, r.reverse, Heap.get?_push_size _ rfl⟩
def rDClr : V → List V → Hp → VK → Prop := fun x vs H Q => ∃ (a : Addr) (kvs : List (Key × V)), x = .ref a ∧ vs = [] ∧ H a = some (.dK kvs) ∧ Q .non (upd H a (.dK []))
theorem mtd_clr : MtR X "dict.clear" rDClr := by
  intro pins s σ H x vs v us Q I rx rv h
  obtain ⟨a, kvs, ex, ev, e, q⟩ := h
  subst ex
  subst ev
  obtain rfl : v = Value.ref a := rx
  have hus := rv.zero
  subst hus
  exact d_clear I e fun s' I' => ⟨.non, _, I', rfl, q⟩
end
theorem Paired.snoc' {α β : Type} {F : α → β → Prop} {a : α} {b : β} : ∀ {xs : List α} {ys : List β}, Paired F xs ys → F a b → Paired F (xs ++ [a]) (ys ++ [b])
  | _, _, .nil, h => .cons h .nil
  | _, _, .cons x r, h => .cons x (Paired.snoc' r h)
theorem Paired.rev {α β : Type} {F : α → β → Prop} : ∀ {xs : List α} {ys : List β}, Paired F xs ys → Paired F xs.reverse ys.reverse
  | _, _, .nil => .nil
  | _, _, .cons x r => by
    rw [List.reverse_cons, List.reverse_cons]
    exact Paired.snoc' (Paired.rev r) x
/-! ### equal dicts -/
theorem find_self {κ : Type} [DecidableEq κ] {ls : List (κ × Int)} (nd : (ls.map (·.1)).Nodup) {p : κ × Int} (h : p ∈ ls) : (ls.find? fun x => decide (x.1 = p.1)).map (·.2) = some p.2 := by
  induction ls with
  | nil => cases h
  | cons a ls ih =>
    rw [List.map_cons, List.nodup_cons] at nd
    rw [List.find?_cons]
    by_cases e : a.1 = p.1
    · simp only [e, decide_true]
      rcases List.mem_cons.mp h with q | q
      · rw [q]; rfl
      · exact absurd (show a.1 ∈ ls.map (·.1) by rw [e]; exact List.mem_map.mpr ⟨p, q, rfl⟩) nd.1
    · simp only [e, decide_false]
      rcases List.mem_cons.mp h with q | q
      · exact absurd (by rw [q]) e
      · exact ih nd.2 q
theorem eqKv_self {κ : Type} [DecidableEq κ] {ls : List (κ × Int)} (nd : (ls.map (·.1)).Nodup) : eqKv ls ls = true := by
  unfold eqKv
  rw [Bool.and_eq_true]
  exact ⟨by simp, List.all_eq_true.mpr fun p hp => decide_eq_true (find_self nd hp)⟩
theorem eqKv_ne {κ : Type} [DecidableEq κ] {ks ls : List (κ × Int)} (nd : (ls.map (·.1)).Nodup) {k : κ} {m n : Int} (h1 : (k, m) ∈ ks) (h2 : (k, n) ∈ ls) (ne : m ≠ n) : eqKv ks ls = false := by
  unfold eqKv
  rw [Bool.and_eq_false_iff]
  refine .inr (List.all_eq_false.mpr ⟨_, h1, ?_⟩)
  have := find_self nd h2
  simp only at this ⊢
  rw [this]
  simpa using fun e => ne e.symm
theorem kI_nd {ys : List Str} (nd : ys.Nodup) (g : Str → Int) : ((kI ys g).map (·.1)).Nodup := by
  unfold kI
  rw [List.map_map]
  exact nodup_map (fun a b e => Sum.inr.inj e) nd
theorem kT_nd {qs : List ((Str × Str) × Int)} (nd : (qs.map Prod.fst).Nodup) : ((kT qs).map (·.1)).Nodup := by
  have := dtF_nodup nd
  unfold dtF at this
  unfold kT
  rw [List.map_map] at this ⊢
  exact this
theorem eqPr_self {ys : List Str} {g o : Str → Int} {qs : List ((Str × Str) × Int)} (N : PrN ys ys g o qs) : eqPr ys ys g o qs ys ys g o qs = true := by
  unfold eqPr
  rw [eqKv_self (kI_nd N.nd g), eqKv_self (kI_nd N.nd o), eqKv_self (kT_nd N.sn)]
  rfl
theorem eqPr_out {ys : List Str} {g o o' : Str → Int} {qs qs' : List ((Str × Str) × Int)} (nd : ys.Nodup) {z : Str} (hz : z ∈ ys) (ne : o z ≠ o' z) : eqPr ys ys g o qs ys ys g o' qs' = false := by
  have h1 : eqKv (kI ys o) (kI ys o') = false := eqKv_ne (kI_nd nd o') (k := .inr z) (m := o z) (n := o' z) (List.mem_map.mpr ⟨z, hz, rfl⟩) (List.mem_map.mpr ⟨z, hz, rfl⟩) ne
  unfold eqPr
  rw [h1, Bool.false_and, Bool.and_false]
end MN
/-! _law_is_apart -/
namespace MN
open PySem PySem.Spec PyProof.Rows L2
theorem PrN.rev {zs zs2 : List Str} {g o : Str → Int} {ps : List SP2} (N : PrN zs zs2 g o ps) (ys : List Str) (pm : ys.Perm zs) (qs : List SP2) (pq : qs.Perm ps) : PrN ys.reverse ys.reverse g o qs.reverse :=
  N.perm ((List.reverse_perm ys).trans pm) ((List.reverse_perm ys).trans pm) ((List.reverse_perm qs).trans pq)
section
variable {P : Program} {w : World} {K : PySem.W.Frag} {mg : Str → Option Value} {base : Heap} {Cp : Addr}
abbrev N_law_is_apart : List Str := ["_law_prices", "_law_tables_here", "_law_one", "_law_two", "_law_three", "_law_other", "_law_table", "_law_sign"]
theorem sc_law_is_apart : FnScope N_law_is_apart ["_law_prices", "_law_tables_here"] (defScope (top 41)) := ⟨rfl, rfl, rfl, by decide +kernel, rfl, by decide +kernel, by decide +kernel⟩
theorem c_law_is_apart (A : At K mg "_law_is_apart" (top 41)) (B : Blt mg) (PD : PrD K mg Cp) (GL : GlP mg) (c_kic : Cal P w K mg base 3 "is_kind_of_change" (spKic K)) (c_is_price : Cal P w K mg base 2 "is_price" (spIsPrice K)) (c_are_prices2 : Cal P w K mg base 3 "are_prices" spAreP2)
    (c_law_made : Cal P w K mg base 6 "_law_made" (spMade02 Cp)) (c_law_is_told : CalG P w K mg base 4 "_law_is_told" (spTold Cp)) : CalG P w K mg base 7 "_law_is_apart" (spTold Cp) := by
  obtain ⟨gw, hW, Fw⟩ := r_pwith (P := P) (w := w) (base := base) PD B GL c_kic c_is_price c_are_prices2
  obtain ⟨⟨pp1, pg1, hpp, Fp⟩, ⟨pp2, pg2, hpo, Fo⟩, ⟨pp3, pg3, hpw, Fz⟩⟩ := r_props2 (P := P) (w := w) (base := base) PD B
  obtain ⟨ge, fde, hE, fE, Ge⟩ := PD.eq
  have bE := FunD.bindsN (ps := ["self", "other"]) Ge fun _ _ _ _ _ _ us hl => match us, hl with | [_, _], _ => rfl
  have Fq := f_peqA (P := P) (w := w) (base := base) PD Ge B
  refine calG_of A sc_law_is_apart (fun _ _ _ _ _ _ us hl => match us, hl with | [_, _], _ => rfl) (fun vs H Q E h => ?_) (fun _ cdv A outer s H vs Q E gd hr h => ?_)
  · obtain ⟨_, _, _, _, _, _, _, rfl, _⟩ := h; rfl
  · obtain ⟨x, t, zs, zs2, g, o, ps, rfl, ST, hQ⟩ := h
    refine ⟨_, (pss_cons (ps_par3 (i := 2) (j := 3) (l := 4) (by rfl) sc_law_is_apart.nd rfl rfl rfl (by decide) (by decide) (by decide) rfl rfl rfl (pa_cons (SlX.pe_propSl (E := E0) (pv 0) PD.sp.sc hpp.at_ hpp.get hpp.tak hpp.rec_ Fp (hr.mono (by decide)) (fun _ _ _ _ h => h)) (pa_cons (SlX.pe_propSl (E := E0) (pv 0) PD.sp.sc hpo.at_ hpo.get hpo.tak hpo.rec_ Fo (hr.mono (by decide)) (fun _ _ _ _ h => h)) (pa_cons (SlX.pe_propSl (E := E0) (pv 0) PD.sp.sc hpw.at_ hpw.get hpw.tak hpw.rec_ Fz (hr.mono (by decide)) (fun _ _ _ _ h => h)) pa_nil))) (by rfl))
      (pss_cons (ps_expr (pe_bm0 PySem.F.plainAttrs_dict PySem.F.slot_dict_clear PySem.F.type_dict_clear mtd_clr (pv 2)))
      (pss_cons (ps_asg pe_int (pg_sub (pv 3) pe_str (set_dict (hu_of hr))))
      (pss_cons (ps_asg pe_int (pg_sub (pv 4) (pe_tup (pa_cons pe_str (pa_cons pe_str pa_nil))) (set_dict (hu_of hr))))
      (pss_cons (ps_set (i := 5) sc_law_is_apart.nd rfl (Or.inl rfl) (pe_c c_law_made hr (by decide) (by rfl) (pa_cons (pe_lc (own := [("_law_table", 6)]) (g := gName 6) (tt := tYes) (by rfl) sc_law_is_apart.nd (pi_list (pv 1)) (blkOk_by (own := [("_law_table", 6)]) (N := N_law_is_apart) (sc := defScope (top 41)) (by decide +kernel)) (fun _ _ _ _ _ => (pg_name (i := 6) sc_law_is_apart.nd rfl (Or.inl rfl))) (fun _ _ _ _ _ => pts_nil) (fun _ _ _ _ _ => pe_or2 (pe_callTy (call_dictPK (K := K) rfl rfl) (by rfl) B.dict (by decide +kernel) (pa_cons (pe_revL (K := K) rfl (pe_callB (cr_sortedK rfl hr.units) (by rfl) B.sorted (by decide +kernel) (pa_cons (pe_items (pv 6)) pa_nil))) pa_nil)) (pe_callTy (call_dictPT rfl hr.units) (by rfl) B.dict (by decide +kernel) (pa_cons (pe_revL (K := K) rfl (pe_callB (cr_sortedT rfl hr.units) (by rfl) B.sorted (by decide +kernel) (pa_cons (pe_items (pv 6)) pa_nil))) pa_nil)))) pa_nil)))
      (pss_cons (ps_if (PW.pt (pw_or (pt_not (pt_cmpR (op_eqOwn Fq (hr.mono (by decide)) hE fE bE pass0) (pv 0) (pv 5) (nomark _))) (pw_or (pt_cmpR (op_neOwn Fq (hr.mono (by decide)) hE fE bE pass0 PD.ne PD.ob) (pv 0) (pv 5) (nomark _)) (pw_or (pt_not (pt_cmpR (op_eqOwn Fq (hr.mono (by decide)) hE fE bE pass0) (pv 5) (pv 0) (nomark _))) (pw_or (pt_cmpR (op_eqOwn Fq (hr.mono (by decide)) hE fE bE pass0) (pv 0) (pv 1) (nomark _)) (pw_or1 (pt_cmpR (op_eqOwn Fq (hr.mono (by decide)) hE fE bE pass0) (pv 0) pe_int (nomark _)))))))) (pss_one (ps_ret pe_bl)) pss_nil)
      (pss_cons (ps_set (i := 7) sc_law_is_apart.nd rfl (Or.inl rfl) (pe_ix ix_list (pe_callB (call_sortedD rfl) (by rfl) B.sorted (by decide +kernel) (pa_cons (pe_ix ix_list (pv 1) pe_int (fun _ _ => rfl)) pa_nil)) pe_int (fun _ _ => rfl)))
      (pss_cons (ps_set (i := 5) sc_law_is_apart.nd rfl (Or.inl rfl) (SlX.pe_methSl (E := E0) (pv 0) PD.sp.sc hW Fw (hr.mono (by decide)) pass0 (pa_cons (pe_tup (pa_cons pe_str (pa_cons (pv 7) pa_nil))) (pa_cons (pe_op op_add pe_int (pe_op op_mod (pe_callTy call_int1 (by rfl) B.int (by decide +kernel) (pa_cons (pe_dget (hu_of hr) (pe_ix ix_list (pv 1) pe_int (fun _ _ => rfl)) (pv 7) (fun _ _ => rfl)) pa_nil)) pe_int)) pa_nil))))
      (pss_one (ps_ret (pe_and (pe_cmpR (op_neOwn Fq (hr.mono (by decide)) hE fE bE pass0 PD.ne PD.ob) (pv 0) (pv 5) (nomark _)) (pe_and (pe_not (pe_cmpR (op_eqOwn Fq (hr.mono (by decide)) hE fE bE pass0) (pv 0) (pv 5) (nomark _))) (pe_and (pe_cmpR (op_neOwn Fq (hr.mono (by decide)) hE fE bE pass0 PD.ne PD.ob) (pv 5) (pv 0) (nomark _)) (pe_one (pe_cG c_law_is_told gd hr (by decide) (by rfl) (pa_cons (pv 0) (pa_cons (pv 1) pa_nil))))))))))))))))), ?_⟩
    have two : 2 ≤ sizeLine := by decide
    have big : 1000 < sizeLine := by decide
    obtain ⟨RC, PSx, N⟩ := id ST
    obtain ⟨RA, RB, RS, ht, hA, hB, hS⟩ := id RC
    obtain ⟨dx, ys, qs, hP, NY, pm, asc, pq, srt⟩ := id PSx
    have l5 := N.le
    have l100 := N.sl
    have ly := pm.length_eq
    have lz2 := N.pm.length_eq
    have lq := pq.length_eq
    have inst : ∀ {H' : Hp}, Same H H' → ∃ ws, SlX.Slt H' x Cp dx ws := fun e => (hP.same e).inst
    -- what is told is another dict
    obtain ⟨ws, sl⟩ := inst (Same.refl H)
    refine ⟨_, rfl, x, dx, ws, rfl, sl, x, dx, ys, ys, g, o, qs, rfl, hP, NY, fun d1 H1 f1 e1 u1 => ?_⟩
    obtain ⟨ws, sl⟩ := inst e1
    refine ⟨_, rfl, x, dx, ws, rfl, sl, x, dx, ys, ys, g, o, qs, rfl, hP.same e1, NY, fun d2 H2 f2 e2 u2 => ?_⟩
    have e12 : Same H H2 := e1.trans e2
    obtain ⟨ws, sl⟩ := inst e12
    refine ⟨_, rfl, x, dx, ws, rfl, sl, x, dx, ys, ys, g, o, qs, rfl, hP.same e12, NY, fun d3 H3 f3 e3 u3 => ⟨_, _, _, rfl, ?_⟩⟩
    have e13 : Same H H3 := e12.trans e3
    have h1 := e3 _ _ (e2 _ _ u1)
    have h2 := e3 _ _ u2
    have n12 : d1 ≠ d2 := ne_of_none u1 f2
    have n13 : d1 ≠ d3 := ne_of_none (e2 _ _ u1) f3
    have n23 : d2 ≠ d3 := ne_of_none u2 f3
    have g1 : H d1 = none := f1
    have g2 : H d2 = none := e1.free f2
    have g3 : H d3 = none := e12.free f3
    refine ⟨_, rfl, .inr (.inr (.inl ⟨rfl, .inl ⟨_, h1⟩⟩)), d1, _, rfl, rfl, h1, ?_⟩
    have e4 : Same H (upd H3 d1 (.dK [])) := fun b u q => by rw [upd_ne (fun z => by rw [z, g1] at q; cases q)]; exact e13 _ _ q
    have k2 : upd H3 d1 (.dK []) d2 = some (.dK (dkF ys o)) := by rw [upd_ne n12.symm]; exact h2
    have k3 : upd H3 d1 (.dK []) d3 = some (.dT (dtF qs)) := by rw [upd_ne n13.symm]; exact u3
    generalize upd H3 d1 (.dK []) = H4 at e4 k2 k3 ⊢
    refine ⟨_, rfl, d2, _, rfl, .inl ⟨_, .inr "a", k2, rfl, by simp only [dkF, List.length_map]; omega, rfl⟩, ?_⟩
    generalize putK (dkF ys o) (.inr "a") (.int 77) = D2
    have e5 : Same H (upd H4 d2 (.dK D2)) := fun b u q => by rw [upd_ne (fun z => by rw [z, g2] at q; cases q)]; exact e4 _ _ q
    have k4 : upd H4 d2 (.dK D2) d3 = some (.dT (dtF qs)) := by rw [upd_ne n23.symm]; exact k3
    generalize upd H4 d2 (.dK D2) = H5 at e5 k4 ⊢
    refine ⟨_, rfl, two, fun T hT => ?_⟩
    refine ⟨d3, _, rfl, .inr ⟨_, [.inr "a", .inr "b"], T, same_new hT _ _ k4, rfl, upd_same, by simp only [dtF, List.length_map]; omega, rfl⟩, ?_⟩
    generalize putK (dtF qs) [.inr "a", .inr "b"] (.int 99) = D3
    have e6 : Same H (upd (upd H5 T (.tup [.str "a", .str "b"])) d3 (.dT D3)) := fun b u q => by rw [upd_ne (fun z => by rw [z, g3] at q; cases q)]; exact same_new hT _ _ (e5 _ _ q)
    generalize upd (upd H5 T (.tup [.str "a", .str "b"])) d3 (.dT D3) = H6 at e6 ⊢
    clear e1 e2 e3 e4 e5 e12 e13 k2 k3 k4 u1 u2 u3 f1 f2 f3 g1 g2 g3 h1 h2 hT sl
    -- the same prices of other dicts
    refine ⟨_, rfl, t, rfl, ⟨_, SqL.of (e6 _ _ ht)⟩, fun D hD => ?_⟩
    have nd2 := N.pm.nodup_iff.mpr N.nd
    refine lc_newF walk_list [.ref RA, .ref RB, .ref RS] rfl (by show 3 ≤ 1000; decide) (fun _ _ _ _ _ y => y) hD (fun H' e => SqL.of (e _ _ (e6 _ _ ht))) (fun _ _ => by kernel_rfl) (fun k v H' => (k = 0 → H' v = some (.dK (dkF ys.reverse g))) ∧ (k = 1 → H' v = some (.dK (dkF ys.reverse o))) ∧ (k = 2 → H' v = some (.dT (dtF qs.reverse))) ∧ ∃ u, H' v = some u)
      (fun k v _ _ up n r => ⟨fun e => up _ _ n (r.1 e), fun e => up _ _ n (r.2.1 e), fun e => up _ _ n (r.2.2.1 e), r.2.2.2.elim fun u h => ⟨u, up _ _ n h⟩⟩) (fun _ _ _ r => r.2.2.2) (fun i y hy H7 e7 _ Q' q' => ?_) (fun H7 qs' e7 u7 nq nD lq' r7 => ?_)
    · have one : ∀ {d : Addr} {us : List Str} {h : Str → Int}, us.Nodup → us.length ≤ 1000 → ys.Perm us → H7 d = some (.dK (dkF us h)) → (∀ q H8, H7 q = none → Same H7 H8 → H8 q = some (.dK (dkF ys.reverse h)) → Q' (.ref q) H8) → ∃ d', V.ref d = .ref d' ∧ ((∃ kvs, H7 d' = some (.dK kvs)) ∨ ∃ kvs, H7 d' = some (.dT kvs)) ∧ ∀ r, H7 r = none → rSortK [.ref r] (upd H7 r (ViewO r d')) fun x H1 => ∃ a xs, x = .ref a ∧ SqL K H1 a xs ∧ ∀ p, H1 p = none → rDictPK K [.ref p] (upd H1 p (.lst xs.reverse)) Q' := fun {d us h} nd l1000 pmu hd q => by
        refine ⟨d, rfl, .inl ⟨_, hd⟩, fun r hr1 => ⟨r, d, us, h, rfl, upd_same, same_new hr1 _ _ hd, l1000, fun H8 q1 rs1 e8 f8 h8 pr8 => ?_⟩⟩
        rw [sorted_oneK pmu nd h asc] at pr8
        refine ⟨q1, _, rfl, SqL.of h8, fun a ha => ?_⟩
        rw [← List.map_reverse]
        refine ⟨a, rs1.reverse, dkF ys.reverse h, rfl, SqL.of upd_same, ?_, fun p hp => ?_⟩
        · refine paired_map_r (fun z => ((Sum.inr z : Key), V.int (h z))) (Paired.mapP (Paired.rev pr8) fun _ _ y => .inl (.inl (same_new ha _ _ y)))
        · have ndr : ys.reverse.Nodup := (List.reverse_perm ys).nodup_iff.mpr NY.nd
          rw [show mergeK [] (dkF ys.reverse h) = dkF ys.reverse h from mergeK_nodup (more := dkF ys.reverse h) [] (dkF_nodup ndr h)]
          have s8 : Same H7 H8 := (same_new hr1).trans e8
          exact q p _ (s8.free ((same_new ha).free hp)) (s8.trans ((same_new ha).trans (same_new hp))) upd_same
      match i, hy with
      | 0, hy =>
        cases hy
        refine .inl ⟨_, rfl, one N.nd (by omega) pm (e7 _ _ (e6 _ _ hA)) fun q H8 fq s8 hq => q' q H8 fq s8 ⟨fun _ => hq, fun e => absurd e (by decide), fun e => absurd e (by decide), _, hq⟩⟩
      | 1, hy =>
        cases hy
        refine .inl ⟨_, rfl, one nd2 (by omega) (pm.trans N.pm.symm) (e7 _ _ (e6 _ _ hB)) fun q H8 fq s8 hq => q' q H8 fq s8 ⟨fun e => absurd e (by decide), fun _ => hq, fun e => absurd e (by decide), _, hq⟩⟩
      | 2, hy =>
        cases hy
        refine .inr ⟨_, rfl, RS, rfl, .inr ⟨_, e7 _ _ (e6 _ _ hS)⟩, fun r hr1 => ⟨r, RS, ps, rfl, upd_same, same_new hr1 _ _ (e7 _ _ (e6 _ _ hS)), by omega, fun H8 q1 rs1 e8 f8 h8 pr8 => ?_⟩⟩
        rw [sorted_oneT pq N.sn srt] at pr8
        refine ⟨q1, _, rfl, SqL.of h8, fun a ha => ?_⟩
        rw [← List.map_reverse]
        have ndr : (qs.reverse.map Prod.fst).Nodup := ((List.reverse_perm qs).map Prod.fst).nodup_iff.mpr NY.sn
        refine ⟨a, rs1.reverse, dtF qs.reverse, rfl, upd_same, ?_, dtF_nodup ndr, fun p hp => ?_⟩
        · exact paired_map_r (fun e : SP2 => (([Sum.inr e.1.1, Sum.inr e.1.2] : List Key), V.int e.2)) (Paired.mapP (Paired.rev pr8) fun _ _ y => y.imp fun _ b => ⟨same_new ha _ _ b.1, same_new ha _ _ b.2⟩)
        · have s8 : Same H7 H8 := (same_new hr1).trans e8
          exact q' p _ (s8.free ((same_new ha).free hp)) (s8.trans ((same_new ha).trans (same_new hp))) ⟨fun e => absurd e (by decide), fun e => absurd e (by decide), fun _ => upd_same, _, upd_same⟩
      | i + 3, hy => cases hy
    obtain ⟨q0, q1, q2, rfl⟩ : ∃ a b c, qs' = [a, b, c] := by
      match qs', lq' with
      | [a, b, c], _ => exact ⟨a, b, c, rfl⟩
    have x0 := (r7 0 q0 rfl).1 rfl
    have x1 := (r7 1 q1 rfl).2.1 rfl
    have x2 := (r7 2 q2 rfl).2.2.1 rfl
    have k7 := e6.trans e7
    clear r7 nq nD hD
    refine ⟨D, ys.reverse, ys.reverse, g, o, qs.reverse, rfl, ⟨q0, q1, q2, u7, x0, x1, x2⟩, N.rev ys pm qs pq, fun y H8 e8 P2 => ?_⟩
    obtain ⟨dy, ys', qs', hP', NY', pm', asc', pq', srt'⟩ := P2
    obtain rfl : ys' = ys := pairwise_one (R := fun a b : Str => sL a < sL b) (fun a b h q => List.lt_asymm h q) asc' asc fun z => by rw [pm'.mem_iff, List.mem_reverse]
    obtain rfl : qs' = qs := pairwise_one (R := fun a b : SP2 => kLt a.1 b.1) (fun a b => kLt_asym a.1 b.1) srt' srt fun z => by rw [pq'.mem_iff, List.mem_reverse]
    have k8 := k7.trans e8
    clear x0 x1 u7 e7 e6 k7 e8
    have e8' : eqPr ys' ys' g o qs' ys' ys' g o qs' = true := eqPr_self NY
    obtain ⟨ws, sl⟩ := inst k8
    obtain ⟨ws', sl'⟩ := hP'.inst
    have hP8 := hP.same k8
    have ht8 := k8 _ _ ht
    refine ⟨_, rfl, _, rfl, x, dx, ws, .ref Cp, rfl, sl, .inr (.inr ⟨y, Cp, dy, ws', rfl, sl', rfl⟩), PD.nfp, ?_⟩
    refine ⟨x, dx, ys', ys', g, o, qs', .ref y, rfl, hP8, .inl ⟨y, dy, _, _, _, _, _, rfl, hP', _, rfl, ?_⟩⟩
    rw [e8']
    refine ⟨_, rfl, iteF ?_⟩
    refine ⟨_, rfl, _, rfl, x, dx, ws, .ref Cp, rfl, sl, .inr (.inr ⟨y, Cp, dy, ws', rfl, sl', rfl⟩), PD.nfp, x, dx, ys', ys', g, o, qs', .ref y, rfl, hP8, .inl ⟨y, dy, _, _, _, _, _, rfl, hP', _, rfl, ?_⟩⟩
    rw [e8']
    refine ⟨_, rfl, iteF ?_⟩
    refine ⟨_, rfl, _, rfl, y, dy, ws', .ref Cp, rfl, sl', .inr (.inr ⟨x, Cp, dx, ws, rfl, sl, rfl⟩), PD.nfp, y, dy, ys', ys', g, o, qs', .ref x, rfl, hP', .inl ⟨x, dx, _, _, _, _, _, rfl, hP8, _, rfl, ?_⟩⟩
    rw [e8']
    refine ⟨_, rfl, iteF ?_⟩
    refine ⟨_, rfl, _, rfl, x, dx, ws, .type "list", rfl, sl, .inr (.inl ⟨t, _, rfl, SqL.of ht8, rfl⟩), PD.nfl, x, dx, ys', ys', g, o, qs', .ref t, rfl, hP8, .inr ⟨.type "list", .inl rfl, ?tyL, _, rfl, ?_⟩⟩
    case tyL => exact .base (.lst ht8)
    refine ⟨_, rfl, iteF ?_⟩
    refine ⟨_, rfl, x, dx, ws, .type "int", rfl, sl, .inl ⟨0, rfl, rfl⟩, PD.nfi, x, dx, ys', ys', g, o, qs', .int 0, rfl, hP8, .inr ⟨.type "int", .inr rfl, ?tyI, _, rfl, ?_⟩⟩
    case tyI => exact .base (.int 0)
    refine ⟨_, rfl, iteF ?_⟩
    -- a price more or less
    refine ⟨_, rfl, t, _, _, _, rfl, rfl, SqL.of ht8, rfl, RA, _, zs, rfl, .inl (k8 _ _ hA), dkF_keys zs g, by omega, fun zs' q hys hso hq => ?_⟩
    obtain ⟨z, rest, rfl⟩ : ∃ z rest, zs' = z :: rest := by
      cases zs' with
      | nil => have := hys.length_eq; have := N.pos; simp at *; omega
      | cons z rest => exact ⟨z, rest, rfl⟩
    have hz : z ∈ zs := hys.mem_iff.mp List.mem_cons_self
    refine ⟨q, _, 0, .str z, rfl, rfl, SqL.of upd_same, atI_nat (j := 0) rfl, ?_⟩
    have k9 := same_new (o := .lst ((z :: rest).map V.str)) hq
    generalize upd H8 q (.lst ((z :: rest).map V.str)) = H9 at k9 ⊢
    have k10 := k8.trans k9
    obtain ⟨ws9, sl9⟩ := inst k10
    refine ⟨_, rfl, x, dx, ws9, rfl, sl9, _, rfl, two, fun T hT => ?_⟩
    have k11 := k9.trans (same_new (o := .tup [.str "out", .str z]) hT)
    have u11 : upd H9 T (.tup [.str "out", .str z]) T = some (.tup [.str "out", .str z]) := upd_same
    have k12 := k8.trans k11
    generalize upd H9 T (.tup [.str "out", .str z]) = H11 at k11 u11 k12 ⊢
    have ob := N.po z hz
    refine ⟨_, rfl, t, _, _, .ref RB, rfl, rfl, SqL.of (k12 _ _ ht), rfl, _, rfl, RB, .int (o z), rfl, .inl ⟨_, .inr z, .inl (k12 _ _ hB), rfl, (dkF_val nd2 o (N.pm.mem_iff.mpr hz)).symm⟩, ?_⟩
    refine .inl ⟨_, rfl, _, _, rfl, rfl, (show (0 : Int) < 9 by decide), _, _, rfl, rfl, ?_⟩
    have nb : 1 ≤ 1 + o z % 9 ∧ 1 + o z % 9 ≤ 9 ∧ o z ≠ 1 + o z % 9 := by omega
    refine ⟨x, T, _, zs, g, o, ps, rfl, PSx.same k12, .inr (.inl ⟨z, 1 + o z % 9, .inl (.inl u11), rfl, hz, nb.1, nb.2.1, fun y2 H12 e12 P2 => ?_⟩)⟩
    obtain ⟨dy2, ys2, qs2, hP2, NY2, pm2, asc2, pq2, srt2⟩ := P2
    obtain rfl : ys2 = ys' := pairwise_one (R := fun a b : Str => sL a < sL b) (fun a b h q => List.lt_asymm h q) asc2 asc fun z => by rw [pm2.mem_iff, pm.mem_iff]
    obtain ⟨ws2, sl2⟩ := hP2.inst
    have k13 := k12.trans e12
    obtain ⟨ws13, sl13⟩ := inst k13
    have hP13 := hP.same k13
    have hzy : z ∈ ys2 := pm.mem_iff.mpr hz
    have pz : putG o z (1 + o z % 9) z = 1 + o z % 9 := if_pos rfl
    have f1 : eqPr ys2 ys2 g o qs' ys2 ys2 g (putG o z (1 + o z % 9)) qs2 = false := eqPr_out NY.nd hzy (by rw [pz]; exact nb.2.2)
    have f2 : eqPr ys2 ys2 g (putG o z (1 + o z % 9)) qs2 ys2 ys2 g o qs' = false := eqPr_out NY.nd hzy (by rw [pz]; exact fun q => nb.2.2 q.symm)
    refine ⟨_, rfl, _, rfl, x, dx, ws13, .ref Cp, rfl, sl13, .inr (.inr ⟨y2, Cp, dy2, ws2, rfl, sl2, rfl⟩), PD.nfp, x, dx, ys2, ys2, g, o, qs', .ref y2, rfl, hP13, .inl ⟨y2, dy2, _, _, _, _, _, rfl, hP2, _, rfl, ?_⟩⟩
    rw [f1]
    refine ⟨_, rfl, iteT ?_⟩
    refine ⟨_, rfl, _, rfl, x, dx, ws13, .ref Cp, rfl, sl13, .inr (.inr ⟨y2, Cp, dy2, ws2, rfl, sl2, rfl⟩), PD.nfp, x, dx, ys2, ys2, g, o, qs', .ref y2, rfl, hP13, .inl ⟨y2, dy2, _, _, _, _, _, rfl, hP2, _, rfl, ?_⟩⟩
    rw [f1]
    refine ⟨_, rfl, _, rfl, iteT ?_⟩
    refine ⟨_, rfl, _, rfl, y2, dy2, ws2, .ref Cp, rfl, sl2, .inr (.inr ⟨x, Cp, dx, ws13, rfl, sl13, rfl⟩), PD.nfp, y2, dy2, ys2, ys2, g, _, qs2, .ref x, rfl, hP2, .inl ⟨x, dx, _, _, _, _, _, rfl, hP13, _, rfl, ?_⟩⟩
    rw [f2]
    refine ⟨_, rfl, iteT ?_⟩
    exact ⟨_, rfl, _, rfl, x, t, zs, zs2, g, o, ps, rfl, ST.same k13, fun H14 e14 => hQ _ (k13.trans e14)⟩
end
end MN
/-! _law_right -/
namespace MN
open PySem PySem.Spec PyProof.Rows L2
/-- the elder prices and records, each pair in a list of its own -/
def Olds (Cp : Addr) (H : Hp) (es : List Addr) : Prop := ∀ e ∈ es, ∃ x t zs zs2 g o ps, H e = some (.lst [.ref x, .ref t]) ∧ StK Cp H x t zs zs2 g o ps
theorem Olds.ex {Cp p : Addr} {H H' : Hp} {es : List Addr} (h : Olds Cp H es) (ex : Ex p H H') (hp : Pot H p) : Olds Cp H' es := fun e he => by
  obtain ⟨x, t, zs, zs2, g, o, ps, h1, h2⟩ := h e he
  exact ⟨x, t, zs, zs2, g, o, ps, ex.refs (bs := [x, t]) hp h1, h2.ex ex hp⟩
theorem Olds.same {Cp : Addr} {H H' : Hp} {es : List Addr} (h : Olds Cp H es) (ex : Same H H') : Olds Cp H' es := fun e he => by
  obtain ⟨x, t, zs, zs2, g, o, ps, h1, h2⟩ := h e he
  exact ⟨x, t, zs, zs2, g, o, ps, ex _ _ h1, h2.same ex⟩
theorem Olds.lst {Cp : Addr} {H : Hp} {es : List Addr} (h : Olds Cp H es) : ∀ e ∈ es, ∃ xs, H e = some (.lst xs) := fun e he => by
  obtain ⟨x, t, zs, zs2, g, o, ps, h1, h2⟩ := h e he
  exact ⟨_, h1⟩
theorem StK.putL {Cp : Addr} {H : Hp} {x t L : Addr} {zs zs2 : List Str} {g o : Str → Int} {ps : List SP2} {es : List Addr} {u : HO} (h : StK Cp H x t zs zs2 g o ps) (hL : H L = some (.lst (es.map V.ref))) (he : ∀ e ∈ es, ∃ xs, H e = some (.lst xs)) : StK Cp (upd H L u) x t zs zs2 g o ps := by
  obtain ⟨⟨A, B, S, h1, h2, h3, h4⟩, ⟨dx, ys, qs, ⟨PA, PB, PS, ws, hs, w1, w0, w2, nAB, hA, hB, hS⟩, h5⟩, h6⟩ := h
  have nK : ∀ {b : Addr} {k : List (Key × V)}, H b = some (.dK k) → upd H L u b = some (.dK k) := fun {b k} q => by rw [upd_ne (fun z => by rw [z, hL] at q; cases q)]; exact q
  have nT : ∀ {b : Addr} {k : List (List Key × V)}, H b = some (.dT k) → upd H L u b = some (.dT k) := fun {b k} q => by rw [upd_ne (fun z => by rw [z, hL] at q; cases q)]; exact q
  have n1 : t ≠ L := fun z => by
    rw [z, hL] at h1
    injection h1 with h1
    injection h1 with h1
    cases es with
    | nil => cases h1
    | cons a l =>
      injection h1 with h1 _
      obtain ⟨xs, q⟩ := he a List.mem_cons_self
      injection h1 with h1
      rw [h1, h2] at q
      cases q
  have n2 : x ≠ L := fun z => by
    have q := hs.1
    rw [z, hL] at q
    injection q with q
    unfold SlX.SlO at q
    cases q
  have n3 : dx ≠ L := fun z => by have q := hs.2; rw [z, hL] at q; cases q
  exact ⟨⟨A, B, S, by rw [upd_ne n1]; exact h1, nK h2, nK h3, nT h4⟩, ⟨dx, ys, qs, ⟨PA, PB, PS, ws, ⟨by rw [upd_ne n2]; exact hs.1, by rw [upd_ne n3]; exact hs.2⟩, w1, w0, w2, nAB, nK hA, nK hB, nT hS⟩, h5⟩, h6⟩
theorem Olds.putL {Cp : Addr} {H : Hp} {L : Addr} {es es2 : List Addr} {u : HO} (h : Olds Cp H es2) (hL : H L = some (.lst (es.map V.ref))) (he : ∀ e ∈ es, ∃ xs, H e = some (.lst xs)) (nL : L ∉ es2) : Olds Cp (upd H L u) es2 := fun e m => by
  obtain ⟨x, t, zs, zs2, g, o, ps, h1, h2⟩ := h e m
  exact ⟨x, t, zs, zs2, g, o, ps, by rw [upd_ne (fun z => nL (by rw [← z]; exact m))]; exact h1, h2.putL hL he⟩
section
variable {P : Program} {w : World} {K : PySem.W.Frag} {mg : Str → Option Value} {base : Heap} {Cp : Addr}
def spRight02 : Sp := fun vs H Q _ => ∃ p, vs = [.ref p] ∧ Pot H p ∧ ∀ H', Ex p H H' → Q (.bl true) H'
abbrev N_law_right : List Str := ["_law_pot", "_law_tables_here", "_law_prices", "_law_elder", "_law_turn"]
theorem sc_law_right : FnScope N_law_right ["_law_pot"] (defScope (top 42)) := ⟨rfl, rfl, rfl, by decide +kernel, rfl, by decide +kernel, by decide +kernel⟩
theorem c_law_right02 (A : At K mg "_law_right" (top 42)) (B : Blt mg) (c_law_dip : Cal P w K mg base 1 "_law_dip" spDip) (c_law_signs : Cal P w K mg base 3 "_law_signs" spSignsL) (c_law_tables : Cal P w K mg base 3 "_law_tables" spTables) (c_law_made : Cal P w K mg base 6 "_law_made" (spMade02 Cp)) (c_law_copied : Cal P w K mg base 1 "_law_copied" spCopied)
    (c_law_deed : Cal P w K mg base 8 "_law_deed" (spDeed Cp)) (c_law_is_told : CalG P w K mg base 4 "_law_is_told" (spTold Cp)) (c_law_is_apart : CalG P w K mg base 7 "_law_is_apart" (spTold Cp)) : CalG P w K mg base 9 "_law_right" spRight02 := by
  refine calG_of A sc_law_right (fun _ _ _ _ _ _ us hl => match us, hl with | [_], _ => rfl) (fun vs H Q E h => ?_) (fun _ cdv A outer s H vs Q E gd hr h => ?_)
  · obtain ⟨_, rfl, _⟩ := h; rfl
  · obtain ⟨p, rfl, hp, hQ⟩ := h
    refine ⟨_, (pss_cons (ps_set (i := 1) sc_law_right.nd rfl (Or.inl rfl) (pe_c c_law_tables hr (by decide) (by rfl) (pa_cons (pv 0) (pa_cons (pe_c c_law_signs hr (by decide) (by rfl) (pa_cons (pv 0) pa_nil)) pa_nil))))
      (pss_cons (ps_par (i := 2) (j := 3) (by rfl) sc_law_right.nd rfl rfl (by decide) rfl rfl (pa_cons (pe_c c_law_made hr (by decide) (by rfl) (pa_cons (pv 1) pa_nil)) (pa_cons (pe_lst pa_nil) pa_nil)) (by rfl))
      (pss_cons (ps_for PassesOwn.never rfl (pi_range1 (by rfl) B.range (pa_cons (pe_op op_add pe_int (pe_c c_law_dip hr (by decide) (by rfl) (pa_cons (pv 0) (pa_cons pe_int pa_nil)))) pa_nil)) (pg_name (i := 4) sc_law_right.nd rfl (Or.inl rfl))
        (pss_cons (ps_expr (pe_bm PySem.F.plainAttrs_list PySem.F.slot_list_append PySem.F.type_list_append mt_append (pv 3) (pa_cons (pe_lst (pa_cons (pv 2) (pa_cons (pe_c c_law_copied hr (by decide) (by rfl) (pa_cons (pv 1) pa_nil)) pa_nil))) pa_nil)))
        (pss_cons (ps_asg (pe_c c_law_deed hr (by decide) (by rfl) (pa_cons (pv 0) (pa_cons (pv 2) (pa_cons (pv 1) pa_nil)))) (pg_lst rfl (pgs_cons (pg_name (i := 2) sc_law_right.nd rfl (Or.inl rfl)) (pgs_cons (pg_name (i := 1) sc_law_right.nd rfl (Or.inl rfl)) pgs_nil))))
        (pss_one (ps_if (pt_not (pt_val (pe_cG c_law_is_told gd hr (by decide) (by rfl) (pa_cons (pv 2) (pa_cons (pv 1) pa_nil)))))
          (pss_one (ps_ret pe_bl))
          pss_nil)))))
      (pss_cons (ps_for PassesOwn.never rfl (pi_list (pe_op op_cat (pv 3) (pe_lst (pa_cons (pe_lst (pa_cons (pv 2) (pa_cons (pv 1) pa_nil))) pa_nil)))) (pg_lst rfl (pgs_cons (pg_name (i := 2) sc_law_right.nd rfl (Or.inl rfl)) (pgs_cons (pg_name (i := 1) sc_law_right.nd rfl (Or.inl rfl)) pgs_nil)))
        (pss_one (ps_if (PW.pt (pw_or (pt_not (pt_val (pe_cG c_law_is_told gd hr (by decide) (by rfl) (pa_cons (pv 2) (pa_cons (pv 1) pa_nil))))) (pw_or1 (pt_not (pt_val (pe_cG c_law_is_apart gd hr (by decide) (by rfl) (pa_cons (pv 2) (pa_cons (pv 1) pa_nil))))))))
          (pss_one (ps_ret pe_bl))
          pss_nil)))
      (pss_one (ps_ret pe_bl)))))), ?_⟩
    have one : 1 ≤ sizeLine := by decide
    have two : 2 ≤ sizeLine := by decide
    have zero : 0 ≤ sizeLine := by decide
    have big : 1000 < sizeLine := by decide
    refine ⟨_, rfl, _, rfl, p, rfl, hp, fun l zs1 H1 ok fl ex1 hl => ?_⟩
    have nlp : l ≠ p := by obtain ⟨_, _, _, e⟩ := hp; exact (ne_of_none e fl).symm
    refine ⟨p, l, zs1, rfl, ex1.pot, nlp, hl, ok, fun t zs zs2 g o ps H2 ex2 RC N => ?_⟩
    have ex2' := ex1.trans ex2
    refine ⟨_, rfl, t, zs, zs2, g, o, ps, rfl, RC, N, fun x H3 e3 PS3 => ⟨zero, fun L hL => ⟨_, _, rfl, ?_⟩⟩⟩
    have ex3 : Ex p H H3 := ex2'.same e3
    have ST3 : StK Cp H3 x t zs zs2 g o ps := ⟨RC.same e3, PS3, N⟩
    have gL : H L = none := ex3.free hp hL
    have nLp : L ≠ p := by obtain ⟨_, _, _, e⟩ := ex3.pot; exact (ne_of_none e hL).symm
    have ex4 : Ex p H (upd H3 L (.lst [])) := ex3.new hL
    have ST4 : StK Cp (upd H3 L (.lst [])) x t zs zs2 g o ps := ST3.same (same_new hL)
    have u4 : upd H3 L (.lst []) L = some (.lst ([].map V.ref)) := upd_same
    generalize upd H3 L (.lst []) = H4 at ex4 ST4 u4 ⊢
    clear ex1 ex2 ex2' e3 PS3 ST3 RC N hl fl hL ex3
    obtain ⟨a, b, c, hp4⟩ := ex4.pot
    refine ⟨_, rfl, p, 5, a, b, c, rfl, hp4, by decide, by decide, fun r a' b' c' r0 r5 => ?_⟩
    have ex5 : Ex p H (upd H4 p (potO a' b' c')) := ex4.trans Ex.turn
    have ex45 : Ex p H4 (upd H4 p (potO a' b' c')) := Ex.turn
    have ST5 := ST4.ex ex45 ex4.pot
    have u5 := ex45.refs (bs := []) ex4.pot u4
    generalize upd H4 p (potO a' b' c') = H5 at ex5 ST5 u5 ⊢
    clear ex45 ST4 u4 ex4 hp4
    refine ⟨_, _, rfl, rfl, _, rfl, by omega, by omega, for_it (walk_range (lo := 0)) (fun i σ H' => (∃ x t o4 es zs zs2 g o ps, σ = [some (.ref p), some (.ref t), some (.ref x), some (.ref L), o4] ∧ StK Cp H' x t zs zs2 g o ps ∧ H' L = some (.lst (es.map V.ref)) ∧ es.length = i ∧ L ∉ es ∧ Olds Cp H' es) ∧ Ex p H H') ⟨⟨x, t, _, [], zs, zs2, g, o, ps, rfl, ST5, u5, rfl, List.not_mem_nil, fun _ h => (nomatch h)⟩, ex5⟩ (fun _ _ _ _ _ => trivial) (fun i v σ H6 H6' hi e hv => ?_) (fun σ H6 e => ?_)⟩
    · obtain ⟨rfl, hv⟩ := hv
      clear ST5 u5 ex5
      obtain ⟨⟨x, t, o4, es, zs, zs2, g, o, ps, rfl, ST, hL, le, nL, O⟩, ex⟩ := e
      obtain ⟨RC, PS0, N⟩ := id ST
      refine ⟨_, rfl, .inl ⟨rfl, _, SqL.of hL⟩, _, rfl, _, rfl, t, zs, zs2, g, o, ps, rfl, RC, N, fun t' CA CB CS H7 f0 fA fB fS nAB nAS nBS e7 v0 vA vB vS => ⟨two, fun e he => ?_⟩⟩
      have e8 := e7.trans (same_new (o := .lst [.ref x, .ref t']) he)
      have s8 := same_new (o := .lst [.ref x, .ref t']) he
      have u8 : upd H7 e (.lst [.ref x, .ref t']) e = some (.lst [.ref x, .ref t']) := upd_same
      have ST8 : StK Cp (upd H7 e (.lst [.ref x, .ref t'])) x t' zs zs2 g o ps := ⟨⟨CA, CB, CS, s8 _ _ v0, s8 _ _ vA, s8 _ _ vB, s8 _ _ vS⟩, PS0.same e8, N⟩
      have nLe : L ≠ e := ne_of_none (e7 _ _ hL) he
      generalize upd H7 e (.lst [.ref x, .ref t']) = H8 at e8 u8 ST8 ⊢
      clear s8 he e7 v0 vA vB vS f0 fA fB fS nAB nAS nBS
      have hL8 := e8 _ _ hL
      have O8 : Olds Cp H8 (es ++ [e]) := fun b hb => by
        rcases List.mem_append.mp hb with hb | hb
        · exact (O.same e8) b hb
        · rw [List.mem_singleton.mp hb]
          exact ⟨x, t', zs, zs2, g, o, ps, u8, ST8⟩
      refine ⟨L, _, _, rfl, rfl, hL8, (by rw [List.length_map]; omega), ?_⟩
      have nL9 : L ∉ es ++ [e] := fun z => by
        rcases List.mem_append.mp z with z | z
        · exact nL z
        · exact nLe (List.mem_singleton.mp z)
      have lstO : ∀ b ∈ es, ∃ xs, H8 b = some (.lst xs) := fun b hb => O8.lst b (List.mem_append_left _ hb)
      have O9 : Olds Cp (upd H8 L (.lst (es.map V.ref ++ [V.ref e]))) (es ++ [e]) := O8.putL hL8 lstO nL9
      have ST9 : StK Cp (upd H8 L (.lst (es.map V.ref ++ [V.ref e]))) x t zs zs2 g o ps := (ST.same e8).putL hL8 lstO
      have ex9 : Ex p H (upd H8 L (.lst (es.map V.ref ++ [V.ref e]))) := (ex.same e8).put gL nLp
      have hL9 : upd H8 L (.lst (es.map V.ref ++ [V.ref e])) L = some (.lst ((es ++ [e]).map V.ref)) := by rw [upd_same, List.map_append]; rfl
      generalize upd H8 L (.lst (es.map V.ref ++ [V.ref e])) = H9 at O9 ST9 ex9 hL9 ⊢
      clear O8 hL8 lstO ST8 u8 e8 O ST RC PS0 N hL ex
      refine ⟨_, rfl, _, rfl, _, rfl, p, x, t, zs, zs2, g, o, ps, rfl, ex9.pot, ST9, fun d x2 t2 zs' zs2' g' o' ps' H10 ex10 hd ST10 => ?_⟩
      refine ⟨d, _, rfl, SqL.of hd, rfl, _, _, rfl, _, _, rfl, rfl, ?_⟩
      refine ⟨_, rfl, _, rfl, x2, t2, zs', zs2', g', o', ps', rfl, ST10, fun H11 e11 => ⟨_, rfl, iteF ?_⟩⟩
      have O10 := O9.ex ex10 ex9.pot
      exact ⟨⟨x2, t2, _, es ++ [e], zs', zs2', g', o', ps', rfl, ST10.same e11, e11 _ _ (ex10.refs ex9.pot hL9), by rw [List.length_append, le]; rfl, nL9, O10.same e11⟩, (ex9.trans ex10).same e11⟩
    · obtain ⟨⟨x, t, o4, es, zs, zs2, g, o, ps, rfl, ST, hL, le, nL, O⟩, ex⟩ := e
      refine ⟨_, rfl, _, rfl, _, rfl, two, fun e he => ⟨one, fun l1 hl1 => ?_⟩⟩
      have s7 := same_new (o := .lst [.ref x, .ref t]) he
      have u7 : upd H6 e (.lst [.ref x, .ref t]) e = some (.lst [.ref x, .ref t]) := upd_same
      generalize upd H6 e (.lst [.ref x, .ref t]) = H7 at s7 u7 hl1 ⊢
      have s8 := s7.trans (same_new (o := .lst [.ref e]) hl1)
      have u8 := same_new (o := .lst [.ref e]) hl1 _ _ u7
      have w8 : upd H7 l1 (.lst [.ref e]) l1 = some (.lst [.ref e]) := upd_same
      generalize upd H7 l1 (.lst [.ref e]) = H8 at s8 u8 w8 ⊢
      refine ⟨L, l1, _, _, rfl, rfl, s8 _ _ hL, w8, (by rw [List.length_map, le]; show _ + 1 ≤ sizeLine; omega), fun l2 hl2 => ?_⟩
      have s9 := s8.trans (same_new (o := .lst (es.map V.ref ++ [V.ref e])) hl2)
      have O9 : Olds Cp (upd H8 l2 (.lst (es.map V.ref ++ [V.ref e]))) (es ++ [e]) := fun b hb => by
        rcases List.mem_append.mp hb with hb | hb
        · exact (O.same s9) b hb
        · rw [List.mem_singleton.mp hb]
          exact ⟨x, t, zs, zs2, g, o, ps, same_new hl2 _ _ u8, ST.same s9⟩
      have w9 : upd H8 l2 (.lst (es.map V.ref ++ [V.ref e])) l2 = some (.lst ((es ++ [e]).map V.ref)) := by rw [upd_same, List.map_append]; rfl
      have ex9 := ex.same s9
      rw [show es.map V.ref ++ [V.ref e] = (es ++ [e]).map V.ref by rw [List.map_append]; rfl] at s9 O9 w9 ex9 ⊢
      generalize upd H8 l2 (.lst ((es ++ [e]).map V.ref)) = H9 at s9 O9 w9 ex9 ⊢
      refine ⟨l2, rfl, ⟨_, SqL.of w9⟩, for_it walk_list (fun i σ H' => (∃ o1 o2 o3 o4, σ = [some (.ref p), o1, o2, o3, o4]) ∧ Same H9 H') ⟨⟨_, _, _, _, rfl⟩, Same.refl _⟩ (fun i σ H' _ e => SqL.of (e.2 _ _ w9)) (fun i v σ Ha Hb hi e hv => ?_) (fun σ H' e => hQ _ (ex9.same e.2))⟩
      obtain ⟨rfl, hv⟩ := hv
      obtain ⟨⟨o1, o2, o3, o4, rfl⟩, ea⟩ := e
      rw [List.getElem?_map] at hv
      obtain ⟨b, hb, rfl⟩ := Option.map_eq_some_iff.mp hv
      obtain ⟨x', t', zs', zs2', g', o', ps', h1, h2⟩ := O9.same ea b (List.mem_of_getElem? hb)
      refine ⟨b, _, rfl, SqL.of h1, rfl, _, _, rfl, _, _, rfl, rfl, ?_⟩
      refine ⟨_, rfl, _, rfl, x', t', zs', zs2', g', o', ps', rfl, h2, fun Hc ec => ⟨_, rfl, ?_⟩⟩
      refine iteF ⟨_, rfl, _, rfl, x', t', zs', zs2', g', o', ps', rfl, h2.same ec, fun Hd ed => ⟨_, rfl, iteF ?_⟩⟩
      exact ⟨⟨_, _, _, _, rfl⟩, (ea.trans ec).trans ed⟩
end
end MN
/-! the law -/
namespace MN
open PySem PySem.Spec PyProof.Rows L2
section
variable {P : Program} {w : World} {K : PySem.W.Frag} {mg : Str → Option Value} {base : Heap}
def spLaw (K : PySem.W.Frag) : Sp := fun vs H Q _ => ∃ (a : Addr) (ns : List Int), vs = [.ref a] ∧ SqL K H a (ns.map V.int) ∧ ns.length ≤ 1000 ∧ ∀ H', Q (.bl true) H'
abbrev N_law : List Str := ["_law_script", "_law_at"]
theorem sc_law : FnScope N_law ["_law_script"] (defScope (top 43)) := ⟨rfl, rfl, rfl, by decide +kernel, rfl, by decide +kernel, by decide +kernel⟩
theorem f_law {f : Addr} {fd : FuncData} (F : FunD K "law" "law" (defArgs (top 43)) (defBody (top 43)) (defScope (top 43)) [] [] f fd) (B : Blt mg) (c_law_filled : Cal P w K mg base 1 "_law_filled" (spFilled K)) (c_law_right02 : CalG P w K mg base 9 "_law_right" spRight02) :
    FnG P w K mg base 10 f fd ["_law_script"] (spLaw K) := by
  refine fnG_of F sc_law (fun vs H Q E h => ?_) (fun cdv A outer s H vs Q E gd hr h => ?_)
  · obtain ⟨_, _, rfl, _⟩ := h; rfl
  · obtain ⟨a, ns, rfl, ha, hns, hQ⟩ := h
    refine ⟨_, (pss_cons (ps_for PassesOwn.never rfl (pi_range1 (by rfl) B.range (pa_cons (pe_callB (call_max2 rfl) (by rfl) B.max (by decide +kernel) (pa_cons pe_int (pa_cons (pe_callB (call_min2 rfl) (by rfl) B.min (by decide +kernel) (pa_cons pe_int (pa_cons (pe_callB call_len_seq (by rfl) B.len (by decide +kernel) (pa_cons (pv 0) pa_nil)) pa_nil))) pa_nil))) pa_nil)) (pg_name (i := 1) sc_law.nd rfl (Or.inl rfl))
        (pss_one (ps_if (pt_not (pt_val (pe_cG c_law_right02 gd hr (by decide) (by rfl) (pa_cons (pe_c c_law_filled hr (by decide) (by rfl) (pa_cons (pv 0) (pa_cons (pv 1) pa_nil))) pa_nil))))
          (pss_one (ps_ret pe_bl))
          pss_nil)))
      (pss_one (ps_ret pe_bl))), ?_⟩
    have big : 1000 ≤ sizeLine := by decide
    refine ⟨_, rfl, a, _, rfl, .inl ha, _, _, rfl, _, _, rfl, _, rfl, ?_, ?_, for_it (walk_range (lo := 0)) (fun i σ H' => SqL K H' a (ns.map V.int) ∧ ∃ o1, σ = [some (.ref a), o1]) ⟨ha, _, rfl⟩ (fun _ _ _ _ _ => trivial) (fun i x σ H1 H1' hi e y => ?_) (fun σ H1 e => hQ _)⟩
    · split <;> split <;> omega
    · split <;> split <;> omega
    · obtain ⟨rfl, rfl⟩ := y
      obtain ⟨ha1, o1, rfl⟩ := e
      have ib : i < 1000 := by
        revert hi
        split <;> split <;> omega
      refine ⟨_, rfl, _, rfl, a, _, ns, rfl, ha1, by omega, by omega, fun p H2 hpn s2 hp2 => ?_⟩
      refine ⟨p, rfl, hp2, fun H3 ex => ⟨_, rfl, iteF ⟨?_, _, rfl⟩⟩⟩
      rcases ha1 with (h | ⟨od, h⟩) | h
      · exact .inl (.inl (ex.keep _ _ (ne_of_none h hpn) (s2 _ _ h)))
      · exact .inl (.inr ⟨od, ex.keep _ _ (ne_of_none h hpn) (s2 _ _ h)⟩)
      · exact .inr h
end
end MN
/-! the class Prices of k02 in the head's run; InvalidOperation; global names -/
namespace MN
open PySem PySem.Spec PyProof.Rows L2
theorem slB_at {K : PySem.W.Frag} {C : Addr} {f : Str} {i : Nat} (h : slB K C f = true) (hi : PySem.W.slotIn K (He.ma K C f) C = some i) : ∃ p, SlX.Slot1 K C f p i := by
  obtain ⟨h1, h⟩ := He.ba h
  obtain ⟨h2, h⟩ := He.ba h
  obtain ⟨h3, h⟩ := He.ba h
  obtain ⟨h4, h5⟩ := He.ba h
  rw [hi] at h5
  exact ⟨_, He.eqO_ok h1, He.eqO_ok h2, of_decide_eq_true h3, of_decide_eq_true h4, hi, of_decide_eq_true h5⟩
def slotCB (K : PySem.W.Frag) (C : Addr) : Bool := scB K C && ((slB K C "own_out" && decide (PySem.W.slotIn K (He.ma K C "own_out") C = some 0)) && ((slB K C "own_put" && decide (PySem.W.slotIn K (He.ma K C "own_put") C = some 1)) && (slB K C "own_swap" && decide (PySem.W.slotIn K (He.ma K C "own_swap") C = some 2))))
theorem slotCB_ok {K : PySem.W.Frag} {C : Addr} (h : slotCB K C = true) : SlotC K C := by
  obtain ⟨h0, h⟩ := He.ba h
  obtain ⟨h1, h⟩ := He.ba h
  obtain ⟨h2, h3⟩ := He.ba h
  obtain ⟨a1, b1⟩ := He.ba h1
  obtain ⟨a2, b2⟩ := He.ba h2
  obtain ⟨a3, b3⟩ := He.ba h3
  exact ⟨scB_ok h0, slB_at a1 (of_decide_eq_true b1), slB_at a2 (of_decide_eq_true b2), slB_at a3 (of_decide_eq_true b3)⟩
def propB (K : PySem.W.Frag) (C : Addr) (f : Str) : Bool := He.eqO (PySem.W.findIn K (.ref C) f) (some (some (.ref (He.ma K C f)))) && (He.eqO (PySem.W.specialIn K (.ref (He.ma K C f)) "__get__") (some (some (.builtin "property.__get__"))) && (decide (PySem.W.takesIn K (.ref (He.ma K C f)) = some true) && (match PySem.W.recIn K (He.ma K C f) "property" with
  | some (.ref _ :: _) => true
  | _ => false)))
theorem propB_ok {K : PySem.W.Frag} {C : Addr} {f : Str} (h : propB K C f = true) : PropOf K C f (He.ma K C f) (He5.wf K C "property" f) := by
  obtain ⟨h1, h⟩ := He.ba h
  obtain ⟨h2, h⟩ := He.ba h
  obtain ⟨h3, h4⟩ := He.ba h
  refine ⟨He.eqO_ok h1, He.eqO_ok h2, of_decide_eq_true h3, ?_⟩
  unfold He5.wf
  split at h4
  · rename_i g r e
    exact ⟨r, by rw [e]⟩
  · cases h4
abbrev gP (K : PySem.W.Frag) : Addr := He.ga K "Prices"
def spcB (K : PySem.W.Frag) (C : Addr) (f : Str) : Bool := He.eqO (PySem.W.findIn K (.ref C) f) (some (some (.ref (He.ma K C f)))) && PySem.W.isFn K (.ref (He.ma K C f))
def pdB1 (K : PySem.W.Frag) : Bool := slotCB K (gP K) && ((He.Fa.mkr "Prices").ok K && (siB K (gP K) && (decide (PySem.W.kitOne K (.ref (gP K)) (.ref (gP K)) = some true) && (decide (PySem.W.kitOne K (.type "list") (.ref (gP K)) = some false) && (decide (PySem.W.kitOne K (.type "int") (.ref (gP K)) = some false) &&
  (propB K (gP K) "put" && (propB K (gP K) "out" && (propB K (gP K) "swap" && (propB K (gP K) "signs" && propB K (gP K) "smallest")))))))))
def pdB2 (K : PySem.W.Frag) : Bool := spcB K (gP K) "__eq__" && (He.eqO (PySem.W.findIn K (.ref (gP K)) "__ne__") (some (some (.builtin "object.__ne__"))) && (decide (PySem.W.subIn K (.ref (gP K)) (.type "object") = some true) && (PySem.W.notFirst K (gP K) (.type "list") && (PySem.W.notFirst K (gP K) (.type "int") && (PySem.W.notFirst K (gP K) (.ref (gP K)) &&
  (spcB K (gP K) "__len__" && (spcB K (gP K) "__contains__" && (spcB K (gP K) "__str__" && ((He.Fa.meth "Prices" "with_price").ok K && ((He.Fa.meth "Prices" "limited").ok K && (He.Fa.meth "Prices" "times").ok K))))))))))
theorem pd_ok {K : PySem.W.Frag} {mg : Str → Option Value} {f0 f1 f2 f3 f4 f5 f6 f7 f8 f9 f10 f11 f12 : FuncData} (h1 : pdB1 K = true) (h2 : pdB2 K = true) (gp : mg "Prices" = some (.ref (He.ga K "Prices"))) (ev : EvnC K (He.ga K "Prices"))
    (F0 : FunAt K "__init__" "Prices.__init__" (inClass (top 26) 1) [] (He.ma K (gP K) "__init__") f0)
    (F1 : FunAt K "put" "Prices.put" (inClass (top 26) 4) [] (He5.wf K (gP K) "property" "put") f1) (F2 : FunAt K "out" "Prices.out" (inClass (top 26) 5) [] (He5.wf K (gP K) "property" "out") f2) (F3 : FunAt K "swap" "Prices.swap" (inClass (top 26) 6) [] (He5.wf K (gP K) "property" "swap") f3)
    (F4 : FunAt K "signs" "Prices.signs" (inClass (top 26) 3) [] (He5.wf K (gP K) "property" "signs") f4) (F5 : FunAt K "smallest" "Prices.smallest" (inClass (top 26) 7) [] (He5.wf K (gP K) "property" "smallest") f5)
    (F6 : FunAt K "__eq__" "Prices.__eq__" (inClass (top 26) 16) [] (He.ma K (gP K) "__eq__") f6) (F7 : FunAt K "__len__" "Prices.__len__" (inClass (top 26) 15) [] (He.ma K (gP K) "__len__") f7)
    (F8 : FunAt K "__contains__" "Prices.__contains__" (inClass (top 26) 14) [] (He.ma K (gP K) "__contains__") f8) (F9 : FunAt K "__str__" "Prices.__str__" (inClass (top 26) 17) [] (He.ma K (gP K) "__str__") f9)
    (F10 : FunAt K "with_price" "Prices.with_price" (inClass (top 26) 11) [] (He.ma K (gP K) "with_price") f10) (F11 : FunAt K "limited" "Prices.limited" (inClass (top 26) 12) [] (He.ma K (gP K) "limited") f11) (F12 : FunAt K "times" "Prices.times" (inClass (top 26) 13) [] (He.ma K (gP K) "times") f12) :
    PrD K mg (He.ga K "Prices") := by
  obtain ⟨a1, h⟩ := He.ba h1
  obtain ⟨a2, h⟩ := He.ba h
  obtain ⟨a3, h⟩ := He.ba h
  obtain ⟨a4, h⟩ := He.ba h
  obtain ⟨a5, h⟩ := He.ba h
  obtain ⟨a6, h⟩ := He.ba h
  obtain ⟨a7, h⟩ := He.ba h
  obtain ⟨a8, h⟩ := He.ba h
  obtain ⟨a9, h⟩ := He.ba h
  obtain ⟨a10, a11⟩ := He.ba h
  obtain ⟨b1, h⟩ := He.ba h2
  obtain ⟨b2, h⟩ := He.ba h
  obtain ⟨b3, h⟩ := He.ba h
  obtain ⟨b4, h⟩ := He.ba h
  obtain ⟨b5, h⟩ := He.ba h
  obtain ⟨b6, h⟩ := He.ba h
  obtain ⟨b7, h⟩ := He.ba h
  obtain ⟨b8, h⟩ := He.ba h
  obtain ⟨b9, h⟩ := He.ba h
  obtain ⟨b10, h⟩ := He.ba h
  obtain ⟨b11, b12⟩ := He.ba h
  obtain ⟨c1, d1⟩ := He.ba b1
  obtain ⟨c7, d7⟩ := He.ba b7
  obtain ⟨c8, d8⟩ := He.ba b8
  obtain ⟨c9, d9⟩ := He.ba b9
  exact ⟨slotCB_ok a1, gp, ⟨_, f0, He.mkr_ok a2, F0⟩, siB_ok a3, of_decide_eq_true a4, of_decide_eq_true a5, of_decide_eq_true a6, ⟨_, _, f1, propB_ok a7, F1⟩, ⟨_, _, f2, propB_ok a8, F2⟩, ⟨_, _, f3, propB_ok a9, F3⟩, ⟨_, _, f4, propB_ok a10, F4⟩, ⟨_, _, f5, propB_ok a11, F5⟩,
    ⟨_, f6, He.eqO_ok c1, d1, F6⟩, He.eqO_ok b2, of_decide_eq_true b3, b4, b5, b6, ⟨_, f7, He.eqO_ok c7, d7, F7⟩, ⟨_, f8, He.eqO_ok c8, d8, F8⟩, ⟨_, f9, He.eqO_ok c9, d9, F9⟩, ⟨_, f10, He.meth_ok b10, F10⟩, ⟨_, f11, He.meth_ok b11, F11⟩, ⟨_, f12, He.meth_ok b12, F12⟩, ev⟩
theorem errC_ok {K : PySem.W.Frag} {mg : Str → Option Value} (gi : mg "InvalidOperation" = some (.ref (He.ga K "InvalidOperation"))) (h1 : (He.Fa.exc "InvalidOperation").ok K = true) (h2 : (He.Fa.exm "InvalidOperation" "InvalidOperation" true).ok K = true) : ErrC K mg (He.ga K "InvalidOperation") := by
  obtain ⟨a, b, c, d⟩ := He.exc_ok h1
  exact ⟨gi, a, b, c, d, He.exm_ok h2⟩
end MN
/-! the runs of the head -/
namespace MN
open PySem PySem.Spec PyProof.Rows L2
abbrev R02 : PySem.W.OpenRow := PySem.W.OpenLaw.row PySem.Challenge.rw_mendnumber_k02_whole_histories_of_prices
def names02 : List Str := ([("_wall" : Str), ("MendError" : Str), ("InvalidWord" : Str), ("InvalidPrices" : Str), ("InvalidChange" : Str), ("InvalidOperation" : Str), ("InvalidNumber" : Str), ("SIGNS" : Str)] : List Str) ++ ([("GREATEST" : Str), ("is_integer" : Str), ("is_sign" : Str), ("are_signs" : Str), ("require_signs" : Str), ("require_number" : Str), ("MAX_PRICE" : Str), ("MAX_SWAP" : Str)] : List Str) ++ ([("PUT" : Str), ("OUT" : Str), ("SWAP" : Str), ("is_price" : Str), ("is_pair" : Str), ("are_prices" : Str), ("is_kind_of_change" : Str), ("Prices" : Str)] : List Str) ++ ([("_law_filled" : Str), ("_law_dip" : Str), ("_law_choose" : Str), ("_law_shuffled" : Str), ("_law_signs" : Str), ("_law_tables" : Str), ("_law_made" : Str), ("_law_copied" : Str)] : List Str) ++ ([("_law_with" : Str), ("_law_fewer" : Str), ("_law_times" : Str), ("_law_deed" : Str), ("_law_is_told" : Str), ("_law_is_apart" : Str), ("_law_right" : Str)] : List Str)
def defs02a : List He5.DefA := [gDef "is_integer" (top 11),
  gDef "is_sign" (top 12),
  gDef "are_signs" (top 13),
  gDef "require_signs" (top 14),
  gDef "require_number" (top 15),
  gDef "is_price" (top 22),
  gDef "is_pair" (top 23),
  gDef "are_prices" (top 24),
  gDef "is_kind_of_change" (top 25)]
def glo02a : List Str := ([("is_integer" : Str), ("is_sign" : Str), ("are_signs" : Str), ("require_signs" : Str), ("require_number" : Str), ("is_price" : Str), ("is_pair" : Str), ("are_prices" : Str)] : List Str) ++ ([("is_kind_of_change" : Str), ("InvalidOperation" : Str)] : List Str)
def ex02a (K : PySem.W.Frag) : Bool := gloAll K glo02a && (freeAll K bltNames && ((He.Fa.str "SIGNS" "abcde").ok K && ((He.Fa.int "GREATEST" (10 ^ 60)).ok K && ((He.Fa.int "MAX_PRICE" 9).ok K && ((He.Fa.int "MAX_SWAP" 18).ok K && ((He.Fa.str "PUT" "put").ok K && ((He.Fa.str "OUT" "out").ok K && ((He.Fa.str "SWAP" "swap").ok K && ((He.Fa.exc "InvalidOperation").ok K && ((He.Fa.exm "InvalidOperation" "InvalidOperation" true).ok K))))))))))
def defs02b : List He5.DefA := [{ at_ := fun K => He.ma K (He.ga K "Prices") "__init__", name := "__init__", qual := "Prices.__init__", params := defArgs (inClass (top 26) 1), body := defBody (inClass (top 26) 1), scope := defScope (inClass (top 26) 1) },
  { at_ := fun K => He.ma K (He.ga K "Prices") "__eq__", name := "__eq__", qual := "Prices.__eq__", params := defArgs (inClass (top 26) 16), body := defBody (inClass (top 26) 16), scope := defScope (inClass (top 26) 16) },
  { at_ := fun K => He.ma K (He.ga K "Prices") "__len__", name := "__len__", qual := "Prices.__len__", params := defArgs (inClass (top 26) 15), body := defBody (inClass (top 26) 15), scope := defScope (inClass (top 26) 15) },
  { at_ := fun K => He.ma K (He.ga K "Prices") "__contains__", name := "__contains__", qual := "Prices.__contains__", params := defArgs (inClass (top 26) 14), body := defBody (inClass (top 26) 14), scope := defScope (inClass (top 26) 14) },
  { at_ := fun K => He.ma K (He.ga K "Prices") "__str__", name := "__str__", qual := "Prices.__str__", params := defArgs (inClass (top 26) 17), body := defBody (inClass (top 26) 17), scope := defScope (inClass (top 26) 17) },
  { at_ := fun K => He.ma K (He.ga K "Prices") "with_price", name := "with_price", qual := "Prices.with_price", params := defArgs (inClass (top 26) 11), body := defBody (inClass (top 26) 11), scope := defScope (inClass (top 26) 11) },
  { at_ := fun K => He.ma K (He.ga K "Prices") "limited", name := "limited", qual := "Prices.limited", params := defArgs (inClass (top 26) 12), body := defBody (inClass (top 26) 12), scope := defScope (inClass (top 26) 12) },
  { at_ := fun K => He.ma K (He.ga K "Prices") "times", name := "times", qual := "Prices.times", params := defArgs (inClass (top 26) 13), body := defBody (inClass (top 26) 13), scope := defScope (inClass (top 26) 13) },
  { at_ := fun K => He5.wf K (He.ga K "Prices") "property" "put", name := "put", qual := "Prices.put", params := defArgs (inClass (top 26) 4), body := defBody (inClass (top 26) 4), scope := defScope (inClass (top 26) 4) },
  { at_ := fun K => He5.wf K (He.ga K "Prices") "property" "out", name := "out", qual := "Prices.out", params := defArgs (inClass (top 26) 5), body := defBody (inClass (top 26) 5), scope := defScope (inClass (top 26) 5) },
  { at_ := fun K => He5.wf K (He.ga K "Prices") "property" "swap", name := "swap", qual := "Prices.swap", params := defArgs (inClass (top 26) 6), body := defBody (inClass (top 26) 6), scope := defScope (inClass (top 26) 6) },
  { at_ := fun K => He5.wf K (He.ga K "Prices") "property" "signs", name := "signs", qual := "Prices.signs", params := defArgs (inClass (top 26) 3), body := defBody (inClass (top 26) 3), scope := defScope (inClass (top 26) 3) },
  { at_ := fun K => He5.wf K (He.ga K "Prices") "property" "smallest", name := "smallest", qual := "Prices.smallest", params := defArgs (inClass (top 26) 7), body := defBody (inClass (top 26) 7), scope := defScope (inClass (top 26) 7) },
  { at_ := fun K => He5.wf K (He.ga K "Prices") "classmethod" "even", name := "even", qual := "Prices.even", params := defArgs (inClass (top 26) 2), body := defBody (inClass (top 26) 2), scope := defScope (inClass (top 26) 2), dfl := [.int 1] }]
def glo02b : List Str := ([("Prices" : Str)] : List Str)
def ex02b (K : PySem.W.Frag) : Bool := gloAll K glo02b && (pdB1 K && (pdB2 K && (rdB K (He.ga K "Prices") && (cmB K (He.ga K "Prices") "even"))))
def defs02c : List He5.DefA := [gDef "_law_filled" (top 28),
  gDef "_law_dip" (top 29),
  gDef "_law_choose" (top 30),
  gDef "_law_shuffled" (top 31),
  gDef "_law_signs" (top 32),
  gDef "_law_tables" (top 33),
  gDef "_law_made" (top 34),
  gDef "_law_copied" (top 35),
  gDef "_law_with" (top 36),
  gDef "_law_fewer" (top 37),
  gDef "_law_times" (top 38),
  gDef "_law_deed" (top 39),
  gDef "_law_is_told" (top 40),
  gDef "_law_is_apart" (top 41),
  gDef "_law_right" (top 42),
  gDef "law" (top 43)]
def glo02c : List Str := ([("_law_filled" : Str), ("_law_dip" : Str), ("_law_choose" : Str), ("_law_shuffled" : Str), ("_law_signs" : Str), ("_law_tables" : Str), ("_law_made" : Str), ("_law_copied" : Str)] : List Str) ++ ([("_law_with" : Str), ("_law_fewer" : Str), ("_law_times" : Str), ("_law_deed" : Str), ("_law_is_told" : Str), ("_law_is_apart" : Str), ("_law_right" : Str), ("law" : Str)] : List Str)
def ex02c (K : PySem.W.Frag) : Bool := gloAll K glo02c
def ps02 : List Look := [(ex02a, defs02a), (ex02b, defs02b), (ex02c, defs02c)]
set_option maxHeartbeats 0 in
theorem runL02 : RunL R02 20000 := by
  intro w os
  kernel_rfl
set_option maxHeartbeats 0 in
theorem runN02 : RunN R02 20000 (PySem.W.view R02.prog [43]) names02 := by
  intro w os
  kernel_rfl
set_option maxHeartbeats 0 in
theorem runP02a : RunP R02 20000 1100 (ex02a, defs02a) := by
  intro w os
  kernel_rfl
set_option maxHeartbeats 0 in
theorem runP02b : RunP R02 20000 1100 (ex02b, defs02b) := by
  intro w os
  kernel_rfl
set_option maxHeartbeats 0 in
theorem runP02c : RunP R02 20000 1100 (ex02c, defs02c) := by
  intro w os
  kernel_rfl
theorem run02 (w : World) : HandSHeadRun.RunEq R02 (PySem.W.view R02.prog [43]) (hookL 1100 ps02) (obL 1100 ps02) 20000 names02 w := run_of R02 20000 runL02 runN02 (fun p hp => by
  simp only [ps02, List.mem_cons, List.not_mem_nil, or_false] at hp
  rcases hp with rfl | rfl | rfl
  · exact runP02a
  · exact runP02b
  · exact runP02c) w
end MN
/-! the facts and the end -/
namespace MN
open PySem PySem.Spec PyProof.Rows L2
section
variable {P : Program} {w : World} {K : PySem.W.Frag} {h : Heap} {mg : Str → Option Value}
theorem at02 {ex : PySem.W.Frag → Bool} {defs : List He5.DefA} {glo : List Str} (X : K.In h) (G : h.Ns mainGlobals mg) (c : SaysX ex defs K) (hg : gloAll K glo = true) (i : Nat) (x : Str) (st : Stmt) (hi : defs[i]? = some (gDef x st)) (hx : x ∈ glo) : At K mg x st := by
  obtain ⟨fd, F⟩ := c.def_ i hi
  exact ⟨_, fd, F, gloAll_ok X G hg hx⟩
theorem facts02 {f : Addr} (X : K.In h) (G : h.Ns mainGlobals mg) (hfa : mg ("law" : Str) = some (.ref f)) (cc : ∀ p ∈ ps02, SaysX p.1 p.2 K) :
    ∃ fd : FuncData, (∀ (s : Shared) (v : Value), BindsTo s fd ⟨[v], []⟩ [("_law_script", v)]) ∧ ∀ base : Heap, K.In base → base.Ns mainGlobals mg → FnG P w K mg base 10 f fd ["_law_script"] (spLaw K) := by
  have sa : SaysX ex02a defs02a K := cc (ex02a, defs02a) List.mem_cons_self
  obtain ⟨ga, e⟩ := He.ba sa.all
  obtain ⟨a0, e⟩ := He.ba e
  obtain ⟨a1, e⟩ := He.ba e
  obtain ⟨a2, e⟩ := He.ba e
  obtain ⟨a3, e⟩ := He.ba e
  obtain ⟨a4, e⟩ := He.ba e
  obtain ⟨a5, e⟩ := He.ba e
  obtain ⟨a6, e⟩ := He.ba e
  obtain ⟨a7, e⟩ := He.ba e
  obtain ⟨a8, e⟩ := He.ba e
  have a9 := e
  clear e
  have sb : SaysX ex02b defs02b K := cc (ex02b, defs02b) (List.mem_cons_of_mem _ List.mem_cons_self)
  obtain ⟨gb, e⟩ := He.ba sb.all
  obtain ⟨b0, e⟩ := He.ba e
  obtain ⟨b1, e⟩ := He.ba e
  obtain ⟨b2, e⟩ := He.ba e
  have b3 := e
  clear e
  have sc : SaysX ex02c defs02c K := cc (ex02c, defs02c) (List.mem_cons_of_mem _ (List.mem_cons_of_mem _ List.mem_cons_self))
  have gc : gloAll K glo02c = true := sc.all
  have G_GREATEST := intC_ok X G a2
  have G_MAX_PRICE := intC_ok X G a3
  have G_MAX_SWAP := intC_ok X G a4
  have B : Blt mg := Blt.of (freeAll_ok X G a0) (strC_ok X G a1)
  obtain ⟨FEd, FE⟩ := sb.def_ 13
  have EV : EvnC K (He.ga K "Prices") := ⟨_, _, _, FEd, rdB_ok b2, cmB_ok b3, FE⟩
  obtain ⟨PD0_d, PD0_⟩ := sb.def_ 0
  obtain ⟨PD1_d, PD1_⟩ := sb.def_ 8
  obtain ⟨PD2_d, PD2_⟩ := sb.def_ 9
  obtain ⟨PD3_d, PD3_⟩ := sb.def_ 10
  obtain ⟨PD4_d, PD4_⟩ := sb.def_ 11
  obtain ⟨PD5_d, PD5_⟩ := sb.def_ 12
  obtain ⟨PD6_d, PD6_⟩ := sb.def_ 1
  obtain ⟨PD7_d, PD7_⟩ := sb.def_ 2
  obtain ⟨PD8_d, PD8_⟩ := sb.def_ 3
  obtain ⟨PD9_d, PD9_⟩ := sb.def_ 4
  obtain ⟨PD10_d, PD10_⟩ := sb.def_ 5
  obtain ⟨PD11_d, PD11_⟩ := sb.def_ 6
  obtain ⟨PD12_d, PD12_⟩ := sb.def_ 7
  have PD := pd_ok (mg := mg) b0 b1 (gloAll_ok X G gb (x := "Prices") (by decide +kernel)) EV PD0_ PD1_ PD2_ PD3_ PD4_ PD5_ PD6_ PD7_ PD8_ PD9_ PD10_ PD11_ PD12_
  have hm_Prices := PD.gp
  have GL : GlP mg := ⟨strC_ok X G a7, strC_ok X G a5, strC_ok X G a6, G_MAX_PRICE, G_MAX_SWAP, G_GREATEST⟩
  have ER := errC_ok (gloAll_ok X G ga (x := "InvalidOperation") (by decide +kernel)) a8 a9
  have G_SWAP := GL.S
  have G_PUT := GL.P
  have G_OUT := GL.O
  obtain ⟨fd, F⟩ := sc.def_ 15
  have e := hfa.symm.trans (gloAll_ok X G gc (x := "law") (by decide +kernel))
  cases e
  have b := FunD.bindsA (ps := ["_law_script"]) F fun _ _ _ _ _ _ us hl => match us, hl with | [_], _ => rfl
  refine ⟨fd, fun s v => b s [v] rfl, fun base _ _ => ?_⟩
  have aa := fun i x st hi hx => at02 (mg := mg) (glo := glo02a) X G sa ga i x st hi hx
  have ab := fun i x st hi hx => at02 (mg := mg) (glo := glo02b) X G sb gb i x st hi hx
  have ac := fun i x st hi hx => at02 (mg := mg) (glo := glo02c) X G sc gc i x st hi hx
  have h_c_is_integer := MN.c_is_integer (P := P) (w := w) (K := K) (mg := mg) (base := base)  (aa 0 _ _ rfl (by decide +kernel)) B G_GREATEST
  have h_c_is_sign := MN.c_is_sign (P := P) (w := w) (K := K) (mg := mg) (base := base)  (aa 1 _ _ rfl (by decide +kernel)) B
  have h_c_are_signs := MN.c_are_signs (P := P) (w := w) (K := K) (mg := mg) (base := base)  (aa 2 _ _ rfl (by decide +kernel)) B h_c_is_sign
  have h_c_require_signs := MN.c_require_signs (P := P) (w := w) (K := K) (mg := mg) (base := base)  (aa 3 _ _ rfl (by decide +kernel)) h_c_are_signs
  have h_c_require_number := MN.c_require_number (P := P) (w := w) (K := K) (mg := mg) (base := base)  (aa 4 _ _ rfl (by decide +kernel)) h_c_is_integer
  have h_c_is_price := MN.c_is_price (P := P) (w := w) (K := K) (mg := mg) (base := base)  (aa 5 _ _ rfl (by decide +kernel)) h_c_is_integer
  have h_c_is_pair := MN.c_is_pair (P := P) (w := w) (K := K) (mg := mg) (base := base)  (aa 6 _ _ rfl (by decide +kernel)) B h_c_is_sign
  have h_c_are_prices2 := MN.c_are_prices2 (P := P) (w := w) (K := K) (mg := mg) (base := base)  (aa 7 _ _ rfl (by decide +kernel)) B G_MAX_PRICE G_MAX_SWAP h_c_is_sign h_c_is_price h_c_is_pair
  have h_c_are_prices3 := MN.c_are_prices3 (P := P) (w := w) (K := K) (mg := mg) (base := base)  (aa 7 _ _ rfl (by decide +kernel)) B G_MAX_PRICE G_MAX_SWAP h_c_is_sign h_c_is_price h_c_is_pair
  have h_c_kic := MN.c_kic (P := P) (w := w) (K := K) (mg := mg) (base := base)  (aa 8 _ _ rfl (by decide +kernel)) B G_SWAP G_PUT G_OUT h_c_is_sign h_c_is_pair
  have h_c_law_filled := MN.c_law_filled (P := P) (w := w) (K := K) (mg := mg) (base := base)  (ac 0 _ _ rfl (by decide +kernel)) B
  have h_c_law_dip := MN.c_law_dip (P := P) (w := w) (K := K) (mg := mg) (base := base)  (ac 1 _ _ rfl (by decide +kernel)) B
  have h_c_law_choose := MN.c_law_choose (P := P) (w := w) (K := K) (mg := mg) (base := base)  (ac 2 _ _ rfl (by decide +kernel)) B h_c_law_dip
  have h_c_law_shuffled := MN.c_law_shuffled (P := P) (w := w) (K := K) (mg := mg) (base := base)  (ac 3 _ _ rfl (by decide +kernel)) B h_c_law_dip
  have h_c_law_signs02 := MN.c_law_signs02 (P := P) (w := w) (K := K) (mg := mg) (base := base)  (ac 4 _ _ rfl (by decide +kernel)) B h_c_law_dip h_c_law_shuffled
  have h_c_law_tables := MN.c_law_tables (P := P) (w := w) (K := K) (mg := mg) (base := base)  (ac 5 _ _ rfl (by decide +kernel)) B h_c_law_dip h_c_law_choose h_c_law_shuffled
  have h_c_law_made02 := MN.c_law_made02 (P := P) (w := w) (K := K) (mg := mg) (base := base)  (ac 6 _ _ rfl (by decide +kernel)) B PD.sp hm_Prices PD.ip h_c_are_prices2
  have h_c_law_copied := MN.c_law_copied (P := P) (w := w) (K := K) (mg := mg) (base := base)  (ac 7 _ _ rfl (by decide +kernel)) B
  have h_c_law_with := MN.c_law_with (P := P) (w := w) (K := K) (mg := mg) (base := base)  (ac 8 _ _ rfl (by decide +kernel)) B PD GL h_c_kic h_c_is_price h_c_are_prices2 h_c_law_dip h_c_law_choose h_c_law_copied
  have h_c_law_fewer := MN.c_law_fewer (P := P) (w := w) (K := K) (mg := mg) (base := base)  (ac 9 _ _ rfl (by decide +kernel)) B PD h_c_require_signs h_c_are_prices2 h_c_law_dip h_c_law_shuffled
  have h_c_law_times := MN.c_law_times (P := P) (w := w) (K := K) (mg := mg) (base := base)  (ac 10 _ _ rfl (by decide +kernel)) B PD ER GL h_c_are_prices3 h_c_are_prices2 h_c_require_number h_c_law_choose
  have h_c_law_deed := MN.c_law_deed (P := P) (w := w) (K := K) (mg := mg) (base := base)  (ac 11 _ _ rfl (by decide +kernel)) B PD GL h_c_are_prices2 h_c_require_signs h_c_require_number h_c_law_dip h_c_law_signs02 h_c_law_with h_c_law_fewer h_c_law_times
  have h_c_law_is_told := MN.c_law_is_told (P := P) (w := w) (K := K) (mg := mg) (base := base)  (ac 12 _ _ rfl (by decide +kernel)) B PD h_c_is_sign
  have h_c_law_is_apart := MN.c_law_is_apart (P := P) (w := w) (K := K) (mg := mg) (base := base)  (ac 13 _ _ rfl (by decide +kernel)) B PD GL h_c_kic h_c_is_price h_c_are_prices2 h_c_law_made02 h_c_law_is_told
  have h_c_law_right02 := MN.c_law_right02 (P := P) (w := w) (K := K) (mg := mg) (base := base)  (ac 14 _ _ rfl (by decide +kernel)) B h_c_law_dip h_c_law_signs02 h_c_law_tables h_c_law_made02 h_c_law_copied h_c_law_deed h_c_law_is_told h_c_law_is_apart
  exact f_law F B h_c_law_filled h_c_law_right02
end
end MN
open PySem PySem.W PySem.Calls PyProof.Rows
set_option maxHeartbeats 0 in
theorem PySem.Challenge.cw_mendnumber_k02_whole_histories_of_prices_holds : PySem.Challenge.rw_mendnumber_k02_whole_histories_of_prices.Holds := by
  w_on; o_law
  refine HandSHeadRun.head_any (r := OpenLaw.row PySem.Challenge.rw_mendnumber_k02_whole_histories_of_prices) (q := view (OpenLaw.row PySem.Challenge.rw_mendnumber_k02_whole_histories_of_prices).prog [43]) (H := MN.hookL 1100 MN.ps02) (ob := MN.obL 1100 MN.ps02) (M := 20000) (loose := MN.names02) (d := HandSHeadRun.topDef (OpenLaw.row PySem.Challenge.rw_mendnumber_k02_whole_histories_of_prices).prog 43) (kwd := []) (MN.obL_eq 1100 MN.ps02)
    (by kernel_rfl) (fun s => by kernel_rfl) MN.run02 (by kernel_rfl) (by kernel_rfl) (by kernel_rfl) (by rfl) (by first | assumption | decide +kernel) (by decide +kernel) ⟨rfl, rfl, rfl, rfl, rfl, by decide +kernel⟩ ?hw ?hc
  case hw => w_witness2
  case hc =>
    refine MN.walk_g (l := PySem.Challenge.rw_mendnumber_k02_whole_histories_of_prices) (n := 63) (k := 10) (x := "_law_script") rfl (by decide) (by kernel_rfl) ⟨rfl, by decide, by decide⟩ ?F
    intro w mg fa h Y G hmg0
    obtain ⟨K, KX, c⟩ := Y
    have hmg : mg ("law" : PySem.Str) = some (.ref fa) := by
      have e : (HandSHeadRun.topDef (OpenLaw.row PySem.Challenge.rw_mendnumber_k02_whole_histories_of_prices).prog 43).name = ("law" : PySem.Str) := by kernel_rfl
      rw [← e]
      exact hmg0
    obtain ⟨fd, hb, hF⟩ := MN.facts02 (P := (PySem.Challenge.rw_mendnumber_k02_whole_histories_of_prices).prog) (w := w) KX G hmg c
    exact ⟨K, fd, MN.spLaw K, KX, hb, fun H a ns hl _ hS => ⟨a, ns, rfl, hS, Nat.le_trans hl (by decide), fun _ => rfl⟩, hF⟩
